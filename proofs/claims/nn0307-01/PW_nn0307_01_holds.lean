import PyProof.Rows.All
import Wide.All
import OpenK.AllK
import Wide.FinOn
import PySem.Challenge.RW_nn0307_01
set_option Elab.async false
set_option bootstrap.genMatcherCode false
set_option compiler.extract_closed false
set_option genSizeOf false
set_option genInjectivity false
set_option linter.all false
section
set_option Elab.async false
namespace Mine
theorem el01 {p0 : Prop} {p1 : Prop} {G : Prop} (h0 : p0 ∧ p1) (k : p0 → p1 → G) : G := k (h0.1) (h0.2)
theorem el02 {p0 : Prop} {p1 : Prop} {p2 : Prop} {G : Prop} (h0 : p0 ∧ p1 ∧ p2) (k : p0 → p1 → p2 → G) : G := k (h0.1) (h0.2.1) (h0.2.2)
theorem el03 {p0 : Prop} {p1 : Prop} {p2 : Prop} {p3 : Prop} {G : Prop} (h0 : p0 ∧ p1 ∧ p2 ∧ p3) (k : p0 → p1 → p2 → p3 → G) : G := k (h0.1) (h0.2.1) (h0.2.2.1) (h0.2.2.2)
theorem el04 {p0 : Prop} {p1 : Prop} {p2 : Prop} {p3 : Prop} {p4 : Prop} {G : Prop} (h0 : p0 ∧ p1 ∧ p2 ∧ p3 ∧ p4) (k : p0 → p1 → p2 → p3 → p4 → G) : G := k (h0.1) (h0.2.1) (h0.2.2.1) (h0.2.2.2.1) (h0.2.2.2.2)
theorem el10.{u0} {a0 : Sort u0} {p0 : a0 → Prop} {G : Prop} (h0 : ∃ x0, p0 x0) (k : ∀ x0, p0 x0 → G) : G := h0.elim fun x0 h1 => k x0 h1
theorem el11.{u0} {a0 : Sort u0} {p0 : a0 → Prop} {p1 : a0 → Prop} {G : Prop} (h0 : ∃ x0, p0 x0 ∧ p1 x0) (k : ∀ x0, p0 x0 → p1 x0 → G) : G := h0.elim fun x0 h1 => k x0 (h1.1) (h1.2)
theorem el12.{u0} {a0 : Sort u0} {p0 : a0 → Prop} {p1 : a0 → Prop} {p2 : a0 → Prop} {G : Prop} (h0 : ∃ x0, p0 x0 ∧ p1 x0 ∧ p2 x0) (k : ∀ x0, p0 x0 → p1 x0 → p2 x0 → G) : G := h0.elim fun x0 h1 => k x0 (h1.1) (h1.2.1) (h1.2.2)
theorem el13.{u0} {a0 : Sort u0} {p0 : a0 → Prop} {p1 : a0 → Prop} {p2 : a0 → Prop} {p3 : a0 → Prop} {G : Prop} (h0 : ∃ x0, p0 x0 ∧ p1 x0 ∧ p2 x0 ∧ p3 x0) (k : ∀ x0, p0 x0 → p1 x0 → p2 x0 → p3 x0 → G) : G := h0.elim fun x0 h1 => k x0 (h1.1) (h1.2.1) (h1.2.2.1) (h1.2.2.2)
theorem el14.{u0} {a0 : Sort u0} {p0 : a0 → Prop} {p1 : a0 → Prop} {p2 : a0 → Prop} {p3 : a0 → Prop} {p4 : a0 → Prop} {G : Prop} (h0 : ∃ x0, p0 x0 ∧ p1 x0 ∧ p2 x0 ∧ p3 x0 ∧ p4 x0) (k : ∀ x0, p0 x0 → p1 x0 → p2 x0 → p3 x0 → p4 x0 → G) : G := h0.elim fun x0 h1 => k x0 (h1.1) (h1.2.1) (h1.2.2.1) (h1.2.2.2.1) (h1.2.2.2.2)
theorem el20.{u0, u1} {a0 : Sort u0} {a1 : Sort u1} {p0 : a0 → a1 → Prop} {G : Prop} (h0 : ∃ x0, ∃ x1, p0 x0 x1) (k : ∀ x0, ∀ x1, p0 x0 x1 → G) : G := h0.elim fun x0 h1 => h1.elim fun x1 h2 => k x0 x1 h2
theorem el21.{u0, u1} {a0 : Sort u0} {a1 : Sort u1} {p0 : a0 → a1 → Prop} {p1 : a0 → a1 → Prop} {G : Prop} (h0 : ∃ x0, ∃ x1, p0 x0 x1 ∧ p1 x0 x1) (k : ∀ x0, ∀ x1, p0 x0 x1 → p1 x0 x1 → G) : G := h0.elim fun x0 h1 => h1.elim fun x1 h2 => k x0 x1 (h2.1) (h2.2)
theorem el22.{u0, u1} {a0 : Sort u0} {a1 : Sort u1} {p0 : a0 → a1 → Prop} {p1 : a0 → a1 → Prop} {p2 : a0 → a1 → Prop} {G : Prop} (h0 : ∃ x0, ∃ x1, p0 x0 x1 ∧ p1 x0 x1 ∧ p2 x0 x1) (k : ∀ x0, ∀ x1, p0 x0 x1 → p1 x0 x1 → p2 x0 x1 → G) : G := h0.elim fun x0 h1 => h1.elim fun x1 h2 => k x0 x1 (h2.1) (h2.2.1) (h2.2.2)
theorem el23.{u0, u1} {a0 : Sort u0} {a1 : Sort u1} {p0 : a0 → a1 → Prop} {p1 : a0 → a1 → Prop} {p2 : a0 → a1 → Prop} {p3 : a0 → a1 → Prop} {G : Prop} (h0 : ∃ x0, ∃ x1, p0 x0 x1 ∧ p1 x0 x1 ∧ p2 x0 x1 ∧ p3 x0 x1) (k : ∀ x0, ∀ x1, p0 x0 x1 → p1 x0 x1 → p2 x0 x1 → p3 x0 x1 → G) : G := h0.elim fun x0 h1 => h1.elim fun x1 h2 => k x0 x1 (h2.1) (h2.2.1) (h2.2.2.1) (h2.2.2.2)
theorem el24.{u0, u1} {a0 : Sort u0} {a1 : Sort u1} {p0 : a0 → a1 → Prop} {p1 : a0 → a1 → Prop} {p2 : a0 → a1 → Prop} {p3 : a0 → a1 → Prop} {p4 : a0 → a1 → Prop} {G : Prop} (h0 : ∃ x0, ∃ x1, p0 x0 x1 ∧ p1 x0 x1 ∧ p2 x0 x1 ∧ p3 x0 x1 ∧ p4 x0 x1) (k : ∀ x0, ∀ x1, p0 x0 x1 → p1 x0 x1 → p2 x0 x1 → p3 x0 x1 → p4 x0 x1 → G) : G := h0.elim fun x0 h1 => h1.elim fun x1 h2 => k x0 x1 (h2.1) (h2.2.1) (h2.2.2.1) (h2.2.2.2.1) (h2.2.2.2.2)
theorem el30.{u0, u1, u2} {a0 : Sort u0} {a1 : Sort u1} {a2 : Sort u2} {p0 : a0 → a1 → a2 → Prop} {G : Prop} (h0 : ∃ x0, ∃ x1, ∃ x2, p0 x0 x1 x2) (k : ∀ x0, ∀ x1, ∀ x2, p0 x0 x1 x2 → G) : G := h0.elim fun x0 h1 => h1.elim fun x1 h2 => h2.elim fun x2 h3 => k x0 x1 x2 h3
theorem el31.{u0, u1, u2} {a0 : Sort u0} {a1 : Sort u1} {a2 : Sort u2} {p0 : a0 → a1 → a2 → Prop} {p1 : a0 → a1 → a2 → Prop} {G : Prop} (h0 : ∃ x0, ∃ x1, ∃ x2, p0 x0 x1 x2 ∧ p1 x0 x1 x2) (k : ∀ x0, ∀ x1, ∀ x2, p0 x0 x1 x2 → p1 x0 x1 x2 → G) : G := h0.elim fun x0 h1 => h1.elim fun x1 h2 => h2.elim fun x2 h3 => k x0 x1 x2 (h3.1) (h3.2)
theorem el32.{u0, u1, u2} {a0 : Sort u0} {a1 : Sort u1} {a2 : Sort u2} {p0 : a0 → a1 → a2 → Prop} {p1 : a0 → a1 → a2 → Prop} {p2 : a0 → a1 → a2 → Prop} {G : Prop} (h0 : ∃ x0, ∃ x1, ∃ x2, p0 x0 x1 x2 ∧ p1 x0 x1 x2 ∧ p2 x0 x1 x2) (k : ∀ x0, ∀ x1, ∀ x2, p0 x0 x1 x2 → p1 x0 x1 x2 → p2 x0 x1 x2 → G) : G := h0.elim fun x0 h1 => h1.elim fun x1 h2 => h2.elim fun x2 h3 => k x0 x1 x2 (h3.1) (h3.2.1) (h3.2.2)
theorem el33.{u0, u1, u2} {a0 : Sort u0} {a1 : Sort u1} {a2 : Sort u2} {p0 : a0 → a1 → a2 → Prop} {p1 : a0 → a1 → a2 → Prop} {p2 : a0 → a1 → a2 → Prop} {p3 : a0 → a1 → a2 → Prop} {G : Prop} (h0 : ∃ x0, ∃ x1, ∃ x2, p0 x0 x1 x2 ∧ p1 x0 x1 x2 ∧ p2 x0 x1 x2 ∧ p3 x0 x1 x2) (k : ∀ x0, ∀ x1, ∀ x2, p0 x0 x1 x2 → p1 x0 x1 x2 → p2 x0 x1 x2 → p3 x0 x1 x2 → G) : G := h0.elim fun x0 h1 => h1.elim fun x1 h2 => h2.elim fun x2 h3 => k x0 x1 x2 (h3.1) (h3.2.1) (h3.2.2.1) (h3.2.2.2)
theorem el34.{u0, u1, u2} {a0 : Sort u0} {a1 : Sort u1} {a2 : Sort u2} {p0 : a0 → a1 → a2 → Prop} {p1 : a0 → a1 → a2 → Prop} {p2 : a0 → a1 → a2 → Prop} {p3 : a0 → a1 → a2 → Prop} {p4 : a0 → a1 → a2 → Prop} {G : Prop} (h0 : ∃ x0, ∃ x1, ∃ x2, p0 x0 x1 x2 ∧ p1 x0 x1 x2 ∧ p2 x0 x1 x2 ∧ p3 x0 x1 x2 ∧ p4 x0 x1 x2) (k : ∀ x0, ∀ x1, ∀ x2, p0 x0 x1 x2 → p1 x0 x1 x2 → p2 x0 x1 x2 → p3 x0 x1 x2 → p4 x0 x1 x2 → G) : G := h0.elim fun x0 h1 => h1.elim fun x1 h2 => h2.elim fun x2 h3 => k x0 x1 x2 (h3.1) (h3.2.1) (h3.2.2.1) (h3.2.2.2.1) (h3.2.2.2.2)
theorem el40.{u0, u1, u2, u3} {a0 : Sort u0} {a1 : Sort u1} {a2 : Sort u2} {a3 : Sort u3} {p0 : a0 → a1 → a2 → a3 → Prop} {G : Prop} (h0 : ∃ x0, ∃ x1, ∃ x2, ∃ x3, p0 x0 x1 x2 x3) (k : ∀ x0, ∀ x1, ∀ x2, ∀ x3, p0 x0 x1 x2 x3 → G) : G := h0.elim fun x0 h1 => h1.elim fun x1 h2 => h2.elim fun x2 h3 => h3.elim fun x3 h4 => k x0 x1 x2 x3 h4
theorem el41.{u0, u1, u2, u3} {a0 : Sort u0} {a1 : Sort u1} {a2 : Sort u2} {a3 : Sort u3} {p0 : a0 → a1 → a2 → a3 → Prop} {p1 : a0 → a1 → a2 → a3 → Prop} {G : Prop} (h0 : ∃ x0, ∃ x1, ∃ x2, ∃ x3, p0 x0 x1 x2 x3 ∧ p1 x0 x1 x2 x3) (k : ∀ x0, ∀ x1, ∀ x2, ∀ x3, p0 x0 x1 x2 x3 → p1 x0 x1 x2 x3 → G) : G := h0.elim fun x0 h1 => h1.elim fun x1 h2 => h2.elim fun x2 h3 => h3.elim fun x3 h4 => k x0 x1 x2 x3 (h4.1) (h4.2)
theorem el42.{u0, u1, u2, u3} {a0 : Sort u0} {a1 : Sort u1} {a2 : Sort u2} {a3 : Sort u3} {p0 : a0 → a1 → a2 → a3 → Prop} {p1 : a0 → a1 → a2 → a3 → Prop} {p2 : a0 → a1 → a2 → a3 → Prop} {G : Prop} (h0 : ∃ x0, ∃ x1, ∃ x2, ∃ x3, p0 x0 x1 x2 x3 ∧ p1 x0 x1 x2 x3 ∧ p2 x0 x1 x2 x3) (k : ∀ x0, ∀ x1, ∀ x2, ∀ x3, p0 x0 x1 x2 x3 → p1 x0 x1 x2 x3 → p2 x0 x1 x2 x3 → G) : G := h0.elim fun x0 h1 => h1.elim fun x1 h2 => h2.elim fun x2 h3 => h3.elim fun x3 h4 => k x0 x1 x2 x3 (h4.1) (h4.2.1) (h4.2.2)
theorem el43.{u0, u1, u2, u3} {a0 : Sort u0} {a1 : Sort u1} {a2 : Sort u2} {a3 : Sort u3} {p0 : a0 → a1 → a2 → a3 → Prop} {p1 : a0 → a1 → a2 → a3 → Prop} {p2 : a0 → a1 → a2 → a3 → Prop} {p3 : a0 → a1 → a2 → a3 → Prop} {G : Prop} (h0 : ∃ x0, ∃ x1, ∃ x2, ∃ x3, p0 x0 x1 x2 x3 ∧ p1 x0 x1 x2 x3 ∧ p2 x0 x1 x2 x3 ∧ p3 x0 x1 x2 x3) (k : ∀ x0, ∀ x1, ∀ x2, ∀ x3, p0 x0 x1 x2 x3 → p1 x0 x1 x2 x3 → p2 x0 x1 x2 x3 → p3 x0 x1 x2 x3 → G) : G := h0.elim fun x0 h1 => h1.elim fun x1 h2 => h2.elim fun x2 h3 => h3.elim fun x3 h4 => k x0 x1 x2 x3 (h4.1) (h4.2.1) (h4.2.2.1) (h4.2.2.2)
theorem el44.{u0, u1, u2, u3} {a0 : Sort u0} {a1 : Sort u1} {a2 : Sort u2} {a3 : Sort u3} {p0 : a0 → a1 → a2 → a3 → Prop} {p1 : a0 → a1 → a2 → a3 → Prop} {p2 : a0 → a1 → a2 → a3 → Prop} {p3 : a0 → a1 → a2 → a3 → Prop} {p4 : a0 → a1 → a2 → a3 → Prop} {G : Prop} (h0 : ∃ x0, ∃ x1, ∃ x2, ∃ x3, p0 x0 x1 x2 x3 ∧ p1 x0 x1 x2 x3 ∧ p2 x0 x1 x2 x3 ∧ p3 x0 x1 x2 x3 ∧ p4 x0 x1 x2 x3) (k : ∀ x0, ∀ x1, ∀ x2, ∀ x3, p0 x0 x1 x2 x3 → p1 x0 x1 x2 x3 → p2 x0 x1 x2 x3 → p3 x0 x1 x2 x3 → p4 x0 x1 x2 x3 → G) : G := h0.elim fun x0 h1 => h1.elim fun x1 h2 => h2.elim fun x2 h3 => h3.elim fun x3 h4 => k x0 x1 x2 x3 (h4.1) (h4.2.1) (h4.2.2.1) (h4.2.2.2.1) (h4.2.2.2.2)
theorem mk01 {p0 : Prop} {p1 : Prop} (h0 : p0) (h1 : p1) : p0 ∧ p1 := ⟨h0, h1⟩
theorem mk02 {p0 : Prop} {p1 : Prop} {p2 : Prop} (h0 : p0) (h1 : p1) (h2 : p2) : p0 ∧ p1 ∧ p2 := ⟨h0, h1, h2⟩
theorem mk03 {p0 : Prop} {p1 : Prop} {p2 : Prop} {p3 : Prop} (h0 : p0) (h1 : p1) (h2 : p2) (h3 : p3) : p0 ∧ p1 ∧ p2 ∧ p3 := ⟨h0, h1, h2, h3⟩
theorem mk04 {p0 : Prop} {p1 : Prop} {p2 : Prop} {p3 : Prop} {p4 : Prop} (h0 : p0) (h1 : p1) (h2 : p2) (h3 : p3) (h4 : p4) : p0 ∧ p1 ∧ p2 ∧ p3 ∧ p4 := ⟨h0, h1, h2, h3, h4⟩
theorem mk10.{u0} {a0 : Sort u0} {p0 : a0 → Prop} (x0 : a0) (h0 : p0 x0) : ∃ x0, p0 x0 := ⟨x0, h0⟩
theorem mk11.{u0} {a0 : Sort u0} {p0 : a0 → Prop} {p1 : a0 → Prop} (x0 : a0) (h0 : p0 x0) (h1 : p1 x0) : ∃ x0, p0 x0 ∧ p1 x0 := ⟨x0, h0, h1⟩
theorem mk12.{u0} {a0 : Sort u0} {p0 : a0 → Prop} {p1 : a0 → Prop} {p2 : a0 → Prop} (x0 : a0) (h0 : p0 x0) (h1 : p1 x0) (h2 : p2 x0) : ∃ x0, p0 x0 ∧ p1 x0 ∧ p2 x0 := ⟨x0, h0, h1, h2⟩
theorem mk13.{u0} {a0 : Sort u0} {p0 : a0 → Prop} {p1 : a0 → Prop} {p2 : a0 → Prop} {p3 : a0 → Prop} (x0 : a0) (h0 : p0 x0) (h1 : p1 x0) (h2 : p2 x0) (h3 : p3 x0) : ∃ x0, p0 x0 ∧ p1 x0 ∧ p2 x0 ∧ p3 x0 := ⟨x0, h0, h1, h2, h3⟩
theorem mk14.{u0} {a0 : Sort u0} {p0 : a0 → Prop} {p1 : a0 → Prop} {p2 : a0 → Prop} {p3 : a0 → Prop} {p4 : a0 → Prop} (x0 : a0) (h0 : p0 x0) (h1 : p1 x0) (h2 : p2 x0) (h3 : p3 x0) (h4 : p4 x0) : ∃ x0, p0 x0 ∧ p1 x0 ∧ p2 x0 ∧ p3 x0 ∧ p4 x0 := ⟨x0, h0, h1, h2, h3, h4⟩
theorem mk20.{u0, u1} {a0 : Sort u0} {a1 : Sort u1} {p0 : a0 → a1 → Prop} (x0 : a0) (x1 : a1) (h0 : p0 x0 x1) : ∃ x0, ∃ x1, p0 x0 x1 := ⟨x0, x1, h0⟩
theorem mk21.{u0, u1} {a0 : Sort u0} {a1 : Sort u1} {p0 : a0 → a1 → Prop} {p1 : a0 → a1 → Prop} (x0 : a0) (x1 : a1) (h0 : p0 x0 x1) (h1 : p1 x0 x1) : ∃ x0, ∃ x1, p0 x0 x1 ∧ p1 x0 x1 := ⟨x0, x1, h0, h1⟩
theorem mk22.{u0, u1} {a0 : Sort u0} {a1 : Sort u1} {p0 : a0 → a1 → Prop} {p1 : a0 → a1 → Prop} {p2 : a0 → a1 → Prop} (x0 : a0) (x1 : a1) (h0 : p0 x0 x1) (h1 : p1 x0 x1) (h2 : p2 x0 x1) : ∃ x0, ∃ x1, p0 x0 x1 ∧ p1 x0 x1 ∧ p2 x0 x1 := ⟨x0, x1, h0, h1, h2⟩
theorem mk23.{u0, u1} {a0 : Sort u0} {a1 : Sort u1} {p0 : a0 → a1 → Prop} {p1 : a0 → a1 → Prop} {p2 : a0 → a1 → Prop} {p3 : a0 → a1 → Prop} (x0 : a0) (x1 : a1) (h0 : p0 x0 x1) (h1 : p1 x0 x1) (h2 : p2 x0 x1) (h3 : p3 x0 x1) : ∃ x0, ∃ x1, p0 x0 x1 ∧ p1 x0 x1 ∧ p2 x0 x1 ∧ p3 x0 x1 := ⟨x0, x1, h0, h1, h2, h3⟩
theorem mk24.{u0, u1} {a0 : Sort u0} {a1 : Sort u1} {p0 : a0 → a1 → Prop} {p1 : a0 → a1 → Prop} {p2 : a0 → a1 → Prop} {p3 : a0 → a1 → Prop} {p4 : a0 → a1 → Prop} (x0 : a0) (x1 : a1) (h0 : p0 x0 x1) (h1 : p1 x0 x1) (h2 : p2 x0 x1) (h3 : p3 x0 x1) (h4 : p4 x0 x1) : ∃ x0, ∃ x1, p0 x0 x1 ∧ p1 x0 x1 ∧ p2 x0 x1 ∧ p3 x0 x1 ∧ p4 x0 x1 := ⟨x0, x1, h0, h1, h2, h3, h4⟩
theorem mk30.{u0, u1, u2} {a0 : Sort u0} {a1 : Sort u1} {a2 : Sort u2} {p0 : a0 → a1 → a2 → Prop} (x0 : a0) (x1 : a1) (x2 : a2) (h0 : p0 x0 x1 x2) : ∃ x0, ∃ x1, ∃ x2, p0 x0 x1 x2 := ⟨x0, x1, x2, h0⟩
theorem mk31.{u0, u1, u2} {a0 : Sort u0} {a1 : Sort u1} {a2 : Sort u2} {p0 : a0 → a1 → a2 → Prop} {p1 : a0 → a1 → a2 → Prop} (x0 : a0) (x1 : a1) (x2 : a2) (h0 : p0 x0 x1 x2) (h1 : p1 x0 x1 x2) : ∃ x0, ∃ x1, ∃ x2, p0 x0 x1 x2 ∧ p1 x0 x1 x2 := ⟨x0, x1, x2, h0, h1⟩
theorem mk32.{u0, u1, u2} {a0 : Sort u0} {a1 : Sort u1} {a2 : Sort u2} {p0 : a0 → a1 → a2 → Prop} {p1 : a0 → a1 → a2 → Prop} {p2 : a0 → a1 → a2 → Prop} (x0 : a0) (x1 : a1) (x2 : a2) (h0 : p0 x0 x1 x2) (h1 : p1 x0 x1 x2) (h2 : p2 x0 x1 x2) : ∃ x0, ∃ x1, ∃ x2, p0 x0 x1 x2 ∧ p1 x0 x1 x2 ∧ p2 x0 x1 x2 := ⟨x0, x1, x2, h0, h1, h2⟩
theorem mk33.{u0, u1, u2} {a0 : Sort u0} {a1 : Sort u1} {a2 : Sort u2} {p0 : a0 → a1 → a2 → Prop} {p1 : a0 → a1 → a2 → Prop} {p2 : a0 → a1 → a2 → Prop} {p3 : a0 → a1 → a2 → Prop} (x0 : a0) (x1 : a1) (x2 : a2) (h0 : p0 x0 x1 x2) (h1 : p1 x0 x1 x2) (h2 : p2 x0 x1 x2) (h3 : p3 x0 x1 x2) : ∃ x0, ∃ x1, ∃ x2, p0 x0 x1 x2 ∧ p1 x0 x1 x2 ∧ p2 x0 x1 x2 ∧ p3 x0 x1 x2 := ⟨x0, x1, x2, h0, h1, h2, h3⟩
theorem mk34.{u0, u1, u2} {a0 : Sort u0} {a1 : Sort u1} {a2 : Sort u2} {p0 : a0 → a1 → a2 → Prop} {p1 : a0 → a1 → a2 → Prop} {p2 : a0 → a1 → a2 → Prop} {p3 : a0 → a1 → a2 → Prop} {p4 : a0 → a1 → a2 → Prop} (x0 : a0) (x1 : a1) (x2 : a2) (h0 : p0 x0 x1 x2) (h1 : p1 x0 x1 x2) (h2 : p2 x0 x1 x2) (h3 : p3 x0 x1 x2) (h4 : p4 x0 x1 x2) : ∃ x0, ∃ x1, ∃ x2, p0 x0 x1 x2 ∧ p1 x0 x1 x2 ∧ p2 x0 x1 x2 ∧ p3 x0 x1 x2 ∧ p4 x0 x1 x2 := ⟨x0, x1, x2, h0, h1, h2, h3, h4⟩
theorem mk40.{u0, u1, u2, u3} {a0 : Sort u0} {a1 : Sort u1} {a2 : Sort u2} {a3 : Sort u3} {p0 : a0 → a1 → a2 → a3 → Prop} (x0 : a0) (x1 : a1) (x2 : a2) (x3 : a3) (h0 : p0 x0 x1 x2 x3) : ∃ x0, ∃ x1, ∃ x2, ∃ x3, p0 x0 x1 x2 x3 := ⟨x0, x1, x2, x3, h0⟩
theorem mk41.{u0, u1, u2, u3} {a0 : Sort u0} {a1 : Sort u1} {a2 : Sort u2} {a3 : Sort u3} {p0 : a0 → a1 → a2 → a3 → Prop} {p1 : a0 → a1 → a2 → a3 → Prop} (x0 : a0) (x1 : a1) (x2 : a2) (x3 : a3) (h0 : p0 x0 x1 x2 x3) (h1 : p1 x0 x1 x2 x3) : ∃ x0, ∃ x1, ∃ x2, ∃ x3, p0 x0 x1 x2 x3 ∧ p1 x0 x1 x2 x3 := ⟨x0, x1, x2, x3, h0, h1⟩
theorem mk42.{u0, u1, u2, u3} {a0 : Sort u0} {a1 : Sort u1} {a2 : Sort u2} {a3 : Sort u3} {p0 : a0 → a1 → a2 → a3 → Prop} {p1 : a0 → a1 → a2 → a3 → Prop} {p2 : a0 → a1 → a2 → a3 → Prop} (x0 : a0) (x1 : a1) (x2 : a2) (x3 : a3) (h0 : p0 x0 x1 x2 x3) (h1 : p1 x0 x1 x2 x3) (h2 : p2 x0 x1 x2 x3) : ∃ x0, ∃ x1, ∃ x2, ∃ x3, p0 x0 x1 x2 x3 ∧ p1 x0 x1 x2 x3 ∧ p2 x0 x1 x2 x3 := ⟨x0, x1, x2, x3, h0, h1, h2⟩
theorem mk43.{u0, u1, u2, u3} {a0 : Sort u0} {a1 : Sort u1} {a2 : Sort u2} {a3 : Sort u3} {p0 : a0 → a1 → a2 → a3 → Prop} {p1 : a0 → a1 → a2 → a3 → Prop} {p2 : a0 → a1 → a2 → a3 → Prop} {p3 : a0 → a1 → a2 → a3 → Prop} (x0 : a0) (x1 : a1) (x2 : a2) (x3 : a3) (h0 : p0 x0 x1 x2 x3) (h1 : p1 x0 x1 x2 x3) (h2 : p2 x0 x1 x2 x3) (h3 : p3 x0 x1 x2 x3) : ∃ x0, ∃ x1, ∃ x2, ∃ x3, p0 x0 x1 x2 x3 ∧ p1 x0 x1 x2 x3 ∧ p2 x0 x1 x2 x3 ∧ p3 x0 x1 x2 x3 := ⟨x0, x1, x2, x3, h0, h1, h2, h3⟩
theorem mk44.{u0, u1, u2, u3} {a0 : Sort u0} {a1 : Sort u1} {a2 : Sort u2} {a3 : Sort u3} {p0 : a0 → a1 → a2 → a3 → Prop} {p1 : a0 → a1 → a2 → a3 → Prop} {p2 : a0 → a1 → a2 → a3 → Prop} {p3 : a0 → a1 → a2 → a3 → Prop} {p4 : a0 → a1 → a2 → a3 → Prop} (x0 : a0) (x1 : a1) (x2 : a2) (x3 : a3) (h0 : p0 x0 x1 x2 x3) (h1 : p1 x0 x1 x2 x3) (h2 : p2 x0 x1 x2 x3) (h3 : p3 x0 x1 x2 x3) (h4 : p4 x0 x1 x2 x3) : ∃ x0, ∃ x1, ∃ x2, ∃ x3, p0 x0 x1 x2 x3 ∧ p1 x0 x1 x2 x3 ∧ p2 x0 x1 x2 x3 ∧ p3 x0 x1 x2 x3 ∧ p4 x0 x1 x2 x3 := ⟨x0, x1, x2, x3, h0, h1, h2, h3, h4⟩
end Mine
end
section
open PySem PySem.W PyProof.Rows
set_option Elab.async false
set_option maxRecDepth 100000
namespace Mine
noncomputable abbrev DK := Int × Int × List Int × Int
inductive PV where
  | none
  | bool (b : Bool)
  | int (i : Int)
  | sym (k : Nat)
  | tup (l : List PV)
  | list (l : List PV)
  | dict (d : List (DK × Int))
  | prim (l : List PV)
  | pool
theorem ff_ {P : Prop} (h : false = true) : P := nomatch h
theorem ns_ {α : Type} {x : α} {P : Prop} (h : (none : Option α) = some x) : P := nomatch h
theorem dor_ {α : Type} {c : Prop} [dc : Decidable c] {t : c → α} {d r : α} {G : Prop} (h : (dite c t fun _ => d) = r) (kd : d = r → G) (k : ∀ j, t j = r → G) : G := by
  by_cases j : c
  · rw [dif_pos j] at h; exact k j h
  · rw [dif_neg j] at h; exact kd h
noncomputable def PV.onI {α : Type} (p : PV) (d : α) (f : Int → α) : α := dite (p.ctorIdx = 2) (fun h => PV.int.elim (motive_1 := fun _ => α) p h f) fun _ => d
@[elab_as_elim] theorem PV.onI_el {α : Type} {d r : α} {f : Int → α} {motive : PV → Prop} {p : PV} (h : p.onI d f = r) (kd : d = r → motive p) (k : ∀ i, f i = r → motive (.int i)) : motive p :=
  dor_ h kd fun j h => PV.int.elim (motive_1 := fun e => ∀ j, PV.int.elim (motive_1 := fun _ => α) e j f = r → motive e) p j (fun i _ h => k i h) j h
noncomputable def PV.onS {α : Type} (p : PV) (d : α) (f : Nat → α) : α := dite (p.ctorIdx = 3) (fun h => PV.sym.elim (motive_1 := fun _ => α) p h f) fun _ => d
@[elab_as_elim] theorem PV.onS_el {α : Type} {d r : α} {f : Nat → α} {motive : PV → Prop} {p : PV} (h : p.onS d f = r) (kd : d = r → motive p) (kk : ∀ n, f n = r → motive (.sym n)) : motive p :=
  dor_ h kd fun j h => PV.sym.elim (motive_1 := fun e => ∀ j, PV.sym.elim (motive_1 := fun _ => α) e j f = r → motive e) p j (fun n _ h => kk n h) j h
noncomputable def PV.onT {α : Type} (p : PV) (d : α) (f : List PV → α) : α := dite (p.ctorIdx = 4) (fun h => PV.tup.elim (motive_1 := fun _ => α) p h f) fun _ => d
@[elab_as_elim] theorem PV.onT_el {α : Type} {d r : α} {f : List PV → α} {motive : PV → Prop} {p : PV} (h : p.onT d f = r) (kd : d = r → motive p) (k : ∀ l, f l = r → motive (.tup l)) : motive p :=
  dor_ h kd fun j h => PV.tup.elim (motive_1 := fun e => ∀ j, PV.tup.elim (motive_1 := fun _ => α) e j f = r → motive e) p j (fun l _ h => k l h) j h
noncomputable def PV.onL {α : Type} (p : PV) (d : α) (f : List PV → α) : α := dite (p.ctorIdx = 5) (fun h => PV.list.elim (motive_1 := fun _ => α) p h f) fun _ => d
@[elab_as_elim] theorem PV.onL_el {α : Type} {d r : α} {f : List PV → α} {motive : PV → Prop} {p : PV} (h : p.onL d f = r) (kd : d = r → motive p) (k : ∀ l, f l = r → motive (.list l)) : motive p :=
  dor_ h kd fun j h => PV.list.elim (motive_1 := fun e => ∀ j, PV.list.elim (motive_1 := fun _ => α) e j f = r → motive e) p j (fun l _ h => k l h) j h
noncomputable def PV.onD {α : Type} (p : PV) (d : α) (f : List (DK × Int) → α) : α := dite (p.ctorIdx = 6) (fun h => PV.dict.elim (motive_1 := fun _ => α) p h f) fun _ => d
@[elab_as_elim] theorem PV.onD_el {α : Type} {d r : α} {f : List (DK × Int) → α} {motive : PV → Prop} {p : PV} (h : p.onD d f = r) (kd : d = r → motive p) (k : ∀ d, f d = r → motive (.dict d)) : motive p :=
  dor_ h kd fun j h => PV.dict.elim (motive_1 := fun e => ∀ j, PV.dict.elim (motive_1 := fun _ => α) e j f = r → motive e) p j (fun d _ h => k d h) j h
noncomputable def PV.onB {α : Type} (p : PV) (d : α) (f : Bool → α) : α := dite (p.ctorIdx = 1) (fun h => PV.bool.elim (motive_1 := fun _ => α) p h f) fun _ => d
@[elab_as_elim] theorem PV.onB_el {α : Type} {d r : α} {f : Bool → α} {motive : PV → Prop} {p : PV} (h : p.onB d f = r) (kd : d = r → motive p) (k : ∀ b, f b = r → motive (.bool b)) : motive p :=
  dor_ h kd fun j h => PV.bool.elim (motive_1 := fun e => ∀ j, PV.bool.elim (motive_1 := fun _ => α) e j f = r → motive e) p j (fun b _ h => k b h) j h
noncomputable def PV.onP {α : Type} (p : PV) (d : α) (f : List PV → α) : α := dite (p.ctorIdx = 7) (fun h => PV.prim.elim (motive_1 := fun _ => α) p h f) fun _ => d
@[elab_as_elim] theorem PV.onP_el {α : Type} {d r : α} {f : List PV → α} {motive : PV → Prop} {p : PV} (h : p.onP d f = r) (kd : d = r → motive p) (k : ∀ l, f l = r → motive (.prim l)) : motive p :=
  dor_ h kd fun j h => PV.prim.elim (motive_1 := fun e => ∀ j, PV.prim.elim (motive_1 := fun _ => α) e j f = r → motive e) p j (fun l _ h => k l h) j h
noncomputable def PV.isList (p : PV) : Bool := Nat.beq p.ctorIdx 5
noncomputable def PV.isDict (p : PV) : Bool := Nat.beq p.ctorIdx 6
noncomputable def PV.isPool (p : PV) : Bool := Nat.beq p.ctorIdx 8
theorem PV.pool_eq {p : PV} (h : p.isPool = true) : p = .pool := PV.pool.elim (motive_1 := fun p => p = .pool) p (Nat.eq_of_beq_eq_true h) rfl
noncomputable def on4 {α : Type} (l : List PV) (f : PV → PV → PV → PV → Option α) : Option α := match l with
  | [] => none
  | a :: l => match l with
    | [] => none
    | b :: l => match l with
      | [] => none
      | c :: l => match l with
        | [] => none
        | d :: l => match l with
          | [] => f a b c d
          | _ :: _ => none
@[elab_as_elim] theorem on4_el {α : Type} {f : PV → PV → PV → PV → Option α} {r : α} {motive : List PV → Prop} {l : List PV} (h : on4 l f = some r) (k : ∀ a b c d, f a b c d = some r → motive [a, b, c, d]) : motive l := by
  rcases l with _ | ⟨a, _ | ⟨b, _ | ⟨c, _ | ⟨d, _ | ⟨e, l⟩⟩⟩⟩⟩ <;> first | exact k _ _ _ _ h | exact ns_ h
@[elab_as_elim] theorem ob_el {α β : Type} {f : α → Option β} {r : β} {motive : Option α → Prop} {o : Option α} (h : o.bind f = some r) (k : ∀ x, f x = some r → motive (some x)) : motive o := by
  cases o with
  | none => exact ns_ h
  | some x => exact k x h
noncomputable def ifS {α β γ : Type} (o : Option (α × β)) (f : α → β → Option γ) : Option γ := match o with
  | none => none
  | some r => f r.1 r.2
theorem ifS_el {α β γ : Type} {o : Option (α × β)} {f : α → β → Option γ} {r : γ} {G : Prop} (h : ifS o f = some r) (k : ∀ a b, o = some (a, b) → f a b = some r → G) : G := by
  cases o with
  | none => exact ns_ h
  | some x => exact k x.1 x.2 rfl h
theorem bd_el {α β : Type} {o : Option α} {f : α → Option β} {r : β} {G : Prop} (h : o.bind f = some r) (k : ∀ x, o = some x → f x = some r → G) : G := by
  cases o with
  | none => exact ns_ h
  | some x => exact k x rfl h
theorem if_el {α : Type} {c : Prop} {_ : Decidable c} {x : Option α} {r : α} {G : Prop} (h : (if c then x else none) = some r) (k : c → x = some r → G) : G := by
  by_cases j : c
  · rw [if_pos j] at h; exact k j h
  · rw [if_neg j] at h; exact ns_ h
@[elab_as_elim] theorem sp_el {α β : Type} {a : α} {b : β} {motive : α → β → Prop} {a' : α} {b' : β} (h : some (a, b) = some (a', b')) (k : motive a b) : motive a' b' := by
  cases h; exact k
theorem nif_el {α : Type} {c : Prop} {_ : Decidable c} {x : Option α} {r : α} {G : Prop} (h : (if c then none else x) = some r) (k : ¬ c → x = some r → G) : G := by
  by_cases j : c
  · rw [if_pos j] at h; exact ns_ h
  · rw [if_neg j] at h; exact k j h
@[elab_as_elim] theorem so_el {α : Type} {a : α} {motive : α → Prop} {r : α} (h : some a = some r) (k : motive a) : motive r := Option.some.inj h ▸ k
noncomputable def stL : List Str := [⟨#[48]⟩, ⟨#[49]⟩, ⟨#[120]⟩, ⟨#[98]⟩, ⟨#[63]⟩, ⟨#[114]⟩, ⟨#[102]⟩, ⟨#[112]⟩, ⟨#[110]⟩, ⟨#[42]⟩,
  "edge", ⟨#[45]⟩, ⟨#[113]⟩, ⟨#[97]⟩, ⟨#[99]⟩, ⟨#[109]⟩,
  "duplicate_port", "no_rows", "conflict", "row_size", "two_edges", "edge_in_combinational", "dash_in_combinational", "empty_edge"]
noncomputable def st (k : Nat) : Str := stL.getD k Str.empty
noncomputable def stN : Nat := 24
noncomputable def one (k : Nat) : Bool := k < 10 || (10 < k && k < 16)
mutual
noncomputable def PV.flat : PV → Bool
  | .none => true
  | .bool _ => true
  | .int _ => true
  | .sym _ => true
  | .tup l => flatL l
  | .list _ => false
  | .dict _ => false
  | .prim _ => false
  | .pool => false
noncomputable def flatL : List PV → Bool
  | [] => true
  | p :: r => p.flat && flatL r
end
noncomputable def PV.isNone (p : PV) : Bool := Nat.beq p.ctorIdx 0
mutual
noncomputable def PV.eq : PV → PV → Bool
  | .none, q => q.isNone
  | .int a, q => q.onI false fun b => decide (a = b)
  | .sym a, q => q.onS false fun b => Nat.beq a b
  | .tup a, q => q.onT false fun b => eqL a b
  | .list a, q => q.onL false fun b => eqL a b
  | .bool _, _ => false
  | .dict _, _ => false
  | .prim _, _ => false
  | .pool, _ => false
noncomputable def eqL : List PV → List PV → Bool
  | [], r => r.isEmpty
  | p :: r, t => match t with
    | [] => false
    | q :: t => p.eq q && eqL r t
end
mutual
noncomputable def PV.safe : PV → Nat → Bool
  | .none, _ => true
  | .int _, _ => true
  | .sym k, _ => Nat.blt k stN
  | .tup l, n => (match n with
    | 0 => false
    | n + 1 => safeL l n)
  | .list l, n => (match n with
    | 0 => false
    | n + 1 => safeL l n)
  | .bool _, _ => false
  | .dict _, _ => false
  | .prim _, _ => false
  | .pool, _ => false
noncomputable def safeL : List PV → Nat → Bool
  | [], _ => true
  | p :: r, n => p.safe n && safeL r n
end
noncomputable def decInts : List PV → Option (List Int)
  | [] => some []
  | p :: r => p.onI none fun i => (decInts r).map (i :: ·)
noncomputable def decK (p : PV) : Option DK := p.onT none fun l => on4 l fun a o n h => a.onI none fun a => o.onI none fun o => n.onT none fun n => h.onI none fun h => (decInts n).map fun n => (a, o, n, h)
noncomputable def encK (k : DK) : PV := .tup [.int k.1, .int k.2.1, .tup (k.2.2.1.map .int), .int k.2.2.2]
noncomputable def dget (d : List (DK × Int)) (k : DK) : Option Int := (d.find? fun x => decide (x.1 = k)).map (·.2)
noncomputable def dput (d : List (DK × Int)) (k : DK) (v : Int) : List (DK × Int) :=
  if (dget d k).isSome then d.map fun x => if x.1 = k then (x.1, v) else x else d ++ [(k, v)]
noncomputable def dputAll (d : List (DK × Int)) : List (DK × Int) → List (DK × Int)
  | [] => d
  | (k, v) :: r => dputAll (dput d k v) r
noncomputable def domK (k : DK) : Bool :=
  (k.1 == -1 || k.1 == 0 || k.1 == 1 || k.1 == 2) && (k.2.1 == -1 || k.2.1 == 0 || k.2.1 == 1 || k.2.1 == 3) &&
  k.2.2.1.length ≤ 3 && (k.2.2.1.all fun x => x == 0 || x == 1 || x == 3) && (k.2.2.2 == 0 || k.2.2.2 == 1 || k.2.2.2 == 3)
inductive IT where
  | rng | val
inductive Tgt where
  | one (i : Nat)
  | many (is : List Nat)
inductive X where
  | none
  | bool (b : Bool)
  | int (i : Int)
  | sym (k : Nat)
  | neg1
  | var (i : Nat)
  | bin (op : Nat) (a b : X)
  | not (a : X)
  | and (a b : X)
  | or (a b : X)
  | cmp (op : Nat) (a b : X)
  | isNone (a : X)
  | notNone (a : X)
  | ife (t a b : X)
  | call (f : Nat) (args : List X)
  | len (a : X)
  | toInt (a : X)
  | abs (a : X)
  | tupleOf (a : X)
  | sorted (a : X)
  | prim (args : List X)
  | attr (a : X) (k : Nat)
  | sub (a i : X)
  | strAt (cs : List Nat) (i : X)
  | sliceTo (a u : X)
  | sliceFrom1 (a : X)
  | tup (l : List X)
  | list (l : List X)
  | dict0
  | get (d k v : X)
  | menu (keys : List Nat) (vals : List (List Int)) (i : X)
  | comp1 (elt : X) (t : Tgt) (k : IT) (e : X) (c : Option X) (hide : List Nat)
  | comp2 (elt : X) (t₁ : Tgt) (k₁ : IT) (e₁ : X) (t₂ : Tgt) (k₂ : IT) (e₂ : X) (c : Option X) (hide : List Nat)
inductive S where
  | asg (i : Nat) (e : X)
  | asgF (i : Nat) (e : X)
  | own (i : Nat) (e : X)
  | unp (is : List Nat) (e : X)
  | setIt (i : Nat) (idx e : X)
  | augPool (i : Nat) (j k : Nat)
  | augI (i : Nat) (op : Nat) (e : X)
  | ext (i : Nat) (e : X)
  | app (i : Nat) (e : X)
  | appF (i : Nat) (e : X)
  | upd (i : Nat) (e : X)
  | ite (t : X) (a b : List S)
  | for (t : Tgt) (k : IT) (e : X) (body : List S)
  | forOwn (t : Tgt) (j : Nat) (body : List S)
  | ret (e : X)
  | brk
  | cont
  | freeze (i : Nat)
noncomputable abbrev Reg := Option (List PV)
noncomputable abbrev Vw := List (Option PV)
inductive Slot where
  | un
  | fz (p : PV)
  | ow (p : PV)
structure St where
  loc : List Slot
  reg : Reg
inductive Fl where
  | nx | br | ct
  | rt (p : PV)
noncomputable def Slot.all : Slot → Option PV
  | .un => Option.none
  | .fz p => some p
  | .ow p => some p
noncomputable def Slot.fro : Slot → Option PV
  | .fz p => some p
  | _ => Option.none
noncomputable def viewA (l : List Slot) : Vw := l.map Slot.all
noncomputable def viewF (l : List Slot) : Vw := l.map Slot.fro
noncomputable def lk (ρ : Vw) (i : Nat) : Option PV := ρ.getD i Option.none
noncomputable def lkS (l : List Slot) (i : Nat) : Slot := l.getD i .un
noncomputable def setAll : List Nat → List PV → Vw → Option Vw
  | [], ps, ρ => (match ps with
    | [] => some ρ
    | _ :: _ => Option.none)
  | i :: is, ps, ρ => match ps with
    | [] => Option.none
    | p :: ps => setAll is ps (ρ.set i (some p))
noncomputable def bindT (t : Tgt) (p : PV) (ρ : Vw) : Option Vw := match t with
  | .one i => some (ρ.set i (some p))
  | .many is => p.onT Option.none fun l => setAll is l ρ
noncomputable def setAllS : List Nat → List PV → List Slot → Option (List Slot)
  | [], ps, ρ => (match ps with
    | [] => some ρ
    | _ :: _ => Option.none)
  | i :: is, ps, ρ => match ps with
    | [] => Option.none
    | p :: ps => setAllS is ps (ρ.set i (.fz p))
noncomputable def bindS (t : Tgt) (p : PV) (ρ : List Slot) : Option (List Slot) := match t with
  | .one i => some (ρ.set i (.fz p))
  | .many is => p.onT Option.none fun l => setAllS is l ρ
noncomputable def hideAll : List Nat → Vw → Vw
  | [], ρ => ρ
  | i :: r, ρ => hideAll r (ρ.set i Option.none)
noncomputable def rangeV (n : Nat) : List PV := (List.range n).map fun (i : Nat) => PV.int (i : Int)
noncomputable def iterItems (k : IT) (p : PV) : Option (List PV) := match k with
  | .rng => p.onI Option.none fun n => if 0 ≤ n ∧ n ≤ 65536 then some (rangeV n.toNat) else Option.none
  | .val => p.onT (p.onL (p.onD Option.none fun d => some (d.map fun x => encK x.1)) some) some
noncomputable def small (l : List PV) : Bool := l.length < 65536
noncomputable def opBin (op : Nat) (x y : PV) : Option PV := match op with
  | 0 => x.onI (x.onT Option.none fun a => y.onT Option.none fun b => if small a && small b then some (.tup (a ++ b)) else Option.none) fun a => y.onI Option.none fun b => some (.int (a + b))
  | 1 => x.onI Option.none fun a => y.onI Option.none fun b => some (.int (a - b))
  | 2 => x.onI Option.none fun a => y.onI Option.none fun b => if a.natAbs < 4096 ∧ b.natAbs < 4096 then some (.int (a * b)) else Option.none
  | 3 => x.onI Option.none fun a => y.onI Option.none fun b => if b = 0 then Option.none else some (.int (a.fmod b))
  | _ => Option.none
noncomputable def inOp (x y : PV) : Option Bool :=
  y.onT (y.onL (y.onD Option.none fun d => (decK x).map fun k => (dget d k).isSome) fun l => if x.safe 4 && safeL l 4 then some (l.any fun y => y.eq x) else Option.none) fun l => if x.safe 4 && safeL l 4 then some (l.any fun y => y.eq x) else Option.none
noncomputable def opCmp (op : Nat) (a b : PV) : Option Bool := match op with
  | 0 => if a.safe 6 && b.safe 6 then some (a.eq b) else Option.none
  | 1 => if a.safe 6 && b.safe 6 then some (!a.eq b) else Option.none
  | 2 => a.onI Option.none fun a => b.onI Option.none fun b => some (decide (a < b))
  | 3 => a.onI Option.none fun a => b.onI Option.none fun b => some (decide (a > b))
  | 4 => inOp a b
  | 5 => if b.isDict then Option.none else (inOp a b).map (!·)
  | _ => Option.none
noncomputable def opLen (p : PV) : Option PV := p.onT (p.onL Option.none fun l => if small l then some (.int l.length) else Option.none) fun l => if small l then some (.int l.length) else Option.none
noncomputable def opAbs (p : PV) : Option PV := p.onI Option.none fun i => some (.int (i.natAbs : Int))
noncomputable def opInt (p : PV) : Option PV := p.onI Option.none fun i => some (.int i)
noncomputable def opTuple (p : PV) : Option PV := p.onL Option.none fun l => if small l then some (.tup l) else Option.none
noncomputable def opAttr (p : PV) (k : Nat) : Option PV := p.onP Option.none fun l => l[k]?
noncomputable def opSub (P : Reg) (x y : PV) : Option PV :=
  x.onT (x.onL (x.onD (x.onS (if x.isPool then y.onI Option.none fun i => P.bind fun l => if 0 ≤ i ∧ small l then l[i.toNat]? else Option.none else Option.none)
    fun k => y.onI Option.none fun i => if i = 0 ∧ one k then some (.sym k) else Option.none)
    fun d => (decK y).bind fun k => (dget d k).map .int)
    fun l => y.onI Option.none fun i => if 0 ≤ i ∧ small l then l[i.toNat]? else Option.none)
    fun l => y.onI Option.none fun i => if 0 ≤ i ∧ small l then l[i.toNat]? else Option.none
noncomputable def opStrAt (cs : List Nat) (p : PV) : Option PV := p.onI Option.none fun i => if (0 ≤ i ∧ cs.length < 65536) ∧ cs.all one then (cs[i.toNat]?).map .sym else Option.none
noncomputable def opSliceTo (x y : PV) : Option PV :=
  x.onL (x.onT Option.none fun l => y.onI Option.none fun u => if 0 ≤ u ∧ u < 65536 ∧ small l then some (.tup (l.take u.toNat)) else Option.none)
    fun l => y.onI Option.none fun u => if 0 ≤ u ∧ u < 65536 ∧ small l then some (.list (l.take u.toNat)) else Option.none
noncomputable def opSliceFrom1 (p : PV) : Option PV := p.onL Option.none fun l => if small l then some (.list (l.drop 1)) else Option.none
noncomputable def opGet (x y z : PV) : Option PV := x.onD Option.none fun d => z.onI Option.none fun v => (decK y).map fun k => .int ((dget d k).getD v)
noncomputable def menuAt : List Nat → List (List Int) → Nat → Option (List Int)
  | [], _, _ => Option.none
  | k :: ks, vs, i => match vs with
    | [] => Option.none
    | v :: vs => if Nat.beq k i then some v else menuAt ks vs i
noncomputable def opMenu (keys : List Nat) (vals : List (List Int)) (p : PV) : Option PV := p.onS Option.none fun k => (menuAt keys vals k).map fun l => .list (l.map .int)
noncomputable def compLoop (f : PV → Reg → Option (List PV × Reg)) : List PV → Reg → Option (List PV × Reg)
  | [], P => some ([], P)
  | x :: xs, P => ifS (f x P) fun a P₁ => ifS (compLoop f xs P₁) fun b P₂ => some (a ++ b, P₂)
noncomputable def loopS (f : PV → St → Option (Fl × St)) : List PV → St → Option (Fl × St)
  | [], σ => some (.nx, σ)
  | x :: xs, σ => ifS (f x σ) fun fl σ₁ => (match fl with
      | .nx => loopS f xs σ₁
      | .ct => loopS f xs σ₁
      | .br => some (.nx, σ₁)
      | .rt p => some (.rt p, σ₁))
noncomputable def evs (f : X → Vw → Reg → Option (PV × Reg)) : List X → Vw → Reg → Option (List PV × Reg)
  | [], _, P => some ([], P)
  | x :: xs, ρ, P => ifS (f x ρ P) fun v P₁ => ifS (evs f xs ρ P₁) fun vs P₂ => some (v :: vs, P₂)
noncomputable def execs (f : S → St → Option (Fl × St)) : List S → St → Option (Fl × St)
  | [], σ => some (.nx, σ)
  | s :: ss, σ => ifS (f s σ) fun fl σ₁ => (match fl with
      | .nx => execs f ss σ₁
      | .br => some (.br, σ₁)
      | .ct => some (.ct, σ₁)
      | .rt p => some (.rt p, σ₁))
structure Lv where
  ev : X → Vw → Reg → Option (PV × Reg)
  evT : X → Vw → Reg → Option (Bool × Reg)
  ex : S → St → Option (Fl × St)
  fn : Nat → List PV → Reg → Option (PV × Reg)
structure FnD where
  nv : Nat
  nv0 : Nat
  np : Nat
  nms : List Str
  body : List S
noncomputable def op1 (L : Lv) (a : X) (ρ : Vw) (P : Reg) (f : PV → Option PV) : Option (PV × Reg) :=
  ifS (L.ev a ρ P) fun x P₁ => (f x).map fun r => (r, P₁)
noncomputable def op2 (L : Lv) (a b : X) (ρ : Vw) (P : Reg) (f : Reg → PV → PV → Option PV) : Option (PV × Reg) :=
  ifS (L.ev a ρ P) fun x P₁ => ifS (L.ev b ρ P₁) fun y P₂ => (f P₂ x y).map fun r => (r, P₂)
noncomputable def condOk (L : Lv) (c : Option X) (ρ : Vw) (P : Reg) : Option (Bool × Reg) :=
  match c with
  | Option.none => some (true, P)
  | some c => L.evT c ρ P
noncomputable def compElt (L : Lv) (elt : X) (c : Option X) (t : Tgt) (ρ : Vw) (x : PV) (P : Reg) : Option (List PV × Reg) :=
  (bindT t x ρ).bind fun ρ₁ => ifS (condOk L c ρ₁ P) fun b P₁ => cond b (ifS (L.ev elt ρ₁ P₁) fun v P₂ => some ([v], P₂)) (some ([], P₁))
noncomputable def compIn (L : Lv) (elt : X) (c : Option X) (t₁ t₂ : Tgt) (k₂ : IT) (e₂ : X) (ρ : Vw) (x : PV) (P : Reg) : Option (List PV × Reg) :=
  (bindT t₁ x ρ).bind fun ρ₁ => ifS (L.ev e₂ ρ₁ P) fun src P₁ => (iterItems k₂ src).bind fun items => compLoop (compElt L elt c t₂ ρ₁) items P₁
noncomputable def stepEv (L : Lv) (srt : List PV → Option (List PV)) (x : X) (ρ : Vw) (P : Reg) : Option (PV × Reg) :=
  match x with
  | .none => some (.none, P)
  | .bool b => some (.bool b, P)
  | .int i => some (.int i, P)
  | .sym k => if k < stN then some (.sym k, P) else Option.none
  | .neg1 => some (.int (-1), P)
  | .var i => (lk ρ i).map fun p => (p, P)
  | .bin op a b => op2 L a b ρ P fun _ => opBin op
  | .not _ => Option.none
  | .and a b => ifS (L.ev a ρ P) fun p P₁ => p.onB Option.none fun c => cond c (L.ev b ρ P₁) (some (.bool false, P₁))
  | .or a b => ifS (L.ev a ρ P) fun p P₁ => p.onB Option.none fun c => cond c (some (.bool true, P₁)) (L.ev b ρ P₁)
  | .cmp op a b => op2 L a b ρ P fun _ x y => (opCmp op x y).map .bool
  | .isNone a => op1 L a ρ P fun x => some (.bool x.isNone)
  | .notNone a => op1 L a ρ P fun x => some (.bool (!x.isNone))
  | .ife t a b => ifS (L.evT t ρ P) fun c P₁ => cond c (L.ev a ρ P₁) (L.ev b ρ P₁)
  | .call f args => ifS (evs L.ev args ρ P) fun vs P₁ => L.fn f vs P₁
  | .len a => op1 L a ρ P opLen
  | .toInt a => op1 L a ρ P opInt
  | .abs a => op1 L a ρ P opAbs
  | .tupleOf a => op1 L a ρ P opTuple
  | .sorted a => op1 L a ρ P fun x => x.onL Option.none fun l => (srt l).map .list
  | .prim args => ifS (evs L.ev args ρ P) fun vs P₁ => if vs.length = 7 then some (.prim vs, P₁) else Option.none
  | .attr a k => op1 L a ρ P fun x => opAttr x k
  | .sub a i => op2 L a i ρ P opSub
  | .strAt cs i => op1 L i ρ P (opStrAt cs)
  | .sliceTo a u => op2 L a u ρ P fun _ => opSliceTo
  | .sliceFrom1 a => op1 L a ρ P opSliceFrom1
  | .tup l => if l.length < 64 then (evs L.ev l ρ P).map fun r => (.tup r.1, r.2) else Option.none
  | .list l => if l.length < 64 then (evs L.ev l ρ P).map fun r => (.list r.1, r.2) else Option.none
  | .dict0 => some (.dict [], P)
  | .get d k v => ifS (L.ev d ρ P) fun x P₁ => ifS (L.ev k ρ P₁) fun y P₂ => ifS (L.ev v ρ P₂) fun z P₃ => (opGet x y z).map fun r => (r, P₃)
  | .menu keys vals i => op1 L i ρ P (opMenu keys vals)
  | .comp1 elt t k e c hide => ifS (L.ev e ρ P) fun src P₁ => (iterItems k src).bind fun items => ifS (compLoop (compElt L elt c t (hideAll hide ρ)) items P₁) fun l P₂ => if small l then some (.list l, P₂) else Option.none
  | .comp2 elt t₁ k₁ e₁ t₂ k₂ e₂ c hide => ifS (L.ev e₁ ρ P) fun src P₁ => (iterItems k₁ src).bind fun items => ifS (compLoop (compIn L elt c t₁ t₂ k₂ e₂ (hideAll hide ρ)) items P₁) fun l P₂ => if small l then some (.list l, P₂) else Option.none
noncomputable def stepEvT (L : Lv) (x : X) (ρ : Vw) (P : Reg) : Option (Bool × Reg) :=
  dite (x.ctorIdx = 7) (fun h => X.not.elim (motive_1 := fun _ => Option (Bool × Reg)) x h fun a => (L.evT a ρ P).map fun r => (!r.1, r.2)) fun _ =>
  dite (x.ctorIdx = 8) (fun h => X.and.elim (motive_1 := fun _ => Option (Bool × Reg)) x h fun a b => ifS (L.evT a ρ P) fun c P₁ => cond c (L.evT b ρ P₁) (some (false, P₁))) fun _ =>
  dite (x.ctorIdx = 9) (fun h => X.or.elim (motive_1 := fun _ => Option (Bool × Reg)) x h fun a b => ifS (L.evT a ρ P) fun c P₁ => cond c (some (true, P₁)) (L.evT b ρ P₁)) fun _ =>
  cond (Nat.beq x.ctorIdx 13) Option.none (ifS (L.ev x ρ P) fun p P₁ => p.onB Option.none fun b => some (b, P₁))
noncomputable def freshForm (x : X) : Bool := Nat.beq x.ctorIdx 27 || Nat.beq x.ctorIdx 28 || Nat.beq x.ctorIdx 31 || Nat.beq x.ctorIdx 24
noncomputable def PV.ownable (p : PV) : Bool := p.onL p.isDict flatL
noncomputable def tIdx : Tgt → List Nat
  | .one i => [i]
  | .many is => is
noncomputable def findOwn (L : Lv) (t : Tgt) (c : X) (i : Nat) (e : X) : List PV → St → Option (Fl × St)
  | [], σ => some (.nx, σ)
  | x :: xs, σ => (bindS t x σ.loc).bind fun loc => ifS (L.evT c (viewA loc) σ.reg) fun b P => cond b (ifS (L.ex (.app i e) ⟨loc, P⟩) fun fl σ₁ => (match fl with
      | .nx => some (.nx, σ₁)
      | .br => Option.none
      | .ct => Option.none
      | .rt _ => Option.none)) (findOwn L t c i e xs ⟨loc, P⟩)
noncomputable def Slot.onAny {α : Type} (s : Slot) (f g : PV → Option α) : Option α := match s with
  | .un => Option.none
  | .fz p => g p
  | .ow p => f p
noncomputable def Slot.onOw {α : Type} (s : Slot) (f : PV → Option α) : Option α := s.onAny f fun _ => Option.none
noncomputable def Slot.onFz {α : Type} (s : Slot) (f : PV → Option α) : Option α := s.onAny (fun _ => Option.none) f
theorem Slot.any_el {α : Type} {s : Slot} {f g : PV → Option α} {r : α} {G : Prop} (h : s.onAny f g = some r) (kf : ∀ p, s = .ow p → f p = some r → G) (kg : ∀ p, s = .fz p → g p = some r → G) : G := by
  cases s with
  | un => exact ns_ h
  | fz p => exact kg p rfl h
  | ow p => exact kf p rfl h
theorem Slot.ow_el {α : Type} {s : Slot} {f : PV → Option α} {r : α} {G : Prop} (h : s.onOw f = some r) (k : ∀ p, s = .ow p → f p = some r → G) : G := s.any_el h k fun _ _ h => ns_ h
theorem Slot.fz_el {α : Type} {s : Slot} {f : PV → Option α} {r : α} {G : Prop} (h : s.onFz f = some r) (k : ∀ p, s = .fz p → f p = some r → G) : G := s.any_el h (fun _ _ h => ns_ h) k
theorem ow_list {α : Type} {s : Slot} {f : List PV → Option α} {r : α} {G : Prop} (h : (s.onOw fun q => q.onL none f) = some r) (k : ∀ l, s = .ow (.list l) → f l = some r → G) : G :=
  s.ow_el h fun p e h => PV.onL_el (motive := fun p => s = .ow p → G) h (fun h => ns_ h) (fun l h e => k l e h) e
theorem ow_dict {α : Type} {s : Slot} {f : List (DK × Int) → Option α} {r : α} {G : Prop} (h : (s.onOw fun q => q.onD none f) = some r) (k : ∀ d, s = .ow (.dict d) → f d = some r → G) : G :=
  s.ow_el h fun p e h => PV.onD_el (motive := fun p => s = .ow p → G) h (fun h => ns_ h) (fun l h e => k l e h) e
theorem fz_int {α : Type} {s : Slot} {f : Int → Option α} {r : α} {G : Prop} (h : (s.onFz fun q => q.onI none f) = some r) (k : ∀ a, s = .fz (.int a) → f a = some r → G) : G :=
  s.fz_el h fun p e h => PV.onI_el (motive := fun p => s = .fz p → G) h (fun h => ns_ h) (fun l h e => k l e h) e
theorem fz_pool {α : Type} {s : Slot} {x : Option α} {r : α} {G : Prop} (h : (s.onFz fun q => if q.isPool then x else none) = some r) (k : s = .fz .pool → x = some r → G) : G :=
  s.fz_el h fun p e h => if_el h fun hp h => k (PV.pool_eq hp ▸ e) h
noncomputable def onOwn {α : Type} (body : List S) (f : X → Nat → X → Option α) : Option α := match body with
  | [] => Option.none
  | s :: r => cond r.isEmpty (dite (s.ctorIdx = 11) (fun h => S.ite.elim (motive_1 := fun _ => Option α) s h fun c a b => cond b.isEmpty (match a with
    | [] => Option.none
    | t :: a => match a with
      | [] => Option.none
      | u :: a => cond (a.isEmpty && Nat.beq u.ctorIdx 15) (dite (t.ctorIdx = 8) (fun h => S.app.elim (motive_1 := fun _ => Option α) t h fun i e => f c i e) fun _ => Option.none) Option.none) Option.none) fun _ => Option.none) Option.none
theorem cond_el {α : Type} {b : Bool} {x : Option α} {r : α} {G : Prop} (h : cond b x Option.none = some r) (k : b = true → x = some r → G) : G := by
  cases b with
  | false => exact ns_ h
  | true => exact k rfl h
theorem isEmpty_nil {α : Type} {l : List α} (h : l.isEmpty = true) : l = [] := by
  cases l with
  | nil => rfl
  | cons => exact ff_ h
@[elab_as_elim] theorem onOwn_el {α : Type} {f : X → Nat → X → Option α} {r : α} {motive : List S → Prop} {body : List S} (h : onOwn body f = some r) (k : ∀ c i e, f c i e = some r → motive [.ite c [.app i e, .brk] []]) : motive body := by
  cases body with
  | nil => exact ns_ h
  | cons s l =>
    refine cond_el h fun e h => ?_
    rw [isEmpty_nil e]
    refine dor_ h (fun h => ns_ h) fun j h => ?_
    refine S.ite.elim (motive_1 := fun s => ∀ j, S.ite.elim (motive_1 := fun _ => Option α) s j _ = some r → motive [s]) s j (fun c a b _ h => ?_) j h
    refine cond_el h fun e h => ?_
    rw [isEmpty_nil e]
    cases a with
    | nil => exact ns_ h
    | cons t a => cases a with
      | nil => exact ns_ h
      | cons u a =>
        refine cond_el h fun e h => ?_
        have e' := Bool.and_eq_true_iff.mp e
        rw [isEmpty_nil e'.1, show u = .brk from S.brk.elim (motive_1 := fun u => u = .brk) u (Nat.eq_of_beq_eq_true e'.2) rfl]
        refine dor_ h (fun h => ns_ h) fun j h => ?_
        exact S.app.elim (motive_1 := fun t => ∀ j, S.app.elim (motive_1 := fun _ => Option α) t j (fun i e => f c i e) = some r → motive [.ite c [t, .brk] []]) t j (fun i e _ h => k c i e h) j h
noncomputable def stepEx (L : Lv) (s : S) (σ : St) : Option (Fl × St) :=
  match s with
  | .asg i e => ifS (L.ev e (viewA σ.loc) σ.reg) fun p P => if p.flat then some (.nx, ⟨σ.loc.set i (.fz p), P⟩) else Option.none
  | .asgF i e => ifS (L.ev e (viewF σ.loc) σ.reg) fun p P => some (.nx, ⟨σ.loc.set i (.fz p), P⟩)
  | .own i e => if freshForm e then ifS (L.ev e (viewF σ.loc) σ.reg) fun p P => if p.ownable then some (.nx, ⟨σ.loc.set i (.ow p), P⟩) else Option.none
    else Option.none
  | .unp is e => ifS (L.ev e (viewF σ.loc) σ.reg) fun p P => p.onT Option.none fun l => (setAllS is l σ.loc).map fun loc => (.nx, ⟨loc, P⟩)
  | .setIt i idx e => ifS (L.ev e (viewA σ.loc) σ.reg) fun v P₁ => if v.flat then ifS (L.ev idx (viewA σ.loc) P₁) fun j P₂ => (lkS σ.loc i).onAny
          (fun q => q.onL (q.onD Option.none fun d => (decK j).bind fun k => v.onI Option.none fun v => if d.length < 65536 then some (.nx, ⟨σ.loc.set i (.ow (.dict (dput d k v))), P₂⟩) else Option.none)
            fun l => j.onI Option.none fun j => if 0 ≤ j ∧ j.toNat < l.length ∧ small l then some (.nx, ⟨σ.loc.set i (.ow (.list (l.set j.toNat v))), P₂⟩) else Option.none)
          (fun q => if q.isPool then P₂.bind fun l => j.onI Option.none fun j => v.onI Option.none fun v => if 0 ≤ j ∧ j.toNat < l.length ∧ small l then some (.nx, ⟨σ.loc, some (l.set j.toNat (.int v))⟩) else Option.none else Option.none)
      else Option.none
  | .augPool i j k => (lkS σ.loc i).onFz fun q => if q.isPool then σ.reg.bind fun l => if small l then (l[j]?).bind fun p => p.onI Option.none fun a => some (.nx, ⟨σ.loc, some (l.set j (.int (a + (k : Int))))⟩) else Option.none else Option.none
  | .augI i op e => (lkS σ.loc i).onFz fun q => q.onI Option.none fun a => ifS (L.ev e (viewA σ.loc) σ.reg) fun p P => p.onI Option.none fun b =>
      if op = 0 then some (.nx, ⟨σ.loc.set i (.fz (.int (a + b))), P⟩)
      else if b = 840 then some (.nx, ⟨σ.loc.set i (.fz (.int (a.fdiv b))), P⟩) else Option.none
  | .ext i e => if freshForm e then (lkS σ.loc i).onOw fun q => q.onL Option.none fun l => ifS (L.ev e (viewA σ.loc) σ.reg) fun p P => p.onL Option.none fun m =>
      if flatL m && small l && small m then some (.nx, ⟨σ.loc.set i (.ow (.list (l ++ m))), P⟩) else Option.none
    else Option.none
  | .app i e => (lkS σ.loc i).onOw fun q => q.onL Option.none fun l => ifS (L.ev e (viewA σ.loc) σ.reg) fun v P => if v.flat && small l then some (.nx, ⟨σ.loc.set i (.ow (.list (l ++ [v]))), P⟩) else Option.none
  | .appF i e => (lkS σ.loc i).onOw fun q => q.onL Option.none fun l => ifS (L.ev e (viewF σ.loc) σ.reg) fun v P => if small l then some (.nx, ⟨σ.loc.set i (.ow (.list (l ++ [v]))), P⟩) else Option.none
  | .upd i e => (lkS σ.loc i).onOw fun q => q.onD Option.none fun d => ifS (L.ev e (viewF σ.loc) σ.reg) fun p P => p.onD Option.none fun m =>
      if d.length < 65536 ∧ m.length < 65536 ∧ (m.all fun x => domK x.1) then some (.nx, ⟨σ.loc.set i (.ow (.dict (dputAll d m))), P⟩) else Option.none
  | .ite t a b => ifS (L.evT t (viewA σ.loc) σ.reg) fun c P => cond c (execs L.ex a ⟨σ.loc, P⟩) (execs L.ex b ⟨σ.loc, P⟩)
  | .for t k e body => ifS (L.ev e (viewF σ.loc) σ.reg) fun src P => (iterItems k src).bind fun items => loopS (fun x σ => (bindS t x σ.loc).bind fun loc => execs L.ex body ⟨loc, σ.reg⟩) items ⟨σ.loc, P⟩
  | .forOwn t j body => onOwn body fun c i e => (lkS σ.loc j).onOw fun q => q.onL Option.none fun l => if flatL l && !(tIdx t).contains j then findOwn L t c i e l σ else Option.none
  | .ret e => ifS (L.ev e (viewA σ.loc) σ.reg) fun p P => some (.rt p, ⟨σ.loc, P⟩)
  | .brk => some (.br, σ)
  | .cont => some (.ct, σ)
  | .freeze i => (lkS σ.loc i).onOw fun p => some (.nx, ⟨σ.loc.set i (.fz p), σ.reg⟩)
noncomputable def stepFn (tab : Nat → Option FnD) (L : Lv) (f : Nat) (args : List PV) (P : Reg) : Option (PV × Reg) :=
  (tab f).bind fun d => if args.length = d.np then ifS (execs L.ex d.body ⟨args.map .fz ++ List.replicate (d.nv - d.np) .un, P⟩) fun fl σ => (match fl with
      | .rt p => some (p, σ.reg)
      | .nx => Option.none
      | .br => Option.none
      | .ct => Option.none)
    else Option.none
noncomputable def Lv.zero : Lv := ⟨fun _ _ _ => Option.none, fun _ _ _ => Option.none, fun _ _ => Option.none, fun _ _ _ => Option.none⟩
noncomputable def Lv.step (srt : List PV → Option (List PV)) (tab : Nat → Option FnD) (L : Lv) : Lv := ⟨stepEv L srt, stepEvT L, stepEx L, stepFn tab L⟩
noncomputable def lv (srt : List PV → Option (List PV)) (tab : Nat → Option FnD) : Nat → Lv
  | 0 => Lv.zero
  | n + 1 => (lv srt tab n).step srt tab
end Mine
end
section
open PySem PySem.W PyProof.Rows
set_option Elab.async false
set_option maxRecDepth 100000
namespace Mine
noncomputable def primNames : List Str := ["name", "at", "output", "inputs", "sequential", "init", "rows"]
noncomputable def hashTup (l : List Int) : Int := reduceHash (Builtin.Tuple.tupleHashOf l)
noncomputable def hashK₀ (k : DK) : Int := hashTup [hashInt k.1, hashInt k.2.1, hashTup (k.2.2.1.map hashInt), hashInt k.2.2.2]
theorem hashK_ex : ∃ f : DK → Int, f = hashK₀ := ⟨_, rfl⟩
noncomputable def hashK : DK → Int := Classical.choose hashK_ex
theorem hashK_eq (k : DK) : hashK k = hashK₀ k := congrFun (Classical.choose_spec hashK_ex) k
section
variable (ap C : Addr) (M : Addr → Prop) (h : Heap)
mutual
inductive Rl : Value → PV → Prop
  | none : Rl .none .none
  | bool (b : Bool) : Rl (.bool b) (.bool b)
  | int (i : Int) (t : Tok) : Rl (.int i t) (.int i)
  | sym (k : Nat) (t : Tok) : k < stN → Rl (.str (st k) t) (.sym k)
  | tup {a : Addr} {vs : Array Value} {l : List PV} : ¬ M a → h.IsTuple a vs → RlAll vs.toList l → Rl (.ref a) (.tup l)
  | list {a : Addr} {vs : Array Value} {l : List PV} : ¬ M a → h.IsList a vs → RlAll vs.toList l → Rl (.ref a) (.list l)
  | dict {a : Addr} {o : Obj} {es : Array DictEntry} {n : Nat} {d : List (DK × Int)} : ¬ M a → (a == sysModules) = false → h.get? a = some o → o.ExactDict → o.data = .dict es n →
      es.toList.map (·.hash) = d.map (fun x => hashK x.1) → RlAll (es.toList.map (·.key)) (d.map fun x => encK x.1) → RlAll (es.toList.map (·.val)) (d.map fun x => .int x.2) →
      (d.map (·.1)).Nodup → Rl (.ref a) (.dict d)
  | prim {a dx : Addr} {od : Obj} {vs : List Value} {l : List PV} : ¬ M a → ¬ M dx → h.get? a = some (instObj C dx) → h.get? dx = some od →
      primNames.map (fun n => lookIn n od) = vs.map (fun v => some (some v)) → RlAll vs l → Rl (.ref a) (.prim l)
  | pool : Rl (.ref ap) .pool
inductive RlAll : List Value → List PV → Prop
  | nil : RlAll [] []
  | cons {v : Value} {p : PV} {vs : List Value} {l : List PV} : Rl v p → RlAll vs l → RlAll (v :: vs) (p :: l)
end
end
section
variable {ap C : Addr} {M M' : Addr → Prop} {h h' : Heap}
theorem IsTuple_at {a : Addr} {vs : Array Value} (x : h.IsTuple a vs) (e : ∀ o, h.get? a = some o → h'.get? a = some o) : h'.IsTuple a vs := let ⟨o, ho, r⟩ := x; (mk11 o (e _ ho) r)
theorem RlAll.ind {motive : List Value → List PV → Prop} (nil : motive [] []) (cons : ∀ v p vs l, Rl ap C M h v p → RlAll ap C M h vs l → motive vs l → motive (v :: vs) (p :: l)) {vs : List Value} {l : List PV} (r : RlAll ap C M h vs l) : motive vs l :=
  RlAll.rec (motive_1 := fun _ _ _ => True) (motive_2 := fun vs l _ => motive vs l) trivial (fun _ => trivial) (fun _ _ => trivial) (fun _ _ _ => trivial) (fun _ _ _ _ => trivial) (fun _ _ _ _ => trivial)
    (fun _ _ _ _ _ _ _ _ _ _ _ => trivial) (fun _ _ _ _ _ _ _ => trivial) trivial nil (fun x r _ ih => cons _ _ _ _ x r ih) r
theorem RlAll.nil_inv {vs : List Value} (r : RlAll ap C M h vs []) : vs = [] := by cases r; rfl
@[elab_as_elim] theorem RlAll.cons_el {motive : List Value → Prop} {vs : List Value} {p : PV} {l : List PV} (r : RlAll ap C M h vs (p :: l)) (k : ∀ v vs, Rl ap C M h v p → RlAll ap C M h vs l → motive (v :: vs)) : motive vs := by
  cases r with | cons x r => exact k _ _ x r
theorem RlAll.hd {v : Value} {vs : List Value} {p : PV} {l : List PV} (r : RlAll ap C M h (v :: vs) (p :: l)) : Rl ap C M h v p ∧ RlAll ap C M h vs l := by
  cases r with | cons x r => exact ⟨x, r⟩
noncomputable def RlV (ap C : Addr) (M : Addr → Prop) (h : Heap) (v : Value) (p : PV) : Prop := match p with
  | .none => v = .none
  | .bool b => v = .bool b
  | .int i => ∃ t, v = .int i t
  | .sym k => ∃ t, v = .str (st k) t ∧ k < stN
  | .tup l => ∃ a vs, v = .ref a ∧ ¬ M a ∧ h.IsTuple a vs ∧ RlAll ap C M h vs.toList l
  | .list l => ∃ a vs, v = .ref a ∧ ¬ M a ∧ h.IsList a vs ∧ RlAll ap C M h vs.toList l
  | .dict d => ∃ a o es n, v = .ref a ∧ ¬ M a ∧ (a == sysModules) = false ∧ h.get? a = some o ∧ o.ExactDict ∧ o.data = .dict es n ∧ es.toList.map (·.hash) = d.map (fun x => hashK x.1) ∧
      RlAll ap C M h (es.toList.map (·.key)) (d.map fun x => encK x.1) ∧ RlAll ap C M h (es.toList.map (·.val)) (d.map fun x => .int x.2) ∧ (d.map (·.1)).Nodup
  | .prim l => ∃ a dx od vs, v = .ref a ∧ ¬ M a ∧ ¬ M dx ∧ h.get? a = some (instObj C dx) ∧ h.get? dx = some od ∧ primNames.map (fun n => lookIn n od) = vs.map (fun v => some (some v)) ∧ RlAll ap C M h vs l
  | .pool => v = .ref ap
theorem Rl.inv {v : Value} {p : PV} (r : Rl ap C M h v p) : RlV ap C M h v p := by
  cases r with
  | none => rfl
  | bool b => rfl
  | int i t => exact ⟨t, rfl⟩
  | sym k t hk => exact ⟨t, rfl, hk⟩
  | tup ha ho hl => exact mk23 _ _ rfl ha ho hl
  | list ha ho hl => exact mk23 _ _ rfl ha ho hl
  | dict ha hm ho hx hd hh h1 h2 hn => exact mk40 _ _ _ _ (mk04 rfl ha hm ho (mk04 hx hd hh h1 ⟨h2, hn⟩))
  | prim ha hx ho hd hf hl => exact mk40 _ _ _ _ (mk04 rfl ha hx ho ⟨hd, hf, hl⟩)
  | pool => rfl
@[elab_as_elim] theorem Rl.int_el {motive : Value → Prop} {v : Value} {i : Int} (r : Rl ap C M h v (.int i)) (k : ∀ t, motive (.int i t)) : motive v := r.inv.elim fun t e => e ▸ k t
@[elab_as_elim] theorem Rl.bool_el {motive : Value → Prop} {v : Value} {b : Bool} (r : Rl ap C M h v (.bool b)) (k : motive (.bool b)) : motive v := (show v = .bool b from r.inv) ▸ k
@[elab_as_elim] theorem Rl.sym_el {motive : Value → Prop} {v : Value} {n : Nat} (r : Rl ap C M h v (.sym n)) (k : ∀ t, n < stN → motive (.str (st n) t)) : motive v := r.inv.elim fun t e => e.1 ▸ k t e.2
@[elab_as_elim] theorem Rl.tup_el {motive : Value → Prop} {v : Value} {l : List PV} (r : Rl ap C M h v (.tup l)) (k : ∀ a vs, ¬ M a → h.IsTuple a vs → RlAll ap C M h vs.toList l → motive (.ref a)) : motive v :=
  el23 r.inv fun a vs e ha ho hl => e ▸ k a vs ha ho hl
@[elab_as_elim] theorem Rl.list_el {motive : Value → Prop} {v : Value} {l : List PV} (r : Rl ap C M h v (.list l)) (k : ∀ a vs, ¬ M a → h.IsList a vs → RlAll ap C M h vs.toList l → motive (.ref a)) : motive v :=
  el23 r.inv fun a vs e ha ho hl => e ▸ k a vs ha ho hl
@[elab_as_elim] theorem Rl.dict_el {motive : Value → Prop} {v : Value} {d : List (DK × Int)} (r : Rl ap C M h v (.dict d)) (k : ∀ a, ¬ M a → (a == sysModules) = false → motive (.ref a)) : motive v :=
  el40 r.inv fun a _ _ _ z => el03 z fun e ha hm _ => e ▸ k a ha hm
-- what stands for a value stands for it still, where all that is not in M has been kept, and M' is M or holds besides what was nowhere
theorem RlAll.mono (hk : ∀ a o, ¬ M a → h.get? a = some o → h'.get? a = some o) (hM : ∀ a, M' a → M a ∨ h.get? a = Option.none) {vs : List Value} {l : List PV} (r : RlAll ap C M h vs l) : RlAll ap C M' h' vs l :=
  have nm : ∀ {a o}, ¬ M a → h.get? a = some o → ¬ M' a := fun ha ho q => (hM _ q).elim ha fun n => ns_ (n.symm.trans ho)
  RlAll.rec (motive_1 := fun v p _ => Rl ap C M' h' v p) (motive_2 := fun vs l _ => RlAll ap C M' h' vs l) .none .bool .int .sym
    (fun ha ho _ ih => .tup (ho.elim fun _ e => nm ha e.1) (IsTuple_at ho fun o => hk _ o ha) ih)
    (fun ha ho _ ih => .list (ho.elim fun _ e => nm ha e.1) (Heap.IsList.at ho fun o => hk _ o ha) ih)
    (fun ha hm ho hx hd hh _ _ hn i1 i2 => .dict (nm ha ho) hm (hk _ _ ha ho) hx hd hh i1 i2 hn)
    (fun ha hx ho hd hf _ ih => .prim (nm ha ho) (nm hx hd) (hk _ _ ha ho) (hk _ _ hx hd) hf ih) .pool .nil (fun _ _ i1 i2 => .cons i1 i2) r
theorem RlAll.one {v : Value} {p : PV} (x : Rl ap C M h v p) : RlAll ap C M h [v] [p] := .cons x .nil
theorem Rl.mono (hk : ∀ a o, ¬ M a → h.get? a = some o → h'.get? a = some o) (hM : ∀ a, M' a → M a ∨ h.get? a = Option.none) {v : Value} {p : PV} (r : Rl ap C M h v p) : Rl ap C M' h' v p := (RlAll.mono hk hM (.one r)).hd.1
theorem RlAll.length {vs : List Value} {l : List PV} (r : RlAll ap C M h vs l) : vs.length = l.length := r.ind (motive := fun vs l => vs.length = l.length) rfl fun _ _ _ _ _ _ ih => congrArg (· + 1) ih
theorem RlAll.get {vs : List Value} {l : List PV} (r : RlAll ap C M h vs l) {i : Nat} {p : PV} (e : l[i]? = some p) : ∃ v, vs[i]? = some v ∧ Rl ap C M h v p :=
  RlAll.ind (motive := fun vs l => ∀ i, l[i]? = some p → ∃ v, vs[i]? = some v ∧ Rl ap C M h v p) (fun _ e => ns_ e) (fun v q _ _ x _ ih i e => match i with
    | 0 => mk11 v rfl (Option.some.inj e ▸ x)
    | i + 1 => ih i e) r i e
theorem RlAll.append {vs : List Value} {l : List PV} (r : RlAll ap C M h vs l) {us : List Value} {m : List PV} (y : RlAll ap C M h us m) : RlAll ap C M h (vs ++ us) (l ++ m) :=
  r.ind (motive := fun vs l => RlAll ap C M h (vs ++ us) (l ++ m)) y fun _ _ _ _ x _ ih => .cons x ih
theorem RlAll.take {vs : List Value} {l : List PV} (r : RlAll ap C M h vs l) (n : Nat) : RlAll ap C M h (vs.take n) (l.take n) :=
  r.ind (motive := fun vs l => ∀ n, RlAll ap C M h (vs.take n) (l.take n)) (fun n => by rw [List.take_nil, List.take_nil]; exact .nil) (fun _ _ _ _ x _ ih n => match n with
    | 0 => .nil
    | n + 1 => .cons x (ih n)) n
theorem RlAll.drop {vs : List Value} {l : List PV} (r : RlAll ap C M h vs l) (n : Nat) : RlAll ap C M h (vs.drop n) (l.drop n) :=
  r.ind (motive := fun vs l => ∀ n, RlAll ap C M h (vs.drop n) (l.drop n)) (fun n => by rw [List.drop_nil, List.drop_nil]; exact .nil) (fun _ _ _ _ x r ih n => match n with
    | 0 => .cons x r
    | n + 1 => ih n) n
theorem RlAll.set {vs : List Value} {l : List PV} (r : RlAll ap C M h vs l) {v : Value} {p : PV} (y : Rl ap C M h v p) (n : Nat) : RlAll ap C M h (vs.set n v) (l.set n p) :=
  r.ind (motive := fun vs l => ∀ n, RlAll ap C M h (vs.set n v) (l.set n p)) (fun n => by rw [List.set_nil, List.set_nil]; exact .nil) (fun _ _ _ _ x r ih n => match n with
    | 0 => .cons y r
    | n + 1 => .cons x (ih n)) n
-- a flat value may be seen under a larger M, whose further places hold no tuple
theorem RlAll.up (hM : ∀ a, M' a → ¬ M a → ∃ o, h.get? a = some o ∧ o.cls ≠ .type "tuple") {vs : List Value} {l : List PV} (hf : flatL l = true) (r : RlAll ap C M h vs l) : RlAll ap C M' h vs l :=
  RlAll.rec (motive_1 := fun v p _ => p.flat = true → Rl ap C M' h v p) (motive_2 := fun vs l _ => flatL l = true → RlAll ap C M' h vs l) (fun _ => .none) (fun b _ => .bool b) (fun i t _ => .int i t) (fun k t hk _ => .sym k t hk)
    (fun ha ho _ ih hf => .tup (fun q => el11 (hM _ q ha) fun o e n => ho.elim fun o' z => n (Option.some.inj (e.symm.trans z.1) ▸ z.2.1)) ho (ih hf))
    (fun _ _ _ _ hf => ff_ hf) (fun _ _ _ _ _ _ _ _ _ _ _ hf => ff_ hf) (fun _ _ _ _ _ _ _ hf => ff_ hf) (fun hf => ff_ hf) (fun _ => .nil) (fun _ _ i1 i2 hf => .cons (i1 (Bool.and_eq_true_iff.mp hf).1) (i2 (Bool.and_eq_true_iff.mp hf).2)) r hf
theorem Rl.up (hM : ∀ a, M' a → ¬ M a → ∃ o, h.get? a = some o ∧ o.cls ≠ .type "tuple") {v : Value} {p : PV} (hf : p.flat = true) (r : Rl ap C M h v p) : Rl ap C M' h v p :=
  (RlAll.up (l := [p]) hM (show (p.flat && true) = true by rw [hf]; rfl) (.one r)).hd.1
mutual
noncomputable def toD : PV → PyData
  | .int i => .int i
  | .sym k => .str (st k)
  | .tup l => .tuple (toDs l)
  | .list l => .list (toDs l)
  | _ => .none
noncomputable def toDs : List PV → List PyData
  | [] => []
  | p :: r => toD p :: toDs r
end
theorem RlAll.reads {vs : List Value} {l : List PV} (n : Nat) (r : RlAll ap C M h vs l) (hs : safeL l n = true) : ∃ as, ReadsAll h vs (toDs l) as :=
  RlAll.rec (motive_1 := fun v p _ => ∀ n, p.safe n = true → ∃ as, Reads h v (toD p) as) (motive_2 := fun vs l _ => ∀ n, safeL l n = true → ∃ as, ReadsAll h vs (toDs l) as) (fun _ _ => ⟨_, .none⟩) (fun _ _ hs => ff_ hs) (fun i t _ _ => ⟨_, .int i t⟩) (fun _ t _ _ _ => ⟨_, .str _ t⟩)
    (fun _ ho _ ih n hs => match n, hs with
      | 0, hs => ff_ hs
      | n + 1, hs => (ih n hs).elim fun as r => ho.elim fun o z => z.2.2.elim fun k d => ⟨_, .tuple z.1 z.2.1 d r⟩)
    (fun _ ho _ ih n hs => match n, hs with
      | 0, hs => ff_ hs
      | n + 1, hs => (ih n hs).elim fun as r => ho.elim fun o z => z.2.2.elim fun k d => ⟨_, .list z.1 z.2.1 d r⟩)
    (fun _ _ _ _ _ _ _ _ _ _ _ _ hs => ff_ hs) (fun _ _ _ _ _ _ _ _ hs => ff_ hs) (fun _ hs => ff_ hs) (fun _ _ => ⟨_, .nil⟩)
    (fun _ _ i1 i2 n hs => (i1 n (Bool.and_eq_true_iff.mp hs).1).elim fun as q => (i2 n (Bool.and_eq_true_iff.mp hs).2).elim fun bs q' => ⟨_, .cons q q'⟩) r n hs
theorem Rl.reads {v : Value} {p : PV} (n : Nat) (r : Rl ap C M h v p) (hs : p.safe n = true) : ∃ as, Reads h v (toD p) as := by
  refine (RlAll.reads (l := [p]) n (.one r) (show (p.safe n && true) = true by rw [hs]; rfl)).elim fun as q => ?_
  cases q with | cons q _ => exact ⟨_, q⟩
theorem st_ok : ∀ k, k < stN → PyData.strOk (st k) = true := by decide +kernel
theorem st_inj : ∀ i, i < stN → ∀ j, j < stN → (st i == st j) = Nat.beq i j := by decide +kernel
@[elab_as_elim] theorem safe_el {motive : PV → Prop} {p : PV} {n : Nat} (hs : p.safe n = true) (k0 : motive .none) (k1 : ∀ i, motive (.int i)) (k2 : ∀ k, k < stN → motive (.sym k)) (k3 : ∀ l m, n = m + 1 → safeL l m = true → motive (.tup l)) (k4 : ∀ l m, n = m + 1 → safeL l m = true → motive (.list l)) : motive p := by
  cases p with
  | none => exact k0
  | int i => exact k1 i
  | sym k => exact k2 k (Nat.le_of_ble_eq_true hs)
  | tup l => cases n with
    | zero => exact ff_ hs
    | succ m => exact k3 l m rfl hs
  | list l => cases n with
    | zero => exact ff_ hs
    | succ m => exact k4 l m rfl hs
  | _ => exact ff_ hs
theorem lay_ofs' : ∀ (n : Nat) (l : List PV), safeL l n = true → PyData.canLayAll0 (toDs l) = true ∧ PyData.depthAll (toDs l) ≤ n := by
  intro n
  induction n with
  | zero =>
    intro l
    induction l with
    | nil => exact fun _ => ⟨rfl, Nat.zero_le _⟩
    | cons p r ih =>
      intro hs
      have hs := Bool.and_eq_true_iff.mp hs
      refine safe_el (motive := fun p => (PyData.canLay0 (toD p) && PyData.canLayAll0 (toDs r)) = true ∧ max (toD p).depth (PyData.depthAll (toDs r)) ≤ 0) hs.1 ?_ (fun i => ?_) (fun k hk => ?_) (fun _ _ e _ => nomatch e) (fun _ _ e _ => nomatch e)
      · rw [(ih hs.2).1]; exact ⟨rfl, Nat.max_le.mpr ⟨Nat.le_refl _, (ih hs.2).2⟩⟩
      · rw [(ih hs.2).1]; exact ⟨rfl, Nat.max_le.mpr ⟨Nat.le_refl _, (ih hs.2).2⟩⟩
      · rw [(ih hs.2).1]; exact ⟨by rw [Bool.and_true]; exact st_ok k hk, Nat.max_le.mpr ⟨Nat.le_refl _, (ih hs.2).2⟩⟩
  | succ n ihn =>
    intro l
    induction l with
    | nil => exact fun _ => ⟨rfl, Nat.zero_le _⟩
    | cons p r ih =>
      intro hs
      have hs := Bool.and_eq_true_iff.mp hs
      refine safe_el (motive := fun p => (PyData.canLay0 (toD p) && PyData.canLayAll0 (toDs r)) = true ∧ max (toD p).depth (PyData.depthAll (toDs r)) ≤ n + 1) hs.1 ?_ (fun i => ?_) (fun k hk => ?_) (fun l m e h => ?_) (fun l m e h => ?_)
      · rw [(ih hs.2).1]; exact ⟨rfl, Nat.max_le.mpr ⟨Nat.zero_le _, (ih hs.2).2⟩⟩
      · rw [(ih hs.2).1]; exact ⟨rfl, Nat.max_le.mpr ⟨Nat.zero_le _, (ih hs.2).2⟩⟩
      · rw [(ih hs.2).1]; exact ⟨by rw [Bool.and_true]; exact st_ok k hk, Nat.max_le.mpr ⟨Nat.zero_le _, (ih hs.2).2⟩⟩
      · cases e; have q := ihn l h; rw [(ih hs.2).1, Bool.and_true]; exact ⟨q.1, Nat.max_le.mpr ⟨Nat.succ_le_succ q.2, (ih hs.2).2⟩⟩
      · cases e; have q := ihn l h; rw [(ih hs.2).1, Bool.and_true]; exact ⟨q.1, Nat.max_le.mpr ⟨Nat.succ_le_succ q.2, (ih hs.2).2⟩⟩
theorem lay_ofs (l : List PV) (n : Nat) (h : safeL l n = true) : PyData.canLayAll0 (toDs l) = true ∧ PyData.depthAll (toDs l) ≤ n := lay_ofs' n l h
theorem lay_of (p : PV) (n : Nat) (hs : p.safe n = true) : (toD p).canLay0 = true ∧ (toD p).depth ≤ n := by
  have q := lay_ofs' n [p] (show (p.safe n && true) = true by rw [hs]; rfl)
  exact ⟨(Bool.and_eq_true_iff.mp q.1).1, Nat.le_trans (Nat.le_max_left _ _) q.2⟩
theorem eqv_ofs : ∀ (n : Nat) (l r : List PV) (m : Nat), safeL l n = true → safeL r m = true → PyData.eqvAll (toDs l) (toDs r) = eqL l r := by
  have cons : ∀ {p q : PV} {l r : List PV}, PyData.eqv (toD p) (toD q) = p.eq q → PyData.eqvAll (toDs l) (toDs r) = eqL l r → PyData.eqvAll (toDs (p :: l)) (toDs (q :: r)) = eqL (p :: l) (q :: r) := fun {p q l r} e1 e2 => by
    show (PyData.eqv (toD p) (toD q) && PyData.eqvAll (toDs l) (toDs r)) = (p.eq q && eqL l r)
    rw [e1, e2]
  have sy : ∀ {k j : Nat}, k < stN → j < stN → PyData.eqv (toD (.sym k)) (toD (.sym j)) = (PV.sym k).eq (.sym j) := fun h1 h2 => st_inj _ h1 _ h2
  intro n
  induction n with
  | zero =>
    intro l
    induction l with
    | nil => intro r m _ _; cases r <;> rfl
    | cons p l ih =>
      intro r m h1 h2
      cases r with
      | nil => rfl
      | cons q r =>
        have h1 := Bool.and_eq_true_iff.mp h1
        have h2 := Bool.and_eq_true_iff.mp h2
        refine cons ?_ (ih r m h1.2 h2.2)
        refine safe_el (motive := fun p => PyData.eqv (toD p) (toD q) = p.eq q) h1.1 ?_ (fun i => ?_) (fun k hk => ?_) (fun _ _ e _ => nomatch e) (fun _ _ e _ => nomatch e)
        · exact safe_el (motive := fun q => PyData.eqv (toD .none) (toD q) = PV.none.eq q) h2.1 rfl (fun _ => rfl) (fun _ _ => rfl) (fun _ _ _ _ => rfl) (fun _ _ _ _ => rfl)
        · exact safe_el (motive := fun q => PyData.eqv (toD (.int i)) (toD q) = (PV.int i).eq q) h2.1 rfl (fun _ => rfl) (fun _ _ => rfl) (fun _ _ _ _ => rfl) (fun _ _ _ _ => rfl)
        · exact safe_el (motive := fun q => PyData.eqv (toD (.sym k)) (toD q) = (PV.sym k).eq q) h2.1 rfl (fun _ => rfl) (fun _ h => sy hk h) (fun _ _ _ _ => rfl) (fun _ _ _ _ => rfl)
  | succ n ihn =>
    intro l
    induction l with
    | nil => intro r m _ _; cases r <;> rfl
    | cons p l ih =>
      intro r m h1 h2
      cases r with
      | nil => rfl
      | cons q r =>
        have h1 := Bool.and_eq_true_iff.mp h1
        have h2 := Bool.and_eq_true_iff.mp h2
        refine cons ?_ (ih r m h1.2 h2.2)
        refine safe_el (motive := fun p => PyData.eqv (toD p) (toD q) = p.eq q) h1.1 ?_ (fun i => ?_) (fun k hk => ?_) (fun l' _ e h => ?_) (fun l' _ e h => ?_)
        · exact safe_el (motive := fun q => PyData.eqv (toD .none) (toD q) = PV.none.eq q) h2.1 rfl (fun _ => rfl) (fun _ _ => rfl) (fun _ _ _ _ => rfl) (fun _ _ _ _ => rfl)
        · exact safe_el (motive := fun q => PyData.eqv (toD (.int i)) (toD q) = (PV.int i).eq q) h2.1 rfl (fun _ => rfl) (fun _ _ => rfl) (fun _ _ _ _ => rfl) (fun _ _ _ _ => rfl)
        · exact safe_el (motive := fun q => PyData.eqv (toD (.sym k)) (toD q) = (PV.sym k).eq q) h2.1 rfl (fun _ => rfl) (fun _ h => sy hk h) (fun _ _ _ _ => rfl) (fun _ _ _ _ => rfl)
        · cases e; exact safe_el (motive := fun q => PyData.eqv (toD (.tup l')) (toD q) = (PV.tup l').eq q) h2.1 rfl (fun _ => rfl) (fun _ _ => rfl) (fun r' m' _ h' => ihn l' r' m' h h') (fun _ _ _ _ => rfl)
        · cases e; exact safe_el (motive := fun q => PyData.eqv (toD (.list l')) (toD q) = (PV.list l').eq q) h2.1 rfl (fun _ => rfl) (fun _ _ => rfl) (fun _ _ _ _ => rfl) (fun r' m' _ h' => ihn l' r' m' h h')
theorem eqv_of (p q : PV) (n m : Nat) (h1 : p.safe n = true) (h2 : q.safe m = true) : PyData.eqv (toD p) (toD q) = p.eq q := by
  have e := eqv_ofs n [p] [q] m (show (p.safe n && true) = true by rw [h1]; rfl) (show (q.safe m && true) = true by rw [h2]; rfl)
  have e : (PyData.eqv (toD p) (toD q) && true) = (p.eq q && true) := e
  rwa [Bool.and_true, Bool.and_true] at e
end
end Mine
end
section
open PySem PySem.W PyProof.Rows
set_option Elab.async false
set_option maxRecDepth 100000
namespace Mine
section
variable (prog : Program) (w : World)
noncomputable def isDK (h : Heap) (k : DK) (a : Addr) : Prop :=
  ∃ o items ep b ta to th, h.get? a = some o ∧ o.cls = .type "tuple" ∧ o.data = .seq items ep ∧ items.toList = [.int k.1 ta, .int k.2.1 to, .ref b, .int k.2.2.2 th] ∧
    IsTupleKey (intKind prog w) h k.2.2.1 b
variable {prog w}
theorem ints_are {n : List Int} : ∀ {vs : List Value}, ItemsAre (intKind prog w) n vs → ∀ (h : Heap), ∃ as, ReadsAll h vs (toDs (n.map .int)) as := by
  intro vs x h
  induction x with
  | nil => exact ⟨_, .nil⟩
  | @cons k v ks vs h1 _ ih =>
    (refine el10 ih ?_; try clear ih; intro as r)
    (refine el10 (Value.isInt_shape h1) ?_; intro t zq0; subst zq0)
    exact ⟨_, .cons (.int _ _) r⟩
theorem isDK.reads {h : Heap} {k : DK} {a : Addr} (x : isDK prog w h k a) : ∃ as, Reads h (.ref a) (toD (encK k)) as := by
  (refine el40 x ?_; try clear x; intro o items ep b zr0; refine el34 zr0 ?_; clear zr0; intro ta to th ho hc hd hi zr1; refine el33 zr1 ?_; clear zr1; intro o' items' ep' ho' hc' hd' hi')
  (refine el10 (ints_are hi' h) ?_; intro as r)
  have q : ReadsAll h items.toList (toDs [.int k.1, .int k.2.1, .tup (k.2.2.1.map .int), .int k.2.2.2]) ([] ++ ([] ++ (as ++ ([] ++ [])))) := by
    rw [hi]
    exact .cons (.int _ _) (.cons (.int _ _) (.cons (.tuple ho' hc' hd' r) (.cons (.int _ _) .nil)))
  exact ⟨_, .tuple ho hc hd q⟩
theorem safe_ints (n : List Int) (m : Nat) : safeL (n.map .int) m = true := by
  induction n with
  | nil => rfl
  | cons i r ih => exact ih
theorem safe_key (k : DK) : (encK k).safe 2 = true := by
  show (true && (true && (safeL (k.2.2.1.map .int) 0 && (true && true)))) = true
  rw [safe_ints]; rfl
theorem eqL_ints : ∀ a b : List Int, eqL (a.map .int) (b.map .int) = decide (a = b)
  | [], [] => rfl
  | [], _ :: _ => rfl
  | _ :: _, [] => rfl
  | i :: a, j :: b => by
    show (decide (i = j) && eqL (a.map .int) (b.map .int)) = _
    rw [eqL_ints a b]
    by_cases h1 : i = j <;> by_cases h2 : a = b <;> simp [h1, h2]
theorem eq_key (k j : DK) : (encK k).eq (encK j) = decide (k = j) := by
  obtain ⟨a, b, c, d⟩ := k
  obtain ⟨a', b', c', d'⟩ := j
  show (decide (a = a') && (decide (b = b') && (eqL (c.map .int) (c'.map .int) && (decide (d = d') && true)))) = _
  rw [eqL_ints]
  by_cases h1 : a = a' <;> by_cases h2 : b = b' <;> by_cases h3 : c = c' <;> by_cases h4 : d = d' <;> simp [h1, h2, h3, h4]
theorem isDK.inj {h : Heap} {a : Addr} {x y : DK} (hx : isDK prog w h x a) (hy : isDK prog w h y a) : x = y := by
  (refine el40 hx ?_; try clear hx; intro o items ep b zr0; refine el34 zr0 ?_; clear zr0; intro ta to th ho hc hd hi ht)
  (refine el40 hy ?_; try clear hy; intro o' items' ep' b' zr0; refine el34 zr0 ?_; clear zr0; intro ta' to' th' ho' hc' hd' hi' ht')
  obtain rfl : o = o' := Option.some.inj (ho.symm.trans ho')
  rw [hd] at hd'
  injection hd' with h1 _
  subst h1
  rw [hi] at hi'
  simp only [List.cons.injEq, Value.int.injEq, Value.ref.injEq, and_true] at hi'
  (refine el04 hi' ?_; try clear hi'; intro zp0 zp1 e3 e4 _; refine el01 zp0 ?_; clear zp0; intro e1 _; refine el01 zp1 ?_; clear zp1; intro e2 _)
  subst e3
  have e5 := ht.inj ht'
  obtain ⟨a, b, c, d⟩ := x
  obtain ⟨a', b', c', d'⟩ := y
  simp_all
theorem isDK.keeps {h h' : Heap} {k : DK} {a d : Addr} {o : Obj} {es : Array DictEntry} {ep : Nat} (x : isDK prog w h k a) (ho : h.get? d = some o) (hd : o.data = .dict es ep) (hs : Heap.SameBut d h h') : isDK prog w h' k a := by
  (refine el40 x ?_; try clear x; intro o' items ep' b zr0; refine el34 zr0 ?_; clear zr0; intro ta to th ho' hc hd' hi ht)
  have hne : a ≠ d := by
    rintro rfl
    obtain rfl : o' = o := Option.some.inj (ho'.symm.trans ho)
    rw [hd] at hd'; exact nomatch hd'
  exact (mk40 o' items ep' b (mk34 ta to th ((hs.2 a hne).trans ho') hc hd' hi (ht.keeps ho hd hs)))
variable {A : Around} {E : Value → Shared → Prop} {s : Shared}
theorem dk_hash {k : DK} {a : Addr} {Q : Int → Shared → Prop} (hu : A.units + 1 < cLine) (hk : isDK prog w s.heap k a) (h : Q (hashK k) { s with toks := s.toks + (k.2.2.1.length + 5) }) :
    wpAny (model prog w) A (pyHash (.ref a)) Q E s := by
  (refine el40 hk ?_; try clear hk; intro o items n b zr0; refine el34 zr0 ?_; clear zr0; intro ta to th ho hc hd hi ht)
  have hT : s.TypeIs (.ref a) "tuple" := (mk11 o ho hc)
  unfold pyHash
  first | unfold pyHashByItsType | skip
  first | refine wpAny_bind (wpAny_cRoomFor_or (.inr (Nat.lt_of_succ_lt hu)) ?_) | skip
  refine wpAny_bind (wpAny_specialOf hT F.slot_tuple_hash.lookup ?_)
  show wpAny _ _ (if (some (Value.builtin "tuple.__hash__") == some Value.none) = true then _ else _) Q E s
  rw [if_neg (by rw [beq_builtin_none]; exact Bool.false_ne_true)]
  refine wpAny_bind (wpAny_specialOf hT F.slot_tuple_hash.lookup ?_)
  show wpAny _ _ (callSpecialIfBoundUnlessNone? (.ref a) "__hash__" _ >>= _) Q E s
  refine wpAny_bind (wpAny_callSpecialIfBoundUnlessNone?_slot hT F.slot_tuple_hash (wpAny_call_entry F.slot_tuple_hash hT F.entry_tuple_hash ?_ (F.args_tuple_hash_1 _)))
  show wpAny _ _ (Builtin.Tuple.tupleItemsOf (.ref a) >>= _) _ _ s
  refine wpAny_bind (wpAny_tupleItemsOf ho hd ?_)
  refine wpAny_bind ?_
  rw [← Array.forIn_toList, hi]
  have hu1 : A.in1.units < cLine := hu
  simp -iota only [List.forIn_cons, List.forIn_nil]
  refine wpAny_bind (wpAny_bind (wpAny_pyHash_int ?_))
  refine wpAny_pure ?_
  refine wpAny_bind (wpAny_bind (wpAny_pyHash_int ?_))
  refine wpAny_pure ?_
  refine wpAny_bind (wpAny_bind (wpAny_pyHash_tuple hu1 ht ?_))
  refine wpAny_pure ?_
  refine wpAny_bind (wpAny_bind (wpAny_pyHash_int ?_))
  refine wpAny_pure (wpAny_pure ?_)
  show wpAny _ _ (retInt (Builtin.Tuple.tupleHashOf [hashInt k.1, hashInt k.2.1, hashTup (k.2.2.1.map hashInt), hashInt k.2.2.2])) _ _ _
  refine wpAny_ret_mkInt ?_
  have et : s.toks + 1 + 1 + (k.2.2.1.length + 1) + 1 + 1 = s.toks + (k.2.2.1.length + 5) := by lia
  rw [hashK_eq] at h
  unfold hashK₀ at h
  show wpAny _ _ (if (decide (-(2 : Int) ^ 63 ≤ Builtin.Tuple.tupleHashOf [hashInt k.1, hashInt k.2.1, hashTup (k.2.2.1.map hashInt), hashInt k.2.2.2]) && decide (Builtin.Tuple.tupleHashOf [hashInt k.1, hashInt k.2.1, hashTup (k.2.2.1.map hashInt), hashInt k.2.2.2] < 2 ^ 63)) = true then _ else _) Q E _
  generalize [hashInt k.1, hashInt k.2.1, hashTup (k.2.2.1.map hashInt), hashInt k.2.2.2] = hl at h ⊢
  unfold hashTup reduceHash at h
  by_cases hr : (decide (-(2 : Int) ^ 63 ≤ Builtin.Tuple.tupleHashOf hl) && decide (Builtin.Tuple.tupleHashOf hl < 2 ^ 63)) = true
  · rw [if_pos hr]
    rw [if_pos hr] at h
    refine wpAny_pure ?_
    rw [← et] at h
    exact h
  · rw [if_neg hr]
    rw [if_neg hr] at h
    refine wpAny_bind (wpAny_rule (wpAny_pure ?_))
    rw [← et] at h
    exact h
theorem dk_eq {x y : DK} {a b : Addr} {Q : Bool → Shared → Prop} (hu : A.units + 8 < cLine) (hx : isDK prog w s.heap x a) (hy : isDK prog w s.heap y b) (h : Q (decide (x = y)) s) :
    wpAny (model prog w) A (eqBool (.ref a) (.ref b)) Q E s := by
  (refine el10 (hx.reads) ?_; intro as rx)
  (refine el10 (hy.reads) ?_; intro bs ry)
  have lx := lay_of _ 2 (safe_key x)
  have ly := lay_of _ 2 (safe_key y)
  refine SeqAt.eqBoolOverData prog w A E s _ _ _ _ _ _ Q rx ry lx.1 ly.1 ?_ ?_
  · have := lx.2
    have := Nat.min_le_left (toD (encK x)).depth (toD (encK y)).depth
    lia
  · rw [eqv_of _ _ 2 2 (safe_key x) (safe_key y), eq_key]; exact h
theorem dk_quiet {k : DK} {a : Addr} {Q : Bool → Shared → Prop} (hk : isDK prog w s.heap k a) (h : Q true s) : wpAny (model prog w) A (eqIsQuiet 8 (.ref a)) Q E s := by
  (refine el40 hk ?_; try clear hk; intro o items n b zr0; refine el34 zr0 ?_; clear zr0; intro ta to th ho hc hd hi ht)
  have hT : s.TypeIs (.ref a) "tuple" := (mk11 o ho hc)
  have hTb := ht.typeIs
  (refine el33 ht ?_; try clear ht; intro o' items' n' ho' hc' hd' hi')
  unfold eqIsQuiet
  refine wpAny_bind (wpAny_specialOf hT F.slot_tuple_eq.lookup ?_)
  show wpAny _ _ (isInstance (.ref a) (.type "tuple") >>= _) _ _ s
  refine wpAny_bind (wpAny_isInstance hT isSubtype_tuple_tuple ?_)
  simp -iota only [Bool.not_true, Bool.false_eq_true, if_false]
  refine wpAny_bind (wpAny_seqItems ho hd ?_)
  refine wpAny_bind ?_
  show wpAny _ _ (forIn items _ _) _ _ s
  rw [← Array.forIn_toList, hi]
  simp -iota only [List.forIn_cons, List.forIn_nil]
  rw [eqIsQuiet_byValue 7 (v := .int k.1 ta) rfl, eqIsQuiet_byValue 7 (v := .int k.2.1 to) rfl, eqIsQuiet_byValue 7 (v := .int k.2.2.2 th) rfl]
  refine wpAny_bind (wpAny_bind (wpAny_pure ?_))
  simp -iota only [Bool.not_true, Bool.false_eq_true, if_false]
  refine wpAny_pure (wpAny_bind (wpAny_bind (wpAny_pure ?_)))
  simp -iota only [Bool.not_true, Bool.false_eq_true, if_false]
  refine wpAny_pure (wpAny_bind (wpAny_bind ?_))
  unfold eqIsQuiet
  refine wpAny_bind (wpAny_specialOf hTb F.slot_tuple_eq.lookup ?_)
  show wpAny _ _ (isInstance (.ref b) (.type "tuple") >>= _) _ _ s
  refine wpAny_bind (wpAny_isInstance hTb isSubtype_tuple_tuple ?_)
  simp -iota only [Bool.not_true, Bool.false_eq_true, if_false]
  refine wpAny_bind (wpAny_seqItems ho' hd' ?_)
  refine wpAny_bind ?_
  show wpAny _ _ (forIn items' _ _) _ _ s
  rw [← Array.forIn_toList]
  refine wpAny_forIn_list _ (fun rest r s' => r.1 = none ∧ s' = s ∧ ∀ v ∈ rest, carriedByValue v = true) _ ?_ ?_ _ _ ⟨rfl, rfl, hi'.byValue⟩
  · rintro v rest r s' ⟨hr, rfl, hall⟩
    rw [eqIsQuiet_byValue _ (hall v List.mem_cons_self)]
    refine wpAny_bind (wpAny_pure ?_)
    simp -iota only [Bool.not_true, Bool.false_eq_true, if_false]
    exact wpAny_pure ⟨rfl, rfl, fun u hu' => hall u (List.mem_cons_of_mem _ hu')⟩
  · rintro ⟨r1, r2⟩ s' ⟨hr, rfl, _⟩
    simp only at hr
    subst hr
    refine wpAny_pure ?_
    simp -iota only [Bool.not_true, Bool.false_eq_true, if_false]
    refine wpAny_pure (wpAny_bind (wpAny_bind (wpAny_pure ?_)))
    simp -iota only [Bool.not_true, Bool.false_eq_true, if_false]
    exact wpAny_pure (wpAny_pure (wpAny_pure h))
end
noncomputable def dkKind (prog : Program) (w : World) : HeapKind prog w DK where
  is := isDK prog w
  hash := hashK
  draws := fun k => k.2.2.1.length + 5
  room := fun A => A.units + 8 < cLine
  inj := fun hx hy => hx.inj hy
  keeps := fun x ho hd hs => x.keeps ho hd hs
  pyHash := fun hu hk h => dk_hash (by lia) hk h
  eqBool := fun hu hx hy h => dk_eq hu hx hy h
  quiet := fun hk h => dk_quiet hk h
end Mine
end
section
open PySem PySem.W PyProof.Rows
set_option Elab.async false
set_option maxRecDepth 100000
namespace Mine
noncomputable abbrev NoE : Value → Shared → Prop := fun _ _ => False
structure Ext (X : Addr → Prop) (s s' : Shared) : Prop where
  same : ∃ h tk, s' = { s with heap := h, toks := tk }
  keep : ∀ b o, ¬ X b → s.heap.get? b = some o → s'.heap.get? b = some o
noncomputable abbrev Ext0 := Ext fun _ => False
theorem Ext.refl (X : Addr → Prop) (s : Shared) : Ext X s s := ⟨(mk20 _ _ rfl), fun _ _ _ e => e⟩
theorem Ext.trans {X Y Z : Addr → Prop} {a b c : Shared} (x : Ext X a b) (y : Ext Y b c) (hX : ∀ p, X p → Z p) (hY : ∀ p o, Y p → a.heap.get? p = some o → Z p) : Ext Z a c := by
  (refine el20 (x.same) ?_; intro h tk zq0; subst zq0)
  (refine el20 (y.same) ?_; intro h' tk' zq0; subst zq0)
  exact ⟨(mk20 h' tk' rfl), fun p o n e => y.keep p o (fun q => n (hY p o q e)) (x.keep p o (fun q => n (hX p q)) e)⟩
theorem Ext.tr {X : Addr → Prop} {a b c : Shared} (x : Ext X a b) (y : Ext X b c) : Ext X a c := x.trans y (fun _ q => q) fun _ _ q _ => q
theorem Ext0.tr {X : Addr → Prop} {a b c : Shared} (x : Ext0 a b) (y : Ext X b c) : Ext X a c := x.trans y (fun _ q => q.elim) fun _ _ q _ => q
theorem Ext.tr0 {X : Addr → Prop} {a b c : Shared} (x : Ext X a b) (y : Ext0 b c) : Ext X a c := x.trans y (fun _ q => q) fun _ _ q _ => q.elim
theorem Ext.wk {X Y : Addr → Prop} {a b : Shared} (x : Ext X a b) (h : ∀ p, X p → Y p) : Ext Y a b := ⟨x.same, fun p o n => x.keep p o fun q => n (h p q)⟩
theorem Ext0.all {a b : Shared} (x : Ext0 a b) : ∀ p o, a.heap.get? p = some o → b.heap.get? p = some o := fun p o => x.keep p o id
theorem Ext0.push (s : Shared) (o : Obj) (tk : Nat) : Ext0 s { s with heap := s.heap.push o, toks := tk } := ⟨(mk20 _ _ rfl), fun _ _ _ e => Heap.get?_push_of_some _ e⟩
theorem Ext0.tok (s : Shared) (tk : Nat) : Ext0 s { s with toks := tk } := ⟨(mk20 _ _ rfl), fun _ _ _ e => e⟩
theorem Ext0.of (s : Shared) {h : Heap} {tk : Nat} (hk : ∀ b o, s.heap.get? b = some o → h.get? b = some o) : Ext0 s { s with heap := h, toks := tk } := ⟨(mk20 _ _ rfl), fun b o _ e => hk b o e⟩
theorem Ext.sameBut (s : Shared) {a : Addr} {h : Heap} {tk : Nat} (hs : Heap.SameBut a s.heap h) : Ext (fun b => b = a) s { s with heap := h, toks := tk } := ⟨(mk20 _ _ rfl), fun b o n e => (hs.2 b n).trans e⟩
theorem get_size (h : Heap) : h.get? h.objs.size = none := by
  cases e : h.get? h.objs.size with
  | none => rfl
  | some o => exact absurd (Heap.lt_size e) (Nat.lt_irrefl _)
noncomputable def MA (M : Addr → Prop) (h : Heap) : Prop := ∀ a, M a → ∃ o, h.get? a = some o
theorem MA.not {M : Addr → Prop} {h : Heap} (x : MA M h) {a : Addr} (e : h.get? a = none) : ¬ M a := fun q => by
  (refine el10 (x a q) ?_; intro o e')
  rw [e] at e'; cases e'
theorem MA.size {M : Addr → Prop} {h : Heap} (x : MA M h) : ¬ M h.objs.size := x.not (get_size h)
section
variable {ap C : Addr} {M : Addr → Prop}
theorem Rl.ext {v : Value} {p : PV} {s s' : Shared} {X : Addr → Prop} (r : Rl ap C M s.heap v p) (x : Ext X s s') (hX : ∀ a, X a → M a) : Rl ap C M s'.heap v p :=
  r.mono (fun a o n e => x.keep a o (fun q => n (hX a q)) e) fun _ q => .inl q
theorem RlAll.ext {vs : List Value} {l : List PV} {s s' : Shared} {X : Addr → Prop} (r : RlAll ap C M s.heap vs l) (x : Ext X s s') (hX : ∀ a, X a → M a) : RlAll ap C M s'.heap vs l :=
  r.mono (fun a o n e => x.keep a o (fun q => n (hX a q)) e) fun _ q => .inl q
theorem Rl.ext0 {v : Value} {p : PV} {s s' : Shared} (r : Rl ap C M s.heap v p) (x : Ext0 s s') : Rl ap C M s'.heap v p := r.ext x fun _ q => q.elim
theorem RlAll.ext0 {vs : List Value} {l : List PV} {s s' : Shared} (r : RlAll ap C M s.heap vs l) (x : Ext0 s s') : RlAll ap C M s'.heap vs l := r.ext x fun _ q => q.elim
noncomputable def Res (ap C : Addr) (M : Addr → Prop) (s : Shared) (p : PV) (v : Value) (s' : Shared) : Prop := Ext0 s s' ∧ Rl ap C M s'.heap v p
noncomputable def ResB (s : Shared) (b : Bool) (v : Value) (s' : Shared) : Prop := v = .bool b ∧ Ext0 s s'
theorem ResB.res {s : Shared} {b : Bool} {v : Value} {s' : Shared} (x : ResB s b v s') : Res ap C M s (.bool b) v s' := ⟨x.2, x.1 ▸ .bool b⟩
variable {prog : Program} {w : World} {A : Around} {s : Shared}
theorem push_tup (hM : MA M s.heap) {vs : List Value} {l : List PV} (r : RlAll ap C M s.heap vs l) (tk : Nat) :
    Res ap C M s (.tup l) (.ref s.heap.objs.size) { s with heap := s.heap.push { cls := .type "tuple", data := .seq vs.toArray }, toks := tk } :=
  ⟨Ext0.push s _ tk, .tup hM.size (mk12 _ (Heap.get?_push_size _ rfl) rfl (mk10 _ rfl)) (by simpa using r.ext0 (Ext0.push s _ tk))⟩
theorem push_list (hM : MA M s.heap) {vs : List Value} {l : List PV} (r : RlAll ap C M s.heap vs l) (tk : Nat) :
    Res ap C M s (.list l) (.ref s.heap.objs.size) { s with heap := s.heap.push { cls := .type "list", data := .seq vs.toArray }, toks := tk } :=
  ⟨Ext0.push s _ tk, .list hM.size (mk12 _ (Heap.get?_push_size _ rfl) rfl (mk10 _ rfl)) (by simpa using r.ext0 (Ext0.push s _ tk))⟩
noncomputable def opOf : Nat → Operator
  | 0 => .Add
  | 1 => .Sub
  | 2 => .Mult
  | _ => .Mod
noncomputable def cmpOf : Nat → CmpOp
  | 0 => .Eq
  | 1 => .NotEq
  | 2 => .Lt
  | 3 => .Gt
  | 4 => .In
  | _ => .NotIn
theorem small_lt {l : List PV} (h : small l = true) : l.length < 65536 := of_decide_eq_true h
theorem ii_el {f : Int → Int → Option PV} {r : PV} {p q : PV} {v u : Value} {h : Heap} (e : (p.onI none fun a => q.onI none fun b => f a b) = some r) (hp : Rl ap C M h v p) (hq : Rl ap C M h u q) {motive : Value → Value → Prop} (k : ∀ a b t t', f a b = some r → motive (.int a t) (.int b t')) : motive v u := by
  revert hp hq
  refine PV.onI_el e (fun e => ns_ e) fun a e hp => ?_
  refine PV.onI_el e (fun e => ns_ e) fun b e hq => ?_
  exact hp.int_el fun t => hq.int_el fun t' => k a b t t' e
theorem op_cat {l m : List PV} {a b : Addr} {vs us : Array Value} (hM : MA M s.heap) (hs : (small l && small m) = true) (na : ¬ M a) (ha : s.heap.IsTuple a vs) (hl : RlAll ap C M s.heap vs.toList l) (nb : ¬ M b) (hb : s.heap.IsTuple b us) (hr : RlAll ap C M s.heap us.toList m) :
    wpAny (model prog w) A (binaryOp .Add (.ref a) (.ref b)) (Res ap C M s (.tup (l ++ m))) NoE s := by
  rw [Bool.and_eq_true] at hs
  have h1 := small_lt hs.1
  have h2 := small_lt hs.2
  (refine el12 (id ha) ?_; intro zp0 ho hc zr1; refine el10 zr1 ?_; clear zr1; intro n hd; obtain ⟨cls, dd, data, sl⟩ := zp0)
  (refine el12 (id hb) ?_; intro zp0 ho2 hc2 zr1; refine el10 zr1 ?_; clear zr1; intro n2 hd2; obtain ⟨cls2, dd2, data2, sl2⟩ := zp0)
  simp only at hc hd hc2 hd2
  subst hc hd hc2 hd2
  have lv := hl.length
  have lu := hr.length
  have sv : vs.size = l.length := by rw [← lv, Array.length_toList]
  have su : us.size = m.length := by rw [← lu, Array.length_toList]
  by_cases hv : vs.isEmpty = true
  · refine concat_meets (mk11 _ ho rfl) (mk11 _ ho2 rfl) noFill_tuple_add seq_tuple_add PySem.F.slot_tuple_add PySem.F.entry_tuple_add (PySem.F.args_tuple_add_2 _ _)
      (tuple_addW0 a b vs us n n2 dd dd2 sl sl2 hv) (mk03 ho ho2 (Ext.refl ..) ?_)
    have : l = [] := by
      have : vs.size = 0 := by simpa using hv
      exact List.length_eq_zero_iff.mp (by lia)
    subst this
    exact .tup nb hb hr
  · by_cases hw : us.isEmpty = true
    · refine concat_meets (mk11 _ ho rfl) (mk11 _ ho2 rfl) noFill_tuple_add seq_tuple_add PySem.F.slot_tuple_add PySem.F.entry_tuple_add (PySem.F.args_tuple_add_2 _ _)
        (tuple_addW1 a b vs us n n2 dd dd2 sl sl2 hv hw) (mk03 ho ho2 (Ext.refl ..) ?_)
      have : m = [] := by
        have : us.size = 0 := by simpa using hw
        exact List.length_eq_zero_iff.mp (by lia)
      subst this
      rw [List.append_nil]
      exact .tup na ha hl
    · refine concat_meets (mk11 _ ho rfl) (mk11 _ ho2 rfl) noFill_tuple_add seq_tuple_add PySem.F.slot_tuple_add PySem.F.entry_tuple_add (PySem.F.args_tuple_add_2 _ _)
        (tuple_addW2 a b vs us n n2 dd dd2 sl sl2 hv hw (by rw [sizeLine_eq]; lia)) ⟨ho, ho2, ?_⟩
      have e : vs ++ us = (vs.toList ++ us.toList).toArray := by simp
      rw [e]
      exact push_tup (C := C) hM (hl.append hr) s.toks
theorem op_bin {op : Nat} {p q r : PV} {v u : Value} (hM : MA M s.heap) (e : opBin op p q = some r) (hp : Rl ap C M s.heap v p) (hq : Rl ap C M s.heap u q) :
    wpAny (model prog w) A (binaryOp (opOf op) v u) (Res ap C M s r) NoE s := by
  rcases op with _ | _ | _ | _ | op
  · revert hp hq
    refine PV.onI_el e (fun e => ?_) fun a e hp => ?_
    · refine PV.onT_el e (fun e => ns_ e) fun l e hp => ?_
      refine PV.onT_el e (fun e => ns_ e) fun m e hq => ?_
      exact if_el e fun hs e => so_el e (hp.tup_el fun a vs na ha hl => hq.tup_el fun b us nb hb hr => op_cat hM hs na ha hl nb hb hr)
    · refine PV.onI_el e (fun e => ns_ e) fun b e hq => ?_
      exact so_el e (hp.int_el fun t => hq.int_el fun t' => PySem.P.add_int ⟨Ext0.tok .., .int _ _⟩)
  · exact ii_el e hp hq (motive := fun v u => wpAny (model prog w) A (binaryOp .Sub v u) (Res ap C M s r) NoE s) fun a b t t' e => so_el e (PySem.P.sub_int ⟨Ext0.tok .., .int _ _⟩)
  · exact ii_el e hp hq (motive := fun v u => wpAny (model prog w) A (binaryOp .Mult v u) (Res ap C M s r) NoE s) fun a b t t' e => if_el e fun hb e => so_el e (PySem.P.mul_int ⟨Ext0.tok .., .int _ _⟩ (.of_right (intBits_le_64 (by omega) (by omega))))
  · refine ii_el e hp hq (motive := fun v u => wpAny (model prog w) A (binaryOp .Mod v u) (Res ap C M s r) NoE s) fun a b t t' e => ?_
    by_cases hb : b = 0
    · rw [if_pos hb] at e; exact ns_ e
    · rw [if_neg hb] at e; exact so_el e (mod_int hb ⟨Ext0.tok .., .int _ _⟩)
  · exact ns_ e
end
end Mine
end
section
open PySem PySem.W PyProof.Rows
set_option Elab.async false
set_option maxRecDepth 100000
namespace Mine
inductive DX : List (DK × Addr × Value) → List (DK × Int) → Prop
  | nil : DX [] []
  | cons {k : DK} {b : Addr} {j : Int} {t : Tok} {xs : List (DK × Addr × Value)} {d : List (DK × Int)} : DX xs d → DX ((k, b, .int j t) :: xs) ((k, j) :: d)
theorem DX.keys {xs : List (DK × Addr × Value)} {d : List (DK × Int)} (x : DX xs d) : xs.map (·.1) = d.map (·.1) := by
  induction x with
  | nil => rfl
  | cons r ih => rw [List.map_cons, List.map_cons, ih]
theorem DX.length {xs : List (DK × Addr × Value)} {d : List (DK × Int)} (x : DX xs d) : xs.length = d.length := by
  induction x with
  | nil => rfl
  | cons r ih => rw [List.length_cons, List.length_cons, ih]
theorem DX.append {xs : List (DK × Addr × Value)} {d : List (DK × Int)} (x : DX xs d) {ys : List (DK × Addr × Value)} {e : List (DK × Int)} (y : DX ys e) : DX (xs ++ ys) (d ++ e) := by
  induction x with
  | nil => exact y
  | cons r ih => exact .cons ih
theorem DX.find {xs : List (DK × Addr × Value)} {d : List (DK × Int)} (x : DX xs d) (k : DK) : (atKey xs k = none ∧ dget d k = none) ∨ ∃ b j t, atKey xs k = some (b, .int j t) ∧ dget d k = some j := by
  induction x with
  | nil => exact .inl ⟨rfl, rfl⟩
  | @cons k' b j t xs d r ih =>
    by_cases h : k' = k
    · subst h
      exact .inr (mk31 b j t (by simp [atKey]) (by simp [dget]))
    · simpa [atKey, dget, List.find?_cons, h] using ih
theorem DX.put {xs : List (DK × Addr × Value)} {d : List (DK × Int)} (x : DX xs d) (k : DK) (j : Int) (t : Tok) : DX (xs.map (putAt k (.int j t))) (d.map fun x => if x.1 = k then (x.1, j) else x) := by
  induction x with
  | nil => exact .nil
  | @cons k' b j' t' xs d r ih =>
    have := ih
    by_cases h : k' = k
    · simpa [putAt, h] using DX.cons (b := b) this
    · simpa [putAt, h] using DX.cons (b := b) (t := t') (j := j') (k := k') this
theorem DX.stored {xs : List (DK × Addr × Value)} {d : List (DK × Int)} (x : DX xs d) (k : DK) (a : Addr) (j : Int) (t : Tok) : DX (storedH xs k a (.int j t)) (dput d k j) := by
  unfold storedH dput
  rcases x.find k with ⟨e1, e2⟩ | ⟨b, j', t', e1, e2⟩
  · rw [e1, e2]
    simp only [Option.isSome_none, Bool.false_eq_true, if_false]
    exact x.append (.cons .nil)
  · rw [e1, e2]
    simp only [Option.isSome_some, if_true]
    exact x.put k j t
section
variable {ap C : Addr} {M : Addr → Prop} {prog : Program} {w : World}
noncomputable def DictAt (prog : Program) (w : World) (ap C : Addr) (M : Addr → Prop) (h : Heap) (a : Addr) (d : List (DK × Int)) : Prop :=
  ∃ xs, h.DictOfH (dkKind prog w) a xs ∧ DX xs d ∧ ∀ x ∈ xs, Rl ap C M h (.ref x.2.1) (encK x.1)
theorem ints_of {h : Heap} : ∀ (n : List Int) (vs : List Value), RlAll ap C M h vs (n.map .int) → ItemsAre (intKind prog w) n vs
  | [], vs, r => r.nil_inv ▸ .nil
  | i :: n, vs, r => RlAll.cons_el (motive := fun vs => ItemsAre (intKind prog w) (i :: n) vs) (l := n.map .int) r fun v vs y r => Rl.int_el (motive := fun v => ItemsAre (intKind prog w) (i :: n) (v :: vs)) y fun t => .cons (by simp [intKind, Value.isInt]) (ints_of n _ r)
theorem RlAll.four {h : Heap} {vs : List Value} {p q r t : PV} (x : RlAll ap C M h vs [p, q, r, t]) : ∃ a b c d, vs = [a, b, c, d] ∧ Rl ap C M h a p ∧ Rl ap C M h b q ∧ Rl ap C M h c r ∧ Rl ap C M h d t := by
  exact x.cons_el fun a _ x1 x => x.cons_el fun b _ x2 x => x.cons_el fun c _ x3 x => x.cons_el fun d _ x4 x => by rw [x.nil_inv]; exact (mk44 _ _ _ _ rfl x1 x2 x3 x4)
theorem isDK_of {h : Heap} {b : Addr} {k : DK} (r : Rl ap C M h (.ref b) (encK k)) : isDK prog w h k b := by
  obtain ⟨a, o, n, hd⟩ := k
  refine el23 (Rl.inv r) fun b' vs e _ ho hl => ?_
  cases e
  refine el12 ho fun ob e c z => z.elim fun m dd => ?_
  refine el44 hl.four fun v1 v2 v3 v4 hv x1 x2 x3 x4 => ?_
  refine x1.inv.elim fun t1 e1 => x2.inv.elim fun t2 e2 => x4.inv.elim fun t4 e4 => ?_
  refine el23 x3.inv fun b3 vs3 e3 _ ho' hl' => ?_
  rw [e1, e2, e3, e4] at hv
  refine el12 ho' fun ob' e' c' z => z.elim fun m' dd' => ?_
  exact (mk40 ob _ m _ (mk34 _ _ _ e c dd hv (mk33 ob' _ m' e' c' dd' (ints_of n _ hl'))))
theorem entry_dk (k : DK) (b : Addr) (v : Value) : entryOfKey (dkKind prog w) (k, b, v) = ⟨hashK k, .ref b, v⟩ := rfl
theorem ref_of_key {h : Heap} {v : Value} {k : DK} (r : Rl ap C M h v (encK k)) : ∃ b, v = .ref b := by
  exact Rl.tup_el r fun a _ _ _ _ => ⟨a, rfl⟩
theorem dict_rows {h : Heap} : ∀ (es : List DictEntry) (d : List (DK × Int)), es.map (·.hash) = d.map (fun x => hashK x.1) → RlAll ap C M h (es.map (·.key)) (d.map fun x => encK x.1) → RlAll ap C M h (es.map (·.val)) (d.map fun x => .int x.2) →
    ∃ xs, es = xs.map (entryOfKey (dkKind prog w)) ∧ DX xs d ∧ ∀ x ∈ xs, Rl ap C M h (.ref x.2.1) (encK x.1) := by
  intro es d
  induction d generalizing es with
  | nil =>
    intro h1 _ _
    cases es with
    | nil => exact mk12 [] rfl .nil (fun x hx => nomatch hx)
    | cons => exact nomatch h1
  | cons y d ih =>
    intro h1 h2 h3
    cases es with
    | nil => exact nomatch h1
    | cons e es =>
      have h2 := RlAll.hd (l := d.map fun x => encK x.1) h2
      have h3 := RlAll.hd (l := d.map fun x => .int x.2) h3
      injection h1 with h1 h1'
      refine el12 (ih es h1' h2.2 h3.2) fun xs e1 e2 e3 => ?_
      refine h3.1.inv.elim fun t et => (ref_of_key h2.1).elim fun b eb => ?_
      refine (mk12 ((y.1, b, .int y.2 t) :: xs) ?_ (.cons e2) ?_)
      · rw [List.map_cons, entry_dk, ← e1, ← et, ← eb]
        exact congrArg (· :: es) (show e = ⟨hashK y.1, e.key, e.val⟩ by rw [← show e.hash = hashK y.1 from h1])
      · intro z hz
        rcases List.mem_cons.mp hz with rfl | hz
        · exact eb ▸ h2.1
        · exact e3 z hz
theorem Rl.dictAt {h : Heap} {a : Addr} {d : List (DK × Int)} (r : Rl ap C M h (.ref a) (.dict d)) : DictAt prog w ap C M h a d := by
  refine el40 r.inv fun a' o es n z => el04 z fun e ha hm ho zz => el04 zz fun hx hd hh hk zv => ?_
  cases e
  obtain ⟨es⟩ := es
  (refine el12 (dict_rows (prog := prog) (w := w) es d hh hk zv.1) ?_; intro xs e1 e2 e3)
  refine (mk12 xs (mk34 o _ n ho hx hd e1 (mk01 (fun x hx => isDK_of (e3 x hx)) ?_)) e2 e3)
  rw [e2.keys]; exact zv.2
theorem DictAt.rl {h : Heap} {a : Addr} {d : List (DK × Int)} (ha : ¬ M a) (hm : (a == sysModules) = false) (r : DictAt prog w ap C M h a d) : Rl ap C M h (.ref a) (.dict d) := by
  (refine el12 r ?_; try clear r; intro xs zp0 hD hR; refine el34 zp0 ?_; clear zp0; intro o es n ho hx hd he zr1; refine el01 zr1 ?_; clear zr1; intro hI hn)
  refine .dict ha hm ho hx hd ?_ ?_ ?_ (by rw [← hD.keys]; exact hn)
  · rw [he, List.map_map]
    clear he hn hR hI
    induction hD with
    | nil => rfl
    | cons _ ih => rw [List.map_cons, List.map_cons, ih]; rfl
  · rw [he, List.map_map]
    clear he hn hI
    induction hD with
    | nil => exact .nil
    | cons _ ih => exact .cons (hR _ (.head _)) (ih fun x hx => hR x (.tail _ hx))
  · rw [he, List.map_map]
    clear he hn hR hI
    induction hD with
    | nil => exact .nil
    | cons _ ih => exact .cons (.int _ _) ih
theorem decInts_some : ∀ {l : List PV} {n : List Int}, decInts l = some n → l = n.map .int
  | [], n, e => by cases e; rfl
  | p :: l, n, e => PV.onI_el e (fun e => ns_ e) fun i e => el11 (Option.map_eq_some_iff.mp e) fun m e1 e2 => by rw [← e2, List.map_cons, decInts_some e1]
theorem decK_some {p : PV} {k : DK} (e : decK p = some k) : p = encK k :=
  PV.onT_el e (fun e => ns_ e) fun l e => on4_el e fun a o n h e => PV.onI_el e (fun e => ns_ e) fun a e => PV.onI_el e (fun e => ns_ e) fun o e => PV.onT_el e (fun e => ns_ e) fun n e => PV.onI_el e (fun e => ns_ e) fun h e =>
    el11 (Option.map_eq_some_iff.mp e) fun m e1 e2 => by rw [← e2, decInts_some e1]; rfl
theorem Rl.key {h : Heap} {v : Value} {p : PV} {k : DK} (r : Rl ap C M h v p) (e : decK p = some k) : ∃ b, v = .ref b ∧ isDK prog w h k b ∧ Rl ap C M h (.ref b) (encK k) := by
  have r := decK_some e ▸ r
  exact (ref_of_key r).elim fun b e => (mk12 b e (isDK_of (e ▸ r)) (e ▸ r))
variable {A : Around} {s : Shared}
theorem shaped_of {p : PV} (h : p.safe 6 = true) : SeqAt.shaped (toD p) = true := by
  have l := lay_of p 6 h
  unfold SeqAt.shaped
  rw [l.1, Bool.true_and]
  exact decide_eq_true (Nat.le_trans l.2 (by decide))
theorem eq_any {x : PV} (hx : x.safe 4 = true) : ∀ {l : List PV}, safeL l 4 = true → ((toDs l).any fun y => PyData.eqv y (toD x)) = l.any fun y => y.eq x
  | [], _ => rfl
  | p :: l, h => by
    replace h := (Bool.and_eq_true _ _).mp (show (p.safe 4 && safeL l 4) = true from h)
    show ((toD p :: toDs l).any _) = _
    rw [ List.any_cons, List.any_cons, eqv_of p x 4 4 h.1 hx, eq_any hx h.2]
theorem op_cmp {op : Nat} {p q : PV} {b : Bool} {v u : Value} (e : opCmp op p q = some b) (hp : Rl ap C M s.heap v p) (hq : Rl ap C M s.heap u q) (hu : A.units + 100 < cLine) : wpAny (model prog w) A (compareOp (cmpOf op) v u) (ResB s b) NoE s := by
  have inn : ∀ {x : PV} {l : List PV} {x' : Value}, x.safe 4 = true → safeL l 4 = true → Rl ap C M s.heap x' x → ∀ {c : Value}, (Rl ap C M s.heap c (.tup l) → wpAny (model prog w) A (compareOp .In x' c) (ResB s (l.any fun y => y.eq x)) NoE s ∧ wpAny (model prog w) A (compareOp .NotIn x' c) (ResB s (!l.any fun y => y.eq x)) NoE s) ∧
      (Rl ap C M s.heap c (.list l) → wpAny (model prog w) A (compareOp .In x' c) (ResB s (l.any fun y => y.eq x)) NoE s ∧ wpAny (model prog w) A (compareOp .NotIn x' c) (ResB s (!l.any fun y => y.eq x)) NoE s) := by
    intro x l x' hx hl rx c
    (refine el10 (Rl.reads 4 rx hx) ?_; intro bs dx)
    have l1 := lay_of x 4 hx
    have l2 := lay_ofs l 4 hl
    have room : A.units + 1 + min (PyData.depthAll (toDs l)) (toD x).depth < cLine := by
      have := Nat.min_le_right (PyData.depthAll (toDs l)) (toD x).depth
      lia
    refine ⟨fun r => ?_, fun r => ?_⟩
    · (refine el10 (Rl.reads (p := .tup l) 5 r hl) ?_; intro as dc)
      exact ⟨SeqAt.in_tuple_reads dc dx l2.1 l1.1 room (by rw [eq_any hx hl]; exact ⟨rfl, Ext.refl ..⟩), SeqAt.notIn_tuple_reads dc dx l2.1 l1.1 room (by rw [eq_any hx hl]; exact ⟨rfl, Ext.refl ..⟩)⟩
    · (refine el10 (Rl.reads (p := .list l) 5 r hl) ?_; intro as dc)
      exact ⟨SeqAt.in_list_reads dc dx l2.1 l1.1 room (by rw [eq_any hx hl]; exact ⟨rfl, Ext.refl ..⟩), SeqAt.notIn_list_reads dc dx l2.1 l1.1 room (by rw [eq_any hx hl]; exact ⟨rfl, Ext.refl ..⟩)⟩
  have inD : ∀ {d : List (DK × Int)} {b : Bool}, ((decK p).map fun k => (dget d k).isSome) = some b → Rl ap C M s.heap u (.dict d) → wpAny (model prog w) A (compareOp .In v u) (ResB s b) NoE s := fun {d b} e hq => by
    (refine el11 (Option.map_eq_some_iff.mp e) ?_; intro k e1 e2)
    (refine el12 (hp.key (prog := prog) (w := w) e1) ?_; intro b' zq0 hk _)
    rw [zq0]
    refine Rl.dict_el (motive := fun u => Rl ap C M s.heap u (.dict d) → wpAny (model prog w) A (compareOp .In (.ref b') u) (ResB s b) NoE s) hq (fun a ha hm hq => ?_) hq
    (refine el12 (hq.dictAt (prog := prog) (w := w)) ?_; intro xs hD hX _)
    refine wpAny_in_heap (knd := dkKind prog w) (by show A.units + 1 + 8 < cLine; lia) hk hm hD ?_
    refine ⟨?_, Ext0.tok ..⟩
    rcases hX.find k with ⟨f1, f2⟩ | ⟨_, _, _, f1, f2⟩
    · rw [f1, ← e2, f2]; rfl
    · rw [f1, ← e2, f2]; rfl
  rcases op with _ | _ | _ | _ | _ | _ | op
  · refine if_el e fun hs e => so_el e ?_
    (refine el10 (Rl.reads 6 hp (Bool.and_eq_true_iff.mp hs).1) ?_; intro as ra)
    (refine el10 (Rl.reads 6 hq (Bool.and_eq_true_iff.mp hs).2) ?_; intro bs rb)
    refine eq_dataH ra rb (shaped_of (Bool.and_eq_true_iff.mp hs).1) (shaped_of (Bool.and_eq_true_iff.mp hs).2) (by lia) ?_
    rw [eqv_of _ _ 6 6 (Bool.and_eq_true_iff.mp hs).1 (Bool.and_eq_true_iff.mp hs).2]
    exact ⟨rfl, Ext.refl ..⟩
  · refine if_el e fun hs e => so_el e ?_
    (refine el10 (Rl.reads 6 hp (Bool.and_eq_true_iff.mp hs).1) ?_; intro as ra)
    (refine el10 (Rl.reads 6 hq (Bool.and_eq_true_iff.mp hs).2) ?_; intro bs rb)
    refine ne_dataH ra rb (shaped_of (Bool.and_eq_true_iff.mp hs).1) (shaped_of (Bool.and_eq_true_iff.mp hs).2) (by lia) ?_
    rw [eqv_of _ _ 6 6 (Bool.and_eq_true_iff.mp hs).1 (Bool.and_eq_true_iff.mp hs).2]
    exact ⟨rfl, Ext.refl ..⟩
  · revert hp hq inn inD
    refine PV.onI_el e (fun e => ns_ e) fun a e hp => ?_
    refine PV.onI_el e (fun e => ns_ e) fun c e hq _ _ => ?_
    exact so_el e (hp.int_el fun t => hq.int_el fun t' => PySem.P.lt_int ⟨rfl, Ext.refl ..⟩)
  · revert hp hq inn inD
    refine PV.onI_el e (fun e => ns_ e) fun a e hp => ?_
    refine PV.onI_el e (fun e => ns_ e) fun c e hq _ _ => ?_
    exact so_el e (hp.int_el fun t => hq.int_el fun t' => PySem.P.gt_int ⟨rfl, Ext.refl ..⟩)
  · revert hq inD
    refine PV.onT_el e (fun e => ?_) fun l e hq _ => ?_
    · refine PV.onL_el e (fun e => ?_) fun l e hq _ => ?_
      · refine PV.onD_el e (fun e => ns_ e) fun d e hq inD => inD e hq
      · exact if_el e fun hs e => so_el e ((inn (Bool.and_eq_true_iff.mp hs).1 (Bool.and_eq_true_iff.mp hs).2 hp).2 hq).1
    · exact if_el e fun hs e => so_el e ((inn (Bool.and_eq_true_iff.mp hs).1 (Bool.and_eq_true_iff.mp hs).2 hp).1 hq).1
  · refine nif_el e fun hd e => ?_
    refine el11 (Option.map_eq_some_iff.mp e) fun b' e1 zq => ?_
    subst zq
    clear e
    have e := e1
    clear e1
    revert hq hd inD
    refine PV.onT_el e (fun e => ?_) fun l e hq _ _ => ?_
    · refine PV.onL_el e (fun e => ?_) fun l e hq _ _ => ?_
      · exact PV.onD_el e (fun e => ns_ e) fun d e hq _ hd => absurd rfl hd
      · exact if_el e fun hs e => so_el e ((inn (Bool.and_eq_true_iff.mp hs).1 (Bool.and_eq_true_iff.mp hs).2 hp).2 hq).2
    · exact if_el e fun hs e => so_el e ((inn (Bool.and_eq_true_iff.mp hs).1 (Bool.and_eq_true_iff.mp hs).2 hp).1 hq).2
  · exact ns_ e
end
end Mine
end
section
open PySem PySem.W PyProof.Rows
set_option Elab.async false
set_option maxRecDepth 100000
namespace Mine
section
variable {ap C : Addr} {M : Addr → Prop} {prog : Program} {w : World} {A : Around} {s : Shared}
theorem tup_of {h : Heap} {v : Value} {l : List PV} (r : Rl ap C M h v (.tup l)) : ∃ a vs, v = .ref a ∧ ¬ M a ∧ h.IsTuple a vs ∧ RlAll ap C M h vs.toList l ∧ vs.size = l.length :=
  el23 r.inv fun a vs e ha ho hl => mk24 a vs e ha ho hl (by have := hl.length; rwa [Array.length_toList] at this)
theorem list_of {h : Heap} {v : Value} {l : List PV} (r : Rl ap C M h v (.list l)) : ∃ a vs, v = .ref a ∧ ¬ M a ∧ h.IsList a vs ∧ RlAll ap C M h vs.toList l ∧ vs.size = l.length :=
  el23 r.inv fun a vs e ha ho hl => mk24 a vs e ha ho hl (by have := hl.length; rwa [Array.length_toList] at this)
theorem at_of {h : Heap} {vs : Array Value} {l : List PV} (r : RlAll ap C M h vs.toList l) {i : Nat} {p : PV} (e : l[i]? = some p) : ∃ v, vs[i]? = some v ∧ Rl ap C M h v p := by
  (refine el11 (r.get e) ?_; intro v e1 e2)
  exact (mk11 v (by rw [← Array.getElem?_toList]; exact e1) e2)
theorem op_len {p r : PV} {v : Value} (e : opLen p = some r) (hp : Rl ap C M s.heap v p) : wpAny (model prog w) A (call (.builtin "len") [v]) (Res ap C M s r) NoE s := by
  revert hp
  refine PV.onT_el e (fun e => ?_) fun l e hp => ?_
  · refine PV.onL_el e (fun e => ns_ e) fun l e hp => ?_
    refine if_el e fun hs e => so_el e ?_
    have := small_lt hs
    (refine el24 (list_of hp) ?_; intro a vs zq0 _ ho hl hz; subst zq0)
    refine Calls.call_len_list ho (by lia) ⟨Ext0.tok .., ?_⟩
    rw [hz]; exact .int _ _
  · refine if_el e fun hs e => so_el e ?_
    have := small_lt hs
    (refine el24 (tup_of hp) ?_; intro a vs zq0 _ ho hl hz; subst zq0)
    refine len_tuple ho (by lia) ⟨Ext0.tok .., ?_⟩
    rw [hz]; exact .int _ _
theorem op_int {p r : PV} {v : Value} (e : opInt p = some r) (hp : Rl ap C M s.heap v p) : wpAny (model prog w) A (call (.type "int") [v]) (Res ap C M s r) NoE s := by
  revert hp
  refine PV.onI_el e (fun e => ns_ e) fun i e hp => so_el e (hp.int_el fun t => ?_)
  exact call_int_int ⟨Ext.refl .., .int _ _⟩
theorem op_abs {p r : PV} {v : Value} (e : opAbs p = some r) (hp : Rl ap C M s.heap v p) : wpAny (model prog w) A (call (.builtin "abs") [v]) (Res ap C M s r) NoE s := by
  revert hp
  refine PV.onI_el e (fun e => ns_ e) fun i e hp => so_el e (hp.int_el fun t => ?_)
  refine call_abs_int fun u tk => ⟨Ext0.tok .., ?_⟩
  have : (if i < 0 then -i else i) = (i.natAbs : Int) := by split <;> lia
  rw [this]; exact .int _ _
theorem op_tuple {p r : PV} {v : Value} (hM : MA M s.heap) (e : opTuple p = some r) (hp : Rl ap C M s.heap v p) : wpAny (model prog w) A (call (.type "tuple") [v]) (Res ap C M s r) NoE s := by
  revert hp
  refine PV.onL_el e (fun e => ns_ e) fun l e hp => if_el e fun hs e => so_el e ?_
  have := small_lt hs
  (refine el24 (list_of hp) ?_; intro a vs zq0 _ ho hl hz; subst zq0)
  refine call_tuple_list ho (fun h' hk => ?_) (by rw [sizeLine_eq]; lia)
  have x : Ext0 s { s with heap := h' } := Ext0.of s (tk := s.toks) hk
  have hM' : MA M h' := fun a q => (hM a q).elim fun o e => ⟨o, hk _ _ e⟩
  have := push_tup (s := { s with heap := h' }) (ap := ap) (C := C) hM' (hl.ext0 x) s.toks
  rw [Array.toArray_toList] at this
  exact ⟨x.tr this.1, this.2⟩
theorem isNone_val {p : PV} {v : Value} (hp : Rl ap C M s.heap v p) : plainIs v .none = true ∧ (v == .none) = p.isNone := by
  cases hp <;> exact ⟨rfl, rfl⟩
theorem op_is {p : PV} {v : Value} (hp : Rl ap C M s.heap v p) : wpAny (model prog w) A (compareOp .Is v .none) (ResB s p.isNone) NoE s := by
  (refine el01 (isNone_val hp) ?_; intro h1 h2)
  exact wpAny_is_plain h1 ⟨by rw [h2], Ext.refl ..⟩
theorem op_isNot {p : PV} {v : Value} (hp : Rl ap C M s.heap v p) : wpAny (model prog w) A (compareOp .IsNot v .none) (ResB s !p.isNone) NoE s := by
  (refine el01 (isNone_val hp) ?_; intro h1 h2)
  exact wpAny_isNot_plain h1 ⟨by rw [h2], Ext.refl ..⟩
noncomputable def RegOK (ap C : Addr) (B : Addr → Option Obj) (h : Heap) : Reg → Prop
  | none => True
  | some l => ∃ vs, h.IsList ap vs ∧ RlAll ap C (fun a => B a = none) h vs.toList l
noncomputable def noSlice (e : PySem.Expr) : Bool := !Nat.beq e.ctorIdx 26
theorem noSlice_sub {sl : PySem.Expr} (h : noSlice sl = true) (o i : Value) : subscripted sl false o i = operate [o, i] (getItem o i) := by
  cases sl <;> first | rfl | exact ff_ h
theorem one_str : ∀ k, k < stN → one k = true → ∃ c, (st k).cps = #[c] := by
  have : ∀ k, k < stN → one k = true → (st k).cps.size = 1 := by decide +kernel
  intro k h1 h2
  have q := this k h1 h2
  generalize (st k).cps = l at q ⊢
  obtain ⟨l⟩ := l
  match l, q with
  | [c], _ => exact ⟨c, rfl⟩
theorem str_one {k : Nat} {c : Nat} (h : (st k).cps = #[c]) : (⟨#[c]⟩ : Str) = st k := by rw [← h]
theorem list_at {l : List PV} {i : Int} {r : PV} {a : Addr} {vs : Array Value} {t : Tok} {value sl : PySem.Expr} (hs : ∀ o i : Value, subscripted sl false o i = operate [o, i] (getItem o i)) (hc : 0 ≤ i ∧ small l = true) (e : l[i.toNat]? = some r) (ho : s.heap.IsList a vs) (hl : RlAll ap C M s.heap vs.toList l) (hz : vs.size = l.length) :
    wpAny (model prog w) A (subscriptTail value sl (.ref a) (.int i t)) (Res ap C M s r) NoE s := by
  have hz0 := small_lt hc.2
  (refine el11 (at_of hl e) ?_; intro x e1 e2)
  have hlt : i.toNat < vs.size := (Array.getElem?_eq_some_iff.mp e1).1
  exact tail_any ho.typeIs slot_list_getitem.lookup (wpAny_getItem_list ho hc.1 (by lia) e1 ⟨Ext.refl .., e2⟩) (hs _ _)
theorem op_sub {P : Reg} {p q r : PV} {o i : Value} {value sl : PySem.Expr} (hsl : noSlice sl = true) (e : opSub P p q = some r) (hp : Rl ap C M s.heap o p) (hq : Rl ap C M s.heap i q) {B : Addr → Option Obj} (hB : ∀ a, M a → B a = none) (hP : RegOK ap C B s.heap P)
    (hu : A.units + 100 < cLine) : wpAny (model prog w) A (subscriptTail value sl o i) (Res ap C M s r) NoE s := by
  have hs := noSlice_sub hsl
  revert hp
  refine PV.onT_el e (fun e => ?_) fun l e hp => ?_
  · refine PV.onL_el e (fun e => ?_) fun l e hp => ?_
    · refine PV.onD_el e (fun e => ?_) fun d e hp => ?_
      · refine PV.onS_el e (fun e hp => ?_) fun k e hp => ?_
        · refine if_el e fun hpool e => ?_
          revert hq
          refine PV.onI_el e (fun e => ns_ e) fun i' e hq => hq.int_el fun t => ?_
          revert hP
          refine ob_el e fun l e hP => if_el e fun hc e => ?_
          (refine el11 hP ?_; intro vs ho hl)
          have hl : RlAll ap C M s.heap vs.toList l := hl.mono (fun _ _ _ e => e) fun a q => .inl (hB a q)
          have hz := hl.length
          rw [Array.length_toList] at hz
          have hp := PV.pool_eq hpool ▸ hp
          have hp : o = .ref ap := hp.inv
          rw [hp]
          exact list_at hs hc e ho hl hz
        · revert hq
          refine PV.onI_el e (fun e => ns_ e) fun i' e hq => hq.int_el fun t' => if_el e fun hc e => so_el e (hp.sym_el fun t hk => ?_)
          (refine el10 (one_str k hk hc.2) ?_; intro c hc')
          have hlen : (st k).length = 1 := by unfold Str.length; rw [hc']; rfl
          rw [hc.1]
          refine tail_any (T := "str") rfl slot_str_getitem.lookup (PyProof.Rows.getItem_str (c := c) (by decide) ?_ ⟨Ext0.tok .., ?_⟩) (hs _ _)
          · rw [hlen, hc']; rfl
          · rw [str_one hc']; exact .sym _ _ hk
      · refine el11 (Option.bind_eq_some_iff.mp e) fun k hk e => ?_
        refine el11 (Option.map_eq_some_iff.mp e) fun j e1 zq => zq ▸ ?_
        refine el12 (hq.key (prog := prog) (w := w) hk) fun b zq hkey _ => ?_
        rw [zq]
        refine Rl.dict_el (motive := fun o => Rl ap C M s.heap o (.dict d) → wpAny (model prog w) A (subscriptTail value sl o (.ref b)) (Res ap C M s (.int j)) NoE s) hp (fun a ha hm hp => ?_) hp
        (refine el12 (hp.dictAt (prog := prog) (w := w)) ?_; intro xs hD hX _)
        rcases hX.find k with ⟨f1, f2⟩ | ⟨b', j', t', f1, f2⟩
        · exact ns_ (f2.symm.trans e1)
        · have : j' = j := Option.some.inj (f2.symm.trans e1)
          exact tail_any hD.typeIs slot_dict_getitem.lookup (wpAny_getItem_heap (knd := dkKind prog w) (by show A.units + 1 + 8 < cLine; lia) hkey hD f1 ⟨Ext0.tok .., this ▸ .int _ _⟩) (hs _ _)
    · revert hq
      refine PV.onI_el e (fun e => ns_ e) fun i' e hq => hq.int_el fun t => if_el e fun hc e => ?_
      (refine el24 (list_of hp) ?_; intro a vs zq0 _ ho hl hz; rw [zq0])
      exact list_at hs hc e ho hl hz
  · revert hq
    refine PV.onI_el e (fun e => ns_ e) fun i' e hq => hq.int_el fun t => if_el e fun hc e => ?_
    have hz0 := small_lt hc.2
    (refine el24 (tup_of hp) ?_; intro a vs zq0 _ ho hl hz; rw [zq0])
    (refine el11 (at_of hl e) ?_; intro x e1 e2)
    have hlt : i'.toNat < vs.size := (Array.getElem?_eq_some_iff.mp e1).1
    refine tail_any ho.typeIs slot_tuple_getitem.lookup (getItem_tuple ho (by lia) (by lia) ?_ e1 ⟨Ext.refl .., e2⟩) (hs _ _)
    unfold seqIndex?
    have h1 : ¬ i' < 0 := by lia
    have h2 : (0 ≤ i' ∧ i' < (vs.size : Int)) := by lia
    simp [h1, h2]
end
end Mine
end
section
open PySem PySem.W PyProof.Rows
set_option Elab.async false
set_option maxRecDepth 100000
namespace Mine
section
variable {prog : Program} {w : World} {A : Around} {s : Shared} {E : Value → Shared → Prop}
theorem setItem_plain {l : Addr} {items : Array Value} {k : Int} {t : Tok} {v : Value} {Q : Unit → Shared → Prop} (hp : s.heap.PlainList l items)
    (h0 : 0 ≤ k) (hfit : k < 2 ^ 63) (hn : k < items.size)
    (hQ : ∀ h', h'.PlainList l (items.setIfInBounds k.toNat v) → Heap.SameBut l s.heap h' → Q () { s with heap := h' }) :
    wpAny (model prog w) A (setItem (.ref l) (.int k t) v) Q E s := by
  (refine el10 (id hp) ?_; intro ne ho)
  have hl : s.heap.IsList l items := (mk12 _ ho rfl (mk10 _ rfl))
  have hd : ({ cls := .type "list", data := .seq items ne } : Obj).data = .seq items ne := rfl
  unfold setItem
  try with_reducible refine wpAny_holding ?_
  first | refine wpAny_bind (wpAny_pure ?_) | skip
  refine wpAny_bind (wpAny_sequenceKey hl.typeIs (by decide) ?_)
  refine wpAny_bind (wpAny_callSpecial?_slot (name := Str.ofString "__setitem__") hl.typeIs PySem.F.slot_list_setitem
    (wpAny_call_entry PySem.F.slot_list_setitem hl.typeIs PySem.F.entry_list_setitem ?_ (PySem.F.args_list_setitem_3 _ _ _)))
  show wpAny _ _ (Builtin.List.listSubscript? (.int k t) >>= _) _ _ s
  refine wpAny_bind (wpAny_listSubscript_int (fitsIndex_of h0 hfit) ?_)
  clear hfit
  (refine el10 (Int.eq_ofNat_of_zero_le h0) ?_; intro j zq0; subst zq0)
  have hj : j < items.size := by lia
  have hx' : items[j]? = some items[j] := Array.getElem?_eq_getElem hj
  show wpAny _ _ ((seqItemAt l j >>= fun r => pure (r.map (j, ·))) >>= _) _ _ s
  refine wpAny_bind (wpAny_bind (wpAny_seqItemAt ho hd (wpAny_pure ?_)))
  rw [hx']
  show wpAny _ _ (setSeqItemAt l j v >>= _) _ _ s
  have hm : ∃ n', Obj.mapSeq (·.setIfInBounds j v) { cls := .type "list", data := .seq items ne } = ({ cls := .type "list", data := .seq (items.setIfInBounds j v) n' } : Obj) := ⟨_, rfl⟩
  (refine el10 hm ?_; try clear hm; intro n' hd')
  have hfin : (s.heap.update l (Obj.mapSeq (·.setIfInBounds j v))).PlainList l (items.setIfInBounds j v) :=
    ⟨n', by rw [Heap.get?_update_self _ ho (by rw [hd']; rfl), hd']⟩
  refine wpAny_bind (wpAny_setSeqItemAt ho hd ?_)
  first
    | exact wpAny_bind (wpAny_pure (wpAny_pure (mk11 .none rfl (wpAny_pure (hQ _ hfin (Heap.SameBut.update ..))))))
    | exact wpAny_pure ⟨.none, rfl, wpAny_pure (hQ _ hfin (Heap.SameBut.update ..))⟩
end
section
variable {ap C : Addr} {M : Addr → Prop} {prog : Program} {w : World} {A : Around} {s : Shared}
noncomputable def strOf (cs : List Nat) : Str := ⟨(cs.flatMap fun c => (st c).cps.toList).toArray⟩
theorem one_lt {k : Nat} (h : one k = true) : k < stN := by
  simp only [one, Bool.or_eq_true, Bool.and_eq_true, decide_eq_true_eq] at h
  unfold stN; lia
theorem strOf_at : ∀ {cs : List Nat}, cs.all one = true → ∀ {i k : Nat}, cs[i]? = some k → ∃ c, (st k).cps = #[c] ∧ (cs.flatMap fun c => (st c).cps.toList)[i]? = some c
  | [], _, i, k, e => by simp at e
  | c :: cs, h, i, k, e => by
    rw [List.all_cons, Bool.and_eq_true] at h
    (refine el10 (one_str c (one_lt h.1) h.1) ?_; intro x hx)
    rw [List.flatMap_cons, hx]
    cases i with
    | zero =>
      simp at e; subst e
      exact (mk11 x hx rfl)
    | succ i =>
      rw [List.getElem?_cons_succ] at e
      (refine el11 (strOf_at h.2 e) ?_; intro y h1 h2)
      exact (mk11 y h1 (by simpa using h2))
theorem strOf_len : ∀ {cs : List Nat}, cs.all one = true → (cs.flatMap fun c => (st c).cps.toList).length = cs.length
  | [], _ => rfl
  | c :: cs, h => by
    rw [List.all_cons, Bool.and_eq_true] at h
    (refine el10 (one_str c (one_lt h.1) h.1) ?_; intro x hx)
    rw [List.flatMap_cons, List.length_append, strOf_len h.2, hx]
    simp; lia
theorem op_strAt {cs : List Nat} {q r : PV} {t : Tok} {i : Value} {value sl : PySem.Expr} (hsl : noSlice sl = true) (e : opStrAt cs q = some r) (hq : Rl ap C M s.heap i q) :
    wpAny (model prog w) A (subscriptTail value sl (.str (strOf cs) t) i) (Res ap C M s r) NoE s := by
  revert hq
  refine PV.onI_el e (fun e => ns_ e) fun i' e hq => hq.int_el fun t' => if_el e fun hc e => ?_
  · · (refine el11 (Option.map_eq_some_iff.mp e) ?_; intro k e1 zq0; subst zq0)
      (refine el11 (strOf_at hc.2 e1) ?_; intro c h1 h2)
      have hlt := (List.getElem?_eq_some_iff.mp h2).1
      have hk : k < stN := one_lt (List.all_eq_true.mp hc.2 k (List.mem_of_getElem? e1))
      have hb := strOf_len hc.2
      by_cases hbig : cs.length < 65536
      · refine tail_any (T := "str") rfl slot_str_getitem.lookup (PyProof.Rows.getItem_str (c := c) ?_ ?_ ⟨Ext0.tok .., ?_⟩) (noSlice_sub hsl _ _)
        · simp only [Bool.or_eq_false_iff, decide_eq_false_iff_not]
          lia
        · have hlen : (strOf cs).length = cs.length := by unfold Str.length strOf; simpa using hb
          rw [hlen]
          have h1 : ¬ i' < 0 := by lia
          have h2' : (0 ≤ i' ∧ i' < (cs.length : Int)) := by lia
          simp only [seqIndex?, h1, if_false, h2', decide_true, Bool.and_self, if_true, Option.bind_some]
          simpa [strOf] using h2
        · rw [str_one h1]; exact .sym _ _ hk
      · exact absurd hlt (by
          have : cs.length < 65536 := hc.1.2
          lia)
end
end Mine
end
section
open PySem PySem.W PyProof.Rows
set_option Elab.async false
set_option maxRecDepth 100000
namespace Mine
section
variable {prog : Program} {w : World} {A : Around} {s : Shared} {E : Value → Shared → Prop}
theorem adjust_to (b n : Nat) : Builtin.Slice.sliceAdjust none (some (b : Int)) 1 (n : Int) = (0, ((min b n : Nat) : Int)) := by
  unfold Builtin.Slice.sliceAdjust
  have h1 : ¬ ((1 : Int) < 0) := by omega
  have h2 : ¬ ((b : Int) < 0) := by omega
  simp only [h1, h2, if_false]
  congr 1
  omega
theorem places_to (m : Nat) : Builtin.Slice.slicePlaces 0 ((m : Nat) : Int) 1 = m := by
  unfold Builtin.Slice.slicePlaces
  have h1 : (1 : Int) > 0 := by omega
  simp only [h1, if_true, Int.ediv_one]
  split <;> omega
theorem sliceApplied_to {sl : Addr} {b n : Nat} {u : Tok} {Q : Int × Int × Nat → Shared → Prop} (hs : s.heap.IsSliceOf sl .none (.int b u) .none) (h : Q (0, 1, min b n) s) :
    wpAny (model prog w) A (Builtin.Slice.sliceApplied (.ref sl) (pure (n : Int))) Q E s := by
  (refine el12 (id hs) ?_; intro os hos hcs hds)
  unfold Builtin.Slice.sliceApplied Builtin.Slice.sliceFields
  refine wpAny_bind (wpAny_bind (wpAny_field hos hds (x := .none) rfl (wpAny_bind (wpAny_field hos hds (x := .int b u) rfl (wpAny_bind (wpAny_field hos hds (x := .none) rfl (wpAny_pure ?_)))))))
  refine wpAny_bind (slicePart_none ?_)
  show wpAny _ _ (if ((1 : Int) == 0) = true then _ else _) _ _ s
  rw [if_neg (by decide)]
  refine wpAny_bind (slicePart_none (wpAny_bind (slicePart_int (wpAny_bind (wpAny_pure ?_)))))
  show wpAny _ _ (match Builtin.Slice.sliceAdjust none (some (b : Int)) 1 (n : Int) with | (lo, hi) => pure (lo, (1 : Int), Builtin.Slice.slicePlaces lo hi 1)) _ _ s
  rw [adjust_to b n]
  show wpAny _ _ (pure ((0 : Int), (1 : Int), Builtin.Slice.slicePlaces (0 : Int) ((min b n : Nat) : Int) 1)) _ _ s
  rw [places_to]
  exact wpAny_pure h
theorem pick_to (xs : Array Value) (b : Nat) : ((List.range (min b xs.size)).filterMap fun (k : Nat) => xs[((0 : Int) + (k : Int) * 1).toNat]?).toArray = (xs.toList.take b).toArray := by
  have e : (fun (k : Nat) => xs[((0 : Int) + (k : Int) * 1).toNat]?) = fun k => xs[0 + k]? := by
    funext k
    have : ((0 : Int) + (k : Int) * 1).toNat = 0 + k := by lia
    rw [this]
  rw [e]
  have := pick_run xs 0 (min b xs.size)
  rw [List.filterMap_map] at this
  have e2 : ((fun x => xs[x]?) ∘ fun x => 0 + x) = fun k => xs[0 + k]? := rfl
  rw [e2] at this
  rw [this, List.drop_zero]
  congr 1
  have hl : xs.toList.length = xs.size := Array.length_toList
  rw [← hl, ← List.take_eq_take_min]
theorem getItem_tuple_to {t sl : Addr} {items : Array Value} {b : Nat} {u : Tok} {Q : Value → Shared → Prop} (ht : IsTup s.heap t items) (hs : s.heap.IsSliceOf sl .none (.int b u) .none)
    (h0 : items.size ≤ b → Q (.ref t) s)
    (h : Q (.ref s.heap.objs.size) { s with heap := s.heap.push { cls := .type "tuple", data := .seq (items.toList.take b).toArray } })
    (hsz : items.size ≤ sizeLine) : wpAny (model prog w) A (getItem (.ref t) (.ref sl)) Q E s := by
  have hdrop : sizeOk (.seq (items.toList.take b).toArray) := by
    show (items.toList.take b).toArray.size ≤ sizeLine
    rw [List.size_toArray, List.length_take, Array.length_toList]
    lia
  (refine el12 (id hs) ?_; intro os hos hcs hds)
  have hTs : s.TypeIs (.ref sl) "slice" := (mk11 os hos hcs)
  unfold getItem
  try with_reducible refine wpAny_holding ?_
  first | refine wpAny_bind (wpAny_pure ?_) | skip
  refine wpAny_bind (wpAny_sequenceKey ht.typeIs (by decide) ?_)
  refine wpAny_bind (wpAny_callSpecial?_slot (name := Str.ofString "__getitem__") ht.typeIs slot_tuple_getitem
    (wpAny_call_entry slot_tuple_getitem ht.typeIs entry_tuple_getitem ?_ (args_tuple_getitem _ _)))
  show wpAny _ _ (Builtin.Tuple.tupleItemsOf (.ref t) >>= _) _ _ s
  refine wpAny_bind (tupleItemsOf_ ht ?_)
  refine wpAny_bind (wpAny_typeOf hTs ?_)
  rw [if_pos (by decide)]
  refine wpAny_bind (sliceApplied_to (n := items.size) hs ?_)
  show wpAny _ _ (if ((0 : Int) == 0 && (1 : Int) == 1 && (min b items.size) == items.size) = true then _ else _) _ _ s
  by_cases hb : items.size ≤ b
  · have e : ((0 : Int) == 0 && (1 : Int) == 1 && (min b items.size) == items.size) = true := by
      rw [Nat.min_eq_right hb]; simp
    rw [if_pos e]
    refine wpAny_bind (m := Builtin.Tuple.tupleIsExact (.ref t)) ?_
    unfold Builtin.Tuple.tupleIsExact
    refine wpAny_bind (wpAny_typeOf ht.typeIs (wpAny_pure ?_))
    rw [if_pos (by decide)]
    exact wpAny_bind (wpAny_rule (wpAny_pure (mk11 _ rfl (wpAny_pure (h0 hb)))))
  · have e : ¬ ((0 : Int) == 0 && (1 : Int) == 1 && (min b items.size) == items.size) = true := by
      have : min b items.size ≠ items.size := by lia
      simpa using this
    rw [if_neg e, pick_to items b]
    first
      | exact wpAny_bind (m := Builtin.Tuple.tupleExact _) (wpAny_newObj_type (wpAny_pure (mk11 _ rfl (wpAny_pure h))) hdrop)
      | exact wpAny_bind (m := Builtin.Tuple.tupleExact _) (wpAny_newObj_type (wpAny_bind (wpAny_pure (wpAny_pure ⟨_, rfl, wpAny_pure h⟩))) hdrop)
      | exact wpAny_bind (wpAny_bind (m := Builtin.Tuple.tupleExact _) (wpAny_newObj_type (wpAny_pure (wpAny_pure ⟨_, rfl, wpAny_pure h⟩)) hdrop))
      | exact wpAny_bind (wpAny_bind (m := Builtin.Tuple.tupleExact _) (wpAny_newObj_type (wpAny_pure ⟨_, rfl, wpAny_pure h⟩) hdrop))
end
noncomputable def Own (prog : Program) (w : World) (ap C : Addr) (M : Addr → Prop) (h : Heap) (a : Addr) : PV → Prop
  | .list l => ∃ vs, h.PlainList a vs ∧ RlAll ap C M h vs.toList l
  | .dict d => DictAt prog w ap C M h a d
  | _ => False
section
variable {ap C : Addr} {M : Addr → Prop} {prog : Program} {w : World} {A : Around} {s : Shared}
theorem Own.rl {h : Heap} {a : Addr} {p : PV} (hp : (p.isList || p.isDict) = true) (ha : ¬ M a) (hm : (a == sysModules) = false) (o : Own prog w ap C M h a p) : Rl ap C M h (.ref a) p := by
  cases p with
  | list l => (refine el11 o ?_; try clear o; intro vs zp0 h2; refine el10 zp0 ?_; clear zp0; intro n h1); exact .list ha (mk12 _ h1 rfl (mk10 _ rfl)) h2
  | dict d => exact DictAt.rl ha hm o
  | _ => exact ff_ hp
noncomputable def Fresh (prog : Program) (w : World) (ap C : Addr) (M : Addr → Prop) (s : Shared) (p : PV) (v : Value) (s' : Shared) : Prop :=
  ∃ a, v = .ref a ∧ s.heap.get? a = none ∧ Own prog w ap C M s'.heap a p
theorem op_sliceTo {p q r : PV} {o u : Value} {value : PySem.Expr} {x : PySem.Expr} {pos : Pos} {sl : Addr} (hM : MA M s.heap) (e : opSliceTo p q = some r) (hp : Rl ap C M s.heap o p) (hq : Rl ap C M s.heap u q)
    (hs : s.heap.IsSliceOf sl .none u .none) : wpAny (model prog w) A (subscriptTail value (.Slice none (some x) none pos) o (.ref sl))
      (fun v s' => Res ap C M s r v s' ∧ (r.isList = true → Fresh prog w ap C M s r v s')) NoE s := by
  revert hp
  refine PV.onL_el e (fun e => ?_) fun l e hp => ?_
  rotate_left
  · revert hq
    refine PV.onI_el e (fun e => ns_ e) fun u' e hq => ?_
    revert hs
    refine hq.int_el fun t hs => if_el e fun hc e => so_el e ?_
    · have := small_lt hc.2.2
      (refine el24 (list_of hp) ?_; intro a vs zq0 _ ho hl hz; subst zq0)
      (refine el10 (Int.eq_ofNat_of_zero_le hc.1) ?_; intro n zq0; subst zq0)
      refine tail_any ho.typeIs slot_list_getitem.lookup (wpAny_getItem_list_slice ho hs .none (.int _ _) .none (by simp) ?_ (by rw [sizeLine_eq]; lia)) rfl
      rw [slicePick_upto']
      have r := push_list (s := s) (ap := ap) (C := C) hM (hl.take n) s.toks
      refine ⟨r, fun _ => (mk12 _ rfl (get_size _) (mk11 _ ⟨0, Heap.get?_push_size _ rfl⟩ ?_))⟩
      simpa using (hl.take n).ext0 r.1
  · refine PV.onT_el e (fun e => ns_ e) fun l e hp => ?_
    revert hq
    refine PV.onI_el e (fun e => ns_ e) fun u' e hq => ?_
    revert hs
    refine hq.int_el fun t hs => if_el e fun hc e => so_el e ?_
    · have := small_lt hc.2.2
      (refine el24 (tup_of hp) ?_; intro a vs zq0 ha ho hl hz; subst zq0)
      (refine el10 (Int.eq_ofNat_of_zero_le hc.1) ?_; intro n zq0; subst zq0)
      refine tail_any ho.typeIs slot_tuple_getitem.lookup (getItem_tuple_to ho hs (fun hb => ⟨⟨Ext.refl .., ?_⟩, fun h => ff_ h⟩) ⟨push_tup (s := s) (ap := ap) (C := C) hM (hl.take n) s.toks, fun h => ff_ h⟩ (by rw [sizeLine_eq]; lia)) rfl
      have : l.take n = l := List.take_of_length_le (by lia)
      show Rl ap C M s.heap (.ref a) (.tup (l.take n))
      rw [this]; exact .tup ha ho hl
theorem op_sliceFrom1 {p r : PV} {o : Value} {t : Tok} {value : PySem.Expr} {x : PySem.Expr} {pos : Pos} {sl : Addr} (hM : MA M s.heap) (e : opSliceFrom1 p = some r) (hp : Rl ap C M s.heap o p)
    (hs : s.heap.IsSliceOf sl (.int 1 t) .none .none) : wpAny (model prog w) A (subscriptTail value (.Slice (some x) none none pos) o (.ref sl)) (Res ap C M s r) NoE s := by
  revert hp
  refine PV.onL_el e (fun e => ns_ e) fun l e hp => if_el e fun hc e => so_el e ?_
  · · have := small_lt hc
      (refine el24 (list_of hp) ?_; intro a vs zq0 _ ho hl hz; subst zq0)
      refine tail_any ho.typeIs slot_list_getitem.lookup (wpAny_getItem_list_slice ho hs (.int _ _) .none .none (by simp) ?_ (by rw [sizeLine_eq]; lia)) rfl
      have : slicePick vs (some (1 : Int)) none none = (vs.toList.drop 1).toArray := slicePick_from' vs 1
      rw [this]
      exact push_list (s := s) (ap := ap) (C := C) hM (hl.drop 1) s.toks
end
end Mine
end
section
open PySem PySem.W PyProof.Rows
set_option Elab.async false
set_option maxRecDepth 100000
namespace Mine
theorem dt_ {c : Prop} [d : Decidable c] {t : c → Bool} (h : (dite c t fun _ => false) = true) : ∃ k, t k = true := by
  by_cases k : c
  · rw [dif_pos k] at h; exact ⟨k, h⟩
  · rw [dif_neg k] at h; exact ff_ h
noncomputable def onConst (e : PySem.Expr) (f : Const → Nat → Pos → Bool) : Bool := dite (e.ctorIdx = 19) (fun h => PySem.Expr.Constant.elim (motive_1 := fun _ => Bool) e h f) fun _ => false
@[elab_as_elim] theorem onConst_el {f : Const → Nat → Pos → Bool} {motive : PySem.Expr → Prop} {e : PySem.Expr} (h : onConst e f = true) (kk : ∀ c k p, f c k p = true → motive (.Constant c k p)) : motive e :=
  (dt_ h).elim fun j h => PySem.Expr.Constant.elim (motive_1 := fun e => ∀ j, PySem.Expr.Constant.elim (motive_1 := fun _ => Bool) e j f = true → motive e) e j (fun c k p _ h => kk c k p h) j h
noncomputable def onName (e : PySem.Expr) (f : Str → Pos → Bool) : Bool := dite (e.ctorIdx = 23) (fun h => PySem.Expr.Name.elim (motive_1 := fun _ => Bool) e h f) fun _ => false
@[elab_as_elim] theorem onName_el {f : Str → Pos → Bool} {motive : PySem.Expr → Prop} {e : PySem.Expr} (h : onName e f = true) (kk : ∀ x p, f x p = true → motive (.Name x p)) : motive e :=
  (dt_ h).elim fun j h => PySem.Expr.Name.elim (motive_1 := fun e => ∀ j, PySem.Expr.Name.elim (motive_1 := fun _ => Bool) e j f = true → motive e) e j (fun x p _ h => kk x p h) j h
noncomputable def onUn (e : PySem.Expr) (f : UnaryOp → PySem.Expr → Pos → Bool) : Bool := dite (e.ctorIdx = 3) (fun h => PySem.Expr.UnaryOp.elim (motive_1 := fun _ => Bool) e h f) fun _ => false
@[elab_as_elim] theorem onUn_el {f : UnaryOp → PySem.Expr → Pos → Bool} {motive : PySem.Expr → Prop} {e : PySem.Expr} (h : onUn e f = true) (kk : ∀ o a p, f o a p = true → motive (.UnaryOp o a p)) : motive e :=
  (dt_ h).elim fun j h => PySem.Expr.UnaryOp.elim (motive_1 := fun e => ∀ j, PySem.Expr.UnaryOp.elim (motive_1 := fun _ => Bool) e j f = true → motive e) e j (fun o a p _ h => kk o a p h) j h
noncomputable def onBin (e : PySem.Expr) (f : PySem.Expr → Operator → PySem.Expr → Pos → Bool) : Bool := dite (e.ctorIdx = 2) (fun h => PySem.Expr.BinOp.elim (motive_1 := fun _ => Bool) e h f) fun _ => false
@[elab_as_elim] theorem onBin_el {f : PySem.Expr → Operator → PySem.Expr → Pos → Bool} {motive : PySem.Expr → Prop} {e : PySem.Expr} (h : onBin e f = true) (kk : ∀ l o r p, f l o r p = true → motive (.BinOp l o r p)) : motive e :=
  (dt_ h).elim fun j h => PySem.Expr.BinOp.elim (motive_1 := fun e => ∀ j, PySem.Expr.BinOp.elim (motive_1 := fun _ => Bool) e j f = true → motive e) e j (fun l o r p _ h => kk l o r p h) j h
noncomputable def onBool (e : PySem.Expr) (f : PySem.BoolOp → (List PySem.Expr) → Pos → Bool) : Bool := dite (e.ctorIdx = 0) (fun h => PySem.Expr.BoolOp.elim (motive_1 := fun _ => Bool) e h f) fun _ => false
@[elab_as_elim] theorem onBool_el {f : PySem.BoolOp → (List PySem.Expr) → Pos → Bool} {motive : PySem.Expr → Prop} {e : PySem.Expr} (h : onBool e f = true) (kk : ∀ o l p, f o l p = true → motive (.BoolOp o l p)) : motive e :=
  (dt_ h).elim fun j h => PySem.Expr.BoolOp.elim (motive_1 := fun e => ∀ j, PySem.Expr.BoolOp.elim (motive_1 := fun _ => Bool) e j f = true → motive e) e j (fun o l p _ h => kk o l p h) j h
noncomputable def onCmp (e : PySem.Expr) (f : PySem.Expr → (List CmpOp) → (List PySem.Expr) → Pos → Bool) : Bool := dite (e.ctorIdx = 15) (fun h => PySem.Expr.Compare.elim (motive_1 := fun _ => Bool) e h f) fun _ => false
@[elab_as_elim] theorem onCmp_el {f : PySem.Expr → (List CmpOp) → (List PySem.Expr) → Pos → Bool} {motive : PySem.Expr → Prop} {e : PySem.Expr} (h : onCmp e f = true) (kk : ∀ l os rs p, f l os rs p = true → motive (.Compare l os rs p)) : motive e :=
  (dt_ h).elim fun j h => PySem.Expr.Compare.elim (motive_1 := fun e => ∀ j, PySem.Expr.Compare.elim (motive_1 := fun _ => Bool) e j f = true → motive e) e j (fun l os rs p _ h => kk l os rs p h) j h
noncomputable def onIf (e : PySem.Expr) (f : PySem.Expr → PySem.Expr → PySem.Expr → Pos → Bool) : Bool := dite (e.ctorIdx = 5) (fun h => PySem.Expr.IfExp.elim (motive_1 := fun _ => Bool) e h f) fun _ => false
@[elab_as_elim] theorem onIf_el {f : PySem.Expr → PySem.Expr → PySem.Expr → Pos → Bool} {motive : PySem.Expr → Prop} {e : PySem.Expr} (h : onIf e f = true) (kk : ∀ t a b p, f t a b p = true → motive (.IfExp t a b p)) : motive e :=
  (dt_ h).elim fun j h => PySem.Expr.IfExp.elim (motive_1 := fun e => ∀ j, PySem.Expr.IfExp.elim (motive_1 := fun _ => Bool) e j f = true → motive e) e j (fun t a b p _ h => kk t a b p h) j h
noncomputable def onCall (e : PySem.Expr) (f : PySem.Expr → (List PySem.Expr) → (List Keyword) → Pos → Bool) : Bool := dite (e.ctorIdx = 16) (fun h => PySem.Expr.Call.elim (motive_1 := fun _ => Bool) e h f) fun _ => false
@[elab_as_elim] theorem onCall_el {f : PySem.Expr → (List PySem.Expr) → (List Keyword) → Pos → Bool} {motive : PySem.Expr → Prop} {e : PySem.Expr} (h : onCall e f = true) (kk : ∀ fn as ks p, f fn as ks p = true → motive (.Call fn as ks p)) : motive e :=
  (dt_ h).elim fun j h => PySem.Expr.Call.elim (motive_1 := fun e => ∀ j, PySem.Expr.Call.elim (motive_1 := fun _ => Bool) e j f = true → motive e) e j (fun fn as ks p _ h => kk fn as ks p h) j h
noncomputable def onAttr (e : PySem.Expr) (f : PySem.Expr → Str → Pos → Bool) : Bool := dite (e.ctorIdx = 20) (fun h => PySem.Expr.Attribute.elim (motive_1 := fun _ => Bool) e h f) fun _ => false
@[elab_as_elim] theorem onAttr_el {f : PySem.Expr → Str → Pos → Bool} {motive : PySem.Expr → Prop} {e : PySem.Expr} (h : onAttr e f = true) (kk : ∀ v n p, f v n p = true → motive (.Attribute v n p)) : motive e :=
  (dt_ h).elim fun j h => PySem.Expr.Attribute.elim (motive_1 := fun e => ∀ j, PySem.Expr.Attribute.elim (motive_1 := fun _ => Bool) e j f = true → motive e) e j (fun v n p _ h => kk v n p h) j h
noncomputable def onSub (e : PySem.Expr) (f : PySem.Expr → PySem.Expr → Pos → Bool) : Bool := dite (e.ctorIdx = 21) (fun h => PySem.Expr.Subscript.elim (motive_1 := fun _ => Bool) e h f) fun _ => false
@[elab_as_elim] theorem onSub_el {f : PySem.Expr → PySem.Expr → Pos → Bool} {motive : PySem.Expr → Prop} {e : PySem.Expr} (h : onSub e f = true) (kk : ∀ v s p, f v s p = true → motive (.Subscript v s p)) : motive e :=
  (dt_ h).elim fun j h => PySem.Expr.Subscript.elim (motive_1 := fun e => ∀ j, PySem.Expr.Subscript.elim (motive_1 := fun _ => Bool) e j f = true → motive e) e j (fun v s p _ h => kk v s p h) j h
noncomputable def onSlice (e : PySem.Expr) (f : (Option PySem.Expr) → (Option PySem.Expr) → (Option PySem.Expr) → Pos → Bool) : Bool := dite (e.ctorIdx = 26) (fun h => PySem.Expr.Slice.elim (motive_1 := fun _ => Bool) e h f) fun _ => false
@[elab_as_elim] theorem onSlice_el {f : (Option PySem.Expr) → (Option PySem.Expr) → (Option PySem.Expr) → Pos → Bool} {motive : PySem.Expr → Prop} {e : PySem.Expr} (h : onSlice e f = true) (kk : ∀ a b c p, f a b c p = true → motive (.Slice a b c p)) : motive e :=
  (dt_ h).elim fun j h => PySem.Expr.Slice.elim (motive_1 := fun e => ∀ j, PySem.Expr.Slice.elim (motive_1 := fun _ => Bool) e j f = true → motive e) e j (fun a b c p _ h => kk a b c p h) j h
noncomputable def onTuple (e : PySem.Expr) (f : (List PySem.Expr) → Nat → Pos → Bool) : Bool := dite (e.ctorIdx = 25) (fun h => PySem.Expr.Tuple.elim (motive_1 := fun _ => Bool) e h f) fun _ => false
@[elab_as_elim] theorem onTuple_el {f : (List PySem.Expr) → Nat → Pos → Bool} {motive : PySem.Expr → Prop} {e : PySem.Expr} (h : onTuple e f = true) (kk : ∀ es k p, f es k p = true → motive (.Tuple es k p)) : motive e :=
  (dt_ h).elim fun j h => PySem.Expr.Tuple.elim (motive_1 := fun e => ∀ j, PySem.Expr.Tuple.elim (motive_1 := fun _ => Bool) e j f = true → motive e) e j (fun es k p _ h => kk es k p h) j h
noncomputable def onList (e : PySem.Expr) (f : (List PySem.Expr) → Pos → Bool) : Bool := dite (e.ctorIdx = 24) (fun h => PySem.Expr.List.elim (motive_1 := fun _ => Bool) e h f) fun _ => false
@[elab_as_elim] theorem onList_el {f : (List PySem.Expr) → Pos → Bool} {motive : PySem.Expr → Prop} {e : PySem.Expr} (h : onList e f = true) (kk : ∀ es p, f es p = true → motive (.List es p)) : motive e :=
  (dt_ h).elim fun j h => PySem.Expr.List.elim (motive_1 := fun e => ∀ j, PySem.Expr.List.elim (motive_1 := fun _ => Bool) e j f = true → motive e) e j (fun es p _ h => kk es p h) j h
noncomputable def onDict (e : PySem.Expr) (f : (List (Option PySem.Expr)) → (List PySem.Expr) → Pos → Bool) : Bool := dite (e.ctorIdx = 6) (fun h => PySem.Expr.Dict.elim (motive_1 := fun _ => Bool) e h f) fun _ => false
@[elab_as_elim] theorem onDict_el {f : (List (Option PySem.Expr)) → (List PySem.Expr) → Pos → Bool} {motive : PySem.Expr → Prop} {e : PySem.Expr} (h : onDict e f = true) (kk : ∀ ks vs p, f ks vs p = true → motive (.Dict ks vs p)) : motive e :=
  (dt_ h).elim fun j h => PySem.Expr.Dict.elim (motive_1 := fun e => ∀ j, PySem.Expr.Dict.elim (motive_1 := fun _ => Bool) e j f = true → motive e) e j (fun ks vs p _ h => kk ks vs p h) j h
noncomputable def onLC (e : PySem.Expr) (f : PySem.Expr → (List Comprehension) → Scope → Pos → Bool) : Bool := dite (e.ctorIdx = 8) (fun h => PySem.Expr.ListComp.elim (motive_1 := fun _ => Bool) e h f) fun _ => false
@[elab_as_elim] theorem onLC_el {f : PySem.Expr → (List Comprehension) → Scope → Pos → Bool} {motive : PySem.Expr → Prop} {e : PySem.Expr} (h : onLC e f = true) (kk : ∀ le gs sc p, f le gs sc p = true → motive (.ListComp le gs sc p)) : motive e :=
  (dt_ h).elim fun j h => PySem.Expr.ListComp.elim (motive_1 := fun e => ∀ j, PySem.Expr.ListComp.elim (motive_1 := fun _ => Bool) e j f = true → motive e) e j (fun le gs sc p _ h => kk le gs sc p h) j h
noncomputable def onInt (e : Const) (f : Int → Bool) : Bool := dite (e.ctorIdx = 2) (fun h => PySem.Const.int.elim (motive := fun _ => Bool) e h f) fun _ => false
@[elab_as_elim] theorem onInt_el {f : Int → Bool} {motive : Const → Prop} {e : Const} (h : onInt e f = true) (kk : ∀ i, f i = true → motive (.int i)) : motive e :=
  (dt_ h).elim fun j h => PySem.Const.int.elim (motive := fun e => ∀ j, PySem.Const.int.elim (motive := fun _ => Bool) e j f = true → motive e) e j (fun i _ h => kk i h) j h
noncomputable def onStr (e : Const) (f : Str → Bool) : Bool := dite (e.ctorIdx = 5) (fun h => PySem.Const.str.elim (motive := fun _ => Bool) e h f) fun _ => false
@[elab_as_elim] theorem onStr_el {f : Str → Bool} {motive : Const → Prop} {e : Const} (h : onStr e f = true) (kk : ∀ x, f x = true → motive (.str x)) : motive e :=
  (dt_ h).elim fun j h => PySem.Const.str.elim (motive := fun e => ∀ j, PySem.Const.str.elim (motive := fun _ => Bool) e j f = true → motive e) e j (fun x _ h => kk x h) j h
noncomputable def onB (e : Const) (f : Bool → Bool) : Bool := dite (e.ctorIdx = 1) (fun h => PySem.Const.bool.elim (motive := fun _ => Bool) e h f) fun _ => false
@[elab_as_elim] theorem onB_el {f : Bool → Bool} {motive : Const → Prop} {e : Const} (h : onB e f = true) (kk : ∀ b, f b = true → motive (.bool b)) : motive e :=
  (dt_ h).elim fun j h => PySem.Const.bool.elim (motive := fun e => ∀ j, PySem.Const.bool.elim (motive := fun _ => Bool) e j f = true → motive e) e j (fun b _ h => kk b h) j h
noncomputable def onNon (e : Const) (f : Bool) : Bool := dite (e.ctorIdx = 0) (fun h => PySem.Const.none.elim (motive := fun _ => Bool) e h f) fun _ => false
@[elab_as_elim] theorem onNon_el {f : Bool} {motive : Const → Prop} {e : Const} (h : onNon e f = true) (kk : f  = true → motive (.none )) : motive e :=
  (dt_ h).elim fun j h => PySem.Const.none.elim (motive := fun e => ∀ j, PySem.Const.none.elim (motive := fun _ => Bool) e j f = true → motive e) e j (fun  _ h => kk  h) j h
noncomputable def onAssign (e : Stmt) (f : (List PySem.Expr) → PySem.Expr → Pos → Bool) : Bool := dite (e.ctorIdx = 5) (fun h => PySem.Stmt.Assign.elim (motive_2 := fun _ => Bool) e h f) fun _ => false
@[elab_as_elim] theorem onAssign_el {f : (List PySem.Expr) → PySem.Expr → Pos → Bool} {motive : Stmt → Prop} {e : Stmt} (h : onAssign e f = true) (kk : ∀ ts v p, f ts v p = true → motive (.Assign ts v p)) : motive e :=
  (dt_ h).elim fun j h => PySem.Stmt.Assign.elim (motive_2 := fun e => ∀ j, PySem.Stmt.Assign.elim (motive_2 := fun _ => Bool) e j f = true → motive e) e j (fun ts v p _ h => kk ts v p h) j h
noncomputable def onAug (e : Stmt) (f : PySem.Expr → Operator → PySem.Expr → Pos → Bool) : Bool := dite (e.ctorIdx = 7) (fun h => PySem.Stmt.AugAssign.elim (motive_2 := fun _ => Bool) e h f) fun _ => false
@[elab_as_elim] theorem onAug_el {f : PySem.Expr → Operator → PySem.Expr → Pos → Bool} {motive : Stmt → Prop} {e : Stmt} (h : onAug e f = true) (kk : ∀ t o v p, f t o v p = true → motive (.AugAssign t o v p)) : motive e :=
  (dt_ h).elim fun j h => PySem.Stmt.AugAssign.elim (motive_2 := fun e => ∀ j, PySem.Stmt.AugAssign.elim (motive_2 := fun _ => Bool) e j f = true → motive e) e j (fun t o v p _ h => kk t o v p h) j h
noncomputable def onEx (e : Stmt) (f : PySem.Expr → Pos → Bool) : Bool := dite (e.ctorIdx = 24) (fun h => PySem.Stmt.Expr.elim (motive_2 := fun _ => Bool) e h f) fun _ => false
@[elab_as_elim] theorem onEx_el {f : PySem.Expr → Pos → Bool} {motive : Stmt → Prop} {e : Stmt} (h : onEx e f = true) (kk : ∀ x p, f x p = true → motive (.Expr x p)) : motive e :=
  (dt_ h).elim fun j h => PySem.Stmt.Expr.elim (motive_2 := fun e => ∀ j, PySem.Stmt.Expr.elim (motive_2 := fun _ => Bool) e j f = true → motive e) e j (fun x p _ h => kk x p h) j h
noncomputable def onIfS (e : Stmt) (f : PySem.Expr → (List Stmt) → (List Stmt) → Pos → Bool) : Bool := dite (e.ctorIdx = 12) (fun h => PySem.Stmt.If.elim (motive_2 := fun _ => Bool) e h f) fun _ => false
@[elab_as_elim] theorem onIfS_el {f : PySem.Expr → (List Stmt) → (List Stmt) → Pos → Bool} {motive : Stmt → Prop} {e : Stmt} (h : onIfS e f = true) (kk : ∀ t a b p, f t a b p = true → motive (.If t a b p)) : motive e :=
  (dt_ h).elim fun j h => PySem.Stmt.If.elim (motive_2 := fun e => ∀ j, PySem.Stmt.If.elim (motive_2 := fun _ => Bool) e j f = true → motive e) e j (fun t a b p _ h => kk t a b p h) j h
noncomputable def onFor (e : Stmt) (f : PySem.Expr → PySem.Expr → (List Stmt) → (List Stmt) → Pos → Bool) : Bool := dite (e.ctorIdx = 9) (fun h => PySem.Stmt.For.elim (motive_2 := fun _ => Bool) e h f) fun _ => false
@[elab_as_elim] theorem onFor_el {f : PySem.Expr → PySem.Expr → (List Stmt) → (List Stmt) → Pos → Bool} {motive : Stmt → Prop} {e : Stmt} (h : onFor e f = true) (kk : ∀ t i b o p, f t i b o p = true → motive (.For t i b o p)) : motive e :=
  (dt_ h).elim fun j h => PySem.Stmt.For.elim (motive_2 := fun e => ∀ j, PySem.Stmt.For.elim (motive_2 := fun _ => Bool) e j f = true → motive e) e j (fun t i b o p _ h => kk t i b o p h) j h
noncomputable def onRet (e : Stmt) (f : (Option PySem.Expr) → Pos → Bool) : Bool := dite (e.ctorIdx = 3) (fun h => PySem.Stmt.Return.elim (motive_2 := fun _ => Bool) e h f) fun _ => false
@[elab_as_elim] theorem onRet_el {f : (Option PySem.Expr) → Pos → Bool} {motive : Stmt → Prop} {e : Stmt} (h : onRet e f = true) (kk : ∀ v p, f v p = true → motive (.Return v p)) : motive e :=
  (dt_ h).elim fun j h => PySem.Stmt.Return.elim (motive_2 := fun e => ∀ j, PySem.Stmt.Return.elim (motive_2 := fun _ => Bool) e j f = true → motive e) e j (fun v p _ h => kk v p h) j h
noncomputable def onBrk (e : Stmt) (f : Pos → Bool) : Bool := dite (e.ctorIdx = 26) (fun h => PySem.Stmt.Break.elim (motive_2 := fun _ => Bool) e h f) fun _ => false
@[elab_as_elim] theorem onBrk_el {f : Pos → Bool} {motive : Stmt → Prop} {e : Stmt} (h : onBrk e f = true) (kk : ∀ p, f p = true → motive (.Break p)) : motive e :=
  (dt_ h).elim fun j h => PySem.Stmt.Break.elim (motive_2 := fun e => ∀ j, PySem.Stmt.Break.elim (motive_2 := fun _ => Bool) e j f = true → motive e) e j (fun p _ h => kk p h) j h
noncomputable def onCont (e : Stmt) (f : Pos → Bool) : Bool := dite (e.ctorIdx = 27) (fun h => PySem.Stmt.Continue.elim (motive_2 := fun _ => Bool) e h f) fun _ => false
@[elab_as_elim] theorem onCont_el {f : Pos → Bool} {motive : Stmt → Prop} {e : Stmt} (h : onCont e f = true) (kk : ∀ p, f p = true → motive (.Continue p)) : motive e :=
  (dt_ h).elim fun j h => PySem.Stmt.Continue.elim (motive_2 := fun e => ∀ j, PySem.Stmt.Continue.elim (motive_2 := fun _ => Bool) e j f = true → motive e) e j (fun p _ h => kk p h) j h
noncomputable def onOne {α : Type} (e : List α) (f : α → Bool) : Bool := match e with | [x] => f x | _ => false
@[elab_as_elim] theorem onOne_el {α : Type} {f : α → Bool} {motive : List α → Prop} {e : List α} (h : onOne e f = true) (k : ∀ x, f x = true → motive ([x])) : motive e := by
  rcases e with _ | ⟨x, _ | ⟨y, l⟩⟩ <;> first | exact k _ h | exact ff_ h
noncomputable def onTwo {α : Type} (e : List α) (f : α → α → Bool) : Bool := match e with | [x, y] => f x y | _ => false
@[elab_as_elim] theorem onTwo_el {α : Type} {f : α → α → Bool} {motive : List α → Prop} {e : List α} (h : onTwo e f = true) (k : ∀ x y, f x y = true → motive ([x, y])) : motive e := by
  rcases e with _ | ⟨x, _ | ⟨y, _ | ⟨z, l⟩⟩⟩ <;> first | exact k _ _ h | exact ff_ h
noncomputable def onCons {α : Type} (e : List α) (f : α → (List α) → Bool) : Bool := match e with | x :: l => f x l | _ => false
@[elab_as_elim] theorem onCons_el {α : Type} {f : α → (List α) → Bool} {motive : List α → Prop} {e : List α} (h : onCons e f = true) (k : ∀ x l, f x l = true → motive (x :: l)) : motive e := by
  cases e <;> first | exact k _ _ h | exact ff_ h
noncomputable def onSm {α : Type} (e : Option α) (f : α → Bool) : Bool := match e with | some x => f x | _ => false
@[elab_as_elim] theorem onSm_el {α : Type} {f : α → Bool} {motive : Option α → Prop} {e : Option α} (h : onSm e f = true) (k : ∀ x, f x = true → motive (some x)) : motive e := by
  cases e <;> first | exact k _ h | exact ff_ h
end Mine
end
section
open PySem PySem.W PyProof.Rows
set_option Elab.async false
set_option maxRecDepth 100000
namespace Mine
noncomputable def vk : Option NameKind → Nat
  | some .local => 1
  | some .cell => 2
  | some .free => 2
  | some .globalImplicit => 3
  | _ => 0
noncomputable abbrev Sc := List (Str × NameKind)
noncomputable def isV (sc : Sc) (x : Str) : Bool := vk (sc.lookup x) == 1 || vk (sc.lookup x) == 2
noncomputable def isG (sc : Sc) (x : Str) : Bool := vk (sc.lookup x) == 3 && !(x == ("__debug__" : Str))
noncomputable def okName (x : Str) : Bool := !(x == ("__debug__" : Str)) && !(x == ("__classdict__" : Str))
noncomputable def hideOk (nms : List Str) (csc : Sc) (hide : List Nat) : Bool := (List.range nms.length).all fun j => match nms[j]? with
  | some x => !(vk (csc.lookup x) == 1) || hide.contains j
  | none => true
noncomputable def scopeOk (sc : Sc) (csc : Sc) : Bool := csc.all fun y => (y.2 == .local || y.2 == .free || y.2 == .globalImplicit) && (vk (csc.lookup y.1) == vk (some y.2)) && (!(y.2 == .free) || vk (sc.lookup y.1) == 2)
noncomputable def nmV (nms : List Str) (csc : Sc) (i : Nat) (e : PySem.Expr) : Bool := onName e fun x _ => nms[i]? == some x && vk (csc.lookup x) == 1
noncomputable def tgtOk (nms : List Str) (csc : Sc) (t : Tgt) (e : PySem.Expr) : Bool := match t with
  | .one i => nmV nms csc i e
  | .many is => onTuple e fun es _ _ => is.length == es.length && (2 ≤ es.length && es.length ≤ 8) && (is.zip es).all fun p => nmV nms csc p.1 p.2
noncomputable def sepOk (nms : List Str) : List Nat → Bool
  | [] => true
  | i :: r => (r.all fun j => !(nms[i]? == nms[j]?)) && sepOk nms r
noncomputable def intLits : List Int → List PySem.Expr → Bool
  | [], es => es.isEmpty
  | i :: is, es => onCons es fun e es => onConst e fun c _ _ => onInt c fun j => i == j && intLits is es
noncomputable def menuOk : List Nat → List (List Int) → List (Option PySem.Expr) → List PySem.Expr → Bool
  | [], vs, e, es => vs.isEmpty && e.isEmpty && es.isEmpty
  | k :: ks, vs, e, es => onCons vs fun v vs => onCons e fun e0 e => onCons es fun s0 es => onSm e0 fun e0 => onConst e0 fun c _ _ => onStr c fun x => onList s0 fun l _ => Nat.blt k stN && x == st k && intLits v l && menuOk ks vs e es
noncomputable def menuFit (keys : List Nat) (vals : List (List Int)) : Bool := decide keys.Nodup && decide (1 ≤ keys.length) && decide (keys.length ≤ 15) && vals.all fun v => decide (v.length < 65536)
theorem all2 {a b : Bool} (h : (a && b) = true) : a = true ∧ b = true := Bool.and_eq_true_iff.mp h
theorem all3 {a b c : Bool} (h : (a && b && c) = true) : a = true ∧ b = true ∧ c = true := ⟨(all2 (all2 h).1).1, (all2 (all2 h).1).2, (all2 h).2⟩
theorem all4 {a b c d : Bool} (h : (a && b && c && d) = true) : a = true ∧ b = true ∧ c = true ∧ d = true := (mk03 ((all3 (all2 h).1).1) ((all3 (all2 h).1).2.1) ((all3 (all2 h).1).2.2) ((all2 h).2))
theorem all5 {a b c d e : Bool} (h : (a && b && c && d && e) = true) : a = true ∧ b = true ∧ c = true ∧ d = true ∧ e = true := ⟨(all2 (all4 h).1).1, (all2 (all4 h).1).2, (all4 h).2⟩
theorem all6 {a b c d e f : Bool} (h : (a && b && c && d && e && f) = true) : a = true ∧ b = true ∧ c = true ∧ d = true ∧ e = true ∧ f = true := ⟨(all2 (all5 h).1).1, (all2 (all5 h).1).2, (all5 h).2⟩
theorem all7 {a b c d e f g : Bool} (h : (a && b && c && d && e && f && g) = true) : a = true ∧ b = true ∧ c = true ∧ d = true ∧ e = true ∧ f = true ∧ g = true := ⟨(all2 (all6 h).1).1, (all2 (all6 h).1).2, (all6 h).2⟩
theorem all8 {a b c d e f g i : Bool} (h : (a && b && c && d && e && f && g && i) = true) : a = true ∧ b = true ∧ c = true ∧ d = true ∧ e = true ∧ f = true ∧ g = true ∧ i = true := ⟨(all2 (all7 h).1).1, (all2 (all7 h).1).2, (all7 h).2⟩
theorem all9 {a b c d e f g i j : Bool} (h : (a && b && c && d && e && f && g && i && j) = true) : a = true ∧ b = true ∧ c = true ∧ d = true ∧ e = true ∧ f = true ∧ g = true ∧ i = true ∧ j = true := ⟨(all2 (all8 h).1).1, (all2 (all8 h).1).2, (all8 h).2⟩
theorem nil_ {α : Type} {l : List α} (h : l.isEmpty = true) : l = [] := by
  cases l with
  | nil => rfl
  | cons => exact ff_ h
theorem not_ {b : Bool} (h : (!b) = true) : b = false := by
  cases b with
  | false => rfl
  | true => exact ff_ h
noncomputable def plainE (e : PySem.Expr) : Bool := !(Nat.beq e.ctorIdx 22 || Nat.beq e.ctorIdx 7 || Nat.beq e.ctorIdx 9 || Nat.beq e.ctorIdx 10 || Nat.beq e.ctorIdx 11)
noncomputable def dfE : PySem.Expr → Bool
  | .UnaryOp .Not _ _ => false
  | .BoolOp .. => false
  | .IfExp .. => false
  | .Compare .. => false
  | _ => true
noncomputable def tstX (x : X) : Bool := Nat.beq x.ctorIdx 7 || Nat.beq x.ctorIdx 8 || Nat.beq x.ctorIdx 9 || Nat.beq x.ctorIdx 10 || Nat.beq x.ctorIdx 11 || Nat.beq x.ctorIdx 12 || Nat.beq x.ctorIdx 13
noncomputable def opNo : Operator → Nat
  | .Add => 0
  | .Sub => 1
  | .Mult => 2
  | .Mod => 3
  | _ => 9
theorem opNo_eq {o : Operator} {op : Nat} (h : Nat.beq (opNo o) op = true) (h2 : Nat.blt op 4 = true) : o = opOf op := by
  have h := Nat.eq_of_beq_eq_true h
  subst h
  cases o <;> first | rfl | exact ff_ h2
noncomputable def cmpNo : CmpOp → Nat
  | .Eq => 0
  | .NotEq => 1
  | .Lt => 2
  | .Gt => 3
  | .In => 4
  | .NotIn => 5
  | _ => 9
theorem cmpNo_eq {o : CmpOp} {op : Nat} (h : Nat.beq (cmpNo o) op = true) (h2 : Nat.blt op 6 = true) : o = cmpOf op := by
  have h := Nat.eq_of_beq_eq_true h
  subst h
  cases o <;> first | rfl | exact ff_ h2
noncomputable def onVar (a : X) (f : Nat → Bool) : Bool := dite (a.ctorIdx = 5) (fun h => X.var.elim (motive_1 := fun _ => Bool) a h f) fun _ => false
@[elab_as_elim] theorem onVar_el {f : Nat → Bool} {motive : X → Prop} {a : X} (h : onVar a f = true) (k : ∀ i, f i = true → motive (.var i)) : motive a :=
  (dt_ h).elim fun j h => X.var.elim (motive_1 := fun e => ∀ j, X.var.elim (motive_1 := fun _ => Bool) e j f = true → motive e) a j (fun i _ h => k i h) j h
noncomputable def isUn (n : Nat) (o : UnaryOp) : Bool := Nat.beq o.ctorIdx n
section
variable (nms : List Str) (fname : Nat → Str) (ckE : X → Sc → PySem.Expr → Bool)
noncomputable def ckEs : List X → Sc → List PySem.Expr → Bool
  | [], _, es => es.isEmpty
  | a :: as, sc, es => onCons es fun e es => ckE a sc e && ckEs as sc es
noncomputable def ck_c1 (N : Str) (a : X) (sc : Sc) (e : PySem.Expr) : Bool := onCall e fun f as ks _ => onName f fun x _ => onOne as fun l => decide (x = N) && ks.isEmpty && isG sc N && ckE a sc l
noncomputable def ckIt (it : IT) (a : X) (sc : Sc) (ie : PySem.Expr) : Bool := match it with
  | .rng => ck_c1 ckE "range" a sc ie
  | .val => ckE a sc ie
noncomputable def ckC (c : Option X) (sc : Sc) (ifs : List PySem.Expr) : Bool := match c with
  | Option.none => ifs.isEmpty
  | some c => onOne ifs fun ce => ckE c sc ce
noncomputable def isZ (c : Comprehension) : Bool := decide (c.is_async = 0)
noncomputable def ckX (x : X) (sc : Sc) (e : PySem.Expr) : Bool := match x with
  | .none => onConst e fun c _ _ => onNon c true
  | .bool b => onConst e fun c _ _ => onB c fun d => b == d
  | .int i => onConst e fun c _ _ => onInt c fun j => decide (j = i)
  | .sym k => onConst e fun c _ _ => onStr c fun x => decide (x = st k)
  | .neg1 => onUn e fun o a _ => onConst a fun c _ _ => onInt c fun i => isUn 3 o && decide (i = 1)
  | .var i => onName e fun x _ => decide (nms[i]? = some x) && isV sc x && okName x
  | .bin op a b => onBin e fun l o r _ => Nat.beq (opNo o) op && Nat.blt op 4 && ckE a sc l && ckE b sc r
  | .not a => onUn e fun o l _ => isUn 1 o && ckE a sc l
  | .and a b => onBool e fun o l _ => onTwo l fun l r => Nat.beq o.ctorIdx 0 && ckE a sc l && ckE b sc r
  | .or a b => onBool e fun o l _ => onTwo l fun l r => Nat.beq o.ctorIdx 1 && ckE a sc l && ckE b sc r
  | .cmp op a b => onCmp e fun l os rs _ => onOne os fun o => onOne rs fun r => Nat.beq (cmpNo o) op && Nat.blt op 6 && !behindInMarks o r && ckE a sc l && ckE b sc r
  | .isNone a => onCmp e fun l os rs _ => onOne os fun o => onOne rs fun r => onConst r fun c _ _ => onNon c (decide (o = .Is) && ckE a sc l)
  | .notNone a => onCmp e fun l os rs _ => onOne os fun o => onOne rs fun r => onConst r fun c _ _ => onNon c (decide (o = .IsNot) && ckE a sc l)
  | .ife t a b => onIf e fun te ae be _ => ckE t sc te && ckE a sc ae && ckE b sc be
  | .call f as => onCall e fun g es ks _ => onName g fun x _ => onCons es fun e' es' => decide (x = fname f) && ks.isEmpty && isG sc (fname f) && Nat.blt es'.length 20 && ckEs ckE as sc (e' :: es')
  | .len a => ck_c1 ckE "len" a sc e
  | .toInt a => ck_c1 ckE "int" a sc e
  | .abs a => ck_c1 ckE "abs" a sc e
  | .tupleOf a => ck_c1 ckE "tuple" a sc e
  | .sorted a => ck_c1 ckE "sorted" a sc e
  | .prim as => onCall e fun g es ks _ => onName g fun x _ => onCons es fun e' es' => decide (x = ("Primitive" : Str)) && ks.isEmpty && isG sc "Primitive" && Nat.blt es'.length 20 && ckEs ckE as sc (e' :: es')
  | .attr a j => onAttr e fun v n _ => onName v fun x p' => onVar a fun i => decide (primNames[j]? = some n) && ckE (.var i) sc (.Name x p')
  | .sub a i => onSub e fun v s _ => noSlice s && ckE a sc v && ckE i sc s
  | .strAt cs i => onSub e fun v s _ => onConst v fun c _ _ => onStr c fun x => decide (x = strOf cs) && noSlice s && ckE i sc s
  | .sliceTo a u => onSub e fun v s _ => onSlice s fun x y z _ => onSm y fun ue => x.isNone && z.isNone && ckE a sc v && ckE u sc ue
  | .sliceFrom1 a => onSub e fun v s _ => onSlice s fun x y z _ => onSm x fun ue => onConst ue fun c _ _ => onInt c fun i => decide (i = 1) && y.isNone && z.isNone && ckE a sc v
  | .tup l => onTuple e fun es _ _ => ckEs ckE l sc es
  | .list l => onList e fun es _ => ckEs ckE l sc es
  | .dict0 => onDict e fun ks vs _ => ks.isEmpty && vs.isEmpty
  | .get d k v => onCall e fun f as ks p => onAttr f fun o n p1 => onName o fun x p0 => onTwo as fun ke ve => onVar d fun i => decide (n = ("get" : Str)) && ks.isEmpty && (p1.endLine == p.line) && ckE (.var i) sc (.Name x p0) && ckE k sc ke && ckE v sc ve
  | .menu keys vals i => onSub e fun v s _ => onDict v fun ks vs _ => noSlice s && menuOk keys vals ks vs && menuFit keys vals && ckE i sc s
  | .comp1 elt t it e₀ c hide => onLC e fun le gs scope _ => onOne gs fun g => isZ g && decide (scope.kind = .function) && scopeOk sc scope.names && hideOk nms scope.names hide && sepOk nms (tIdx t) && tgtOk nms scope.names t g.target &&
      ckIt ckE it e₀ sc g.iter && ckC ckE c scope.names g.ifs && ckE elt scope.names le
  | .comp2 elt t₁ it₁ e₁ t₂ it₂ e₂ c hide => onLC e fun le gs scope _ => onTwo gs fun g g₂ => (isZ g && isZ g₂ && g.ifs.isEmpty && decide (scope.kind = .function) && scopeOk sc scope.names) && hideOk nms scope.names hide && sepOk nms (tIdx t₁ ++ tIdx t₂) &&
      tgtOk nms scope.names t₁ g.target && tgtOk nms scope.names t₂ g₂.target && ckIt ckE it₁ e₁ sc g.iter && ckIt ckE it₂ e₂ scope.names g₂.iter && ckC ckE c scope.names g₂.ifs && ckE elt scope.names le
end
noncomputable def ckN (nms : List Str) (fname : Nat → Str) : Nat → X → Sc → PySem.Expr → Bool
  | 0, _, _, _ => false
  | n + 1, x, sc, e => plainE e && (tstX x || dfE e) && ckX nms fname (ckN nms fname n) x sc e
section
variable (nms : List Str) (fname : Nat → Str)
noncomputable def CorE (sc : Sc) (x : X) (e : PySem.Expr) : Prop := ∃ n, ckN nms fname n x sc e = true
inductive CorEs (sc : Sc) : List X → List PySem.Expr → Prop
  | nil : CorEs sc [] []
  | cons {a as e es} : CorE nms fname sc a e → CorEs sc as es → CorEs sc (a :: as) (e :: es)
noncomputable def Call1 (N : Str) (sc : Sc) (a : X) (e : PySem.Expr) : Prop := ∃ l p p', e = .Call (.Name N p') [l] [] p ∧ isG sc N = true ∧ CorE nms fname sc a l
noncomputable def CorIt (sc : Sc) (it : IT) (a : X) (e : PySem.Expr) : Prop := match it with
  | .rng => Call1 nms fname "range" sc a e
  | .val => CorE nms fname sc a e
noncomputable def CorC (sc : Sc) (c : Option X) (ifs : List PySem.Expr) : Prop := match c with
  | Option.none => ifs = []
  | some c => ∃ ce, ifs = [ce] ∧ CorE nms fname sc c ce
noncomputable def ViewE (sc : Sc) (x : X) (e : PySem.Expr) : Prop := match x with
  | .none => ∃ k p, e = .Constant .none k p
  | .bool b => ∃ k p, e = .Constant (.bool b) k p
  | .int i => ∃ k p, e = .Constant (.int i) k p
  | .sym j => ∃ k p, e = .Constant (.str (st j)) k p
  | .neg1 => ∃ k p p', e = .UnaryOp .USub (.Constant (.int 1) k p) p'
  | .var i => ∃ x p, e = .Name x p ∧ nms[i]? = some x ∧ isV sc x = true ∧ okName x = true
  | .bin op a b => ∃ l r p, e = .BinOp l (opOf op) r p ∧ CorE nms fname sc a l ∧ CorE nms fname sc b r
  | .not a => ∃ l p, e = .UnaryOp .Not l p ∧ CorE nms fname sc a l
  | .and a b => ∃ l r p, e = .BoolOp .And [l, r] p ∧ CorE nms fname sc a l ∧ CorE nms fname sc b r
  | .or a b => ∃ l r p, e = .BoolOp .Or [l, r] p ∧ CorE nms fname sc a l ∧ CorE nms fname sc b r
  | .cmp op a b => ∃ l r p, e = .Compare l [cmpOf op] [r] p ∧ behindInMarks (cmpOf op) r = false ∧ CorE nms fname sc a l ∧ CorE nms fname sc b r
  | .isNone a => ∃ l k p' p, e = .Compare l [.Is] [.Constant .none k p'] p ∧ CorE nms fname sc a l
  | .notNone a => ∃ l k p' p, e = .Compare l [.IsNot] [.Constant .none k p'] p ∧ CorE nms fname sc a l
  | .ife t a b => ∃ te ae be p, e = .IfExp te ae be p ∧ CorE nms fname sc t te ∧ CorE nms fname sc a ae ∧ CorE nms fname sc b be
  | .call f as => ∃ e' es p p', e = .Call (.Name (fname f) p') (e' :: es) [] p ∧ isG sc (fname f) = true ∧ CorEs nms fname sc as (e' :: es)
  | .len a => Call1 nms fname "len" sc a e
  | .toInt a => Call1 nms fname "int" sc a e
  | .abs a => Call1 nms fname "abs" sc a e
  | .tupleOf a => Call1 nms fname "tuple" sc a e
  | .sorted a => Call1 nms fname "sorted" sc a e
  | .prim as => ∃ e' es p p', e = .Call (.Name "Primitive" p') (e' :: es) [] p ∧ isG sc "Primitive" = true ∧ CorEs nms fname sc as (e' :: es)
  | .attr a j => ∃ i x n p p', a = .var i ∧ e = .Attribute (.Name x p') n p ∧ primNames[j]? = some n ∧ CorE nms fname sc (.var i) (.Name x p')
  | .sub a i => ∃ v s p, e = .Subscript v s p ∧ noSlice s = true ∧ CorE nms fname sc a v ∧ CorE nms fname sc i s
  | .strAt cs i => ∃ s k p p', e = .Subscript (.Constant (.str (strOf cs)) k p') s p ∧ noSlice s = true ∧ CorE nms fname sc i s
  | .sliceTo a u => ∃ v ue p p', e = .Subscript v (.Slice none (some ue) none p') p ∧ CorE nms fname sc a v ∧ CorE nms fname sc u ue
  | .sliceFrom1 a => ∃ v k p p' p'', e = .Subscript v (.Slice (some (.Constant (.int 1) k p'')) none none p') p ∧ CorE nms fname sc a v
  | .tup l => ∃ es k p, e = .Tuple es k p ∧ CorEs nms fname sc l es
  | .list l => ∃ es p, e = .List es p ∧ CorEs nms fname sc l es
  | .dict0 => ∃ p, e = .Dict [] [] p
  | .get d k v => ∃ i x ke ve p0 p1 p, d = .var i ∧ e = .Call (.Attribute (.Name x p0) "get" p1) [ke, ve] [] p ∧ (p1.endLine == p.line) = true ∧ CorE nms fname sc (.var i) (.Name x p0) ∧ CorE nms fname sc k ke ∧ CorE nms fname sc v ve
  | .menu keys vals i => ∃ ks vs s p p', e = .Subscript (.Dict ks vs p') s p ∧ noSlice s = true ∧ menuOk keys vals ks vs = true ∧ menuFit keys vals = true ∧ CorE nms fname sc i s
  | .comp1 elt t it e₀ c hide => ∃ le te ie ifs scope p, e = .ListComp le [⟨te, ie, ifs, 0⟩] scope p ∧ scope.kind = .function ∧ scopeOk sc scope.names = true ∧ hideOk nms scope.names hide = true ∧ sepOk nms (tIdx t) = true ∧ tgtOk nms scope.names t te = true ∧
      CorIt nms fname sc it e₀ ie ∧ CorC nms fname scope.names c ifs ∧ CorE nms fname scope.names elt le
  | .comp2 elt t₁ it₁ e₁ t₂ it₂ e₂ c hide => ∃ le te₁ ie₁ te₂ ie₂ ifs scope p, e = .ListComp le [⟨te₁, ie₁, [], 0⟩, ⟨te₂, ie₂, ifs, 0⟩] scope p ∧ scope.kind = .function ∧ scopeOk sc scope.names = true ∧ hideOk nms scope.names hide = true ∧
      sepOk nms (tIdx t₁ ++ tIdx t₂) = true ∧ tgtOk nms scope.names t₁ te₁ = true ∧ tgtOk nms scope.names t₂ te₂ = true ∧ CorIt nms fname sc it₁ e₁ ie₁ ∧ CorIt nms fname scope.names it₂ e₂ ie₂ ∧ CorC nms fname scope.names c ifs ∧ CorE nms fname scope.names elt le
end
section
variable (nms : List Str) (fname : Nat → Str) (nv0 : Nat) (sc : Sc)
noncomputable def varAt (i : Nat) (x : Str) : Bool := Nat.blt i nv0 && nms[i]? == some x && isV sc x && okName x
noncomputable def varE (i : Nat) (e : PySem.Expr) : Bool := onName e fun x _ => varAt nms nv0 sc i x
noncomputable def sTgtOk (t : Tgt) (e : PySem.Expr) : Bool := match t with
  | .one i => varE nms nv0 sc i e
  | .many is => onTuple e fun es _ _ => is.length == es.length && (2 ≤ es.length && es.length ≤ 8) && (is.zip es).all fun p => varE nms nv0 sc p.1 p.2
noncomputable def isComp (e : PySem.Expr) : Bool := Nat.beq e.ctorIdx 8 || Nat.beq e.ctorIdx 9 || Nat.beq e.ctorIdx 10
noncomputable def isTuple (e : PySem.Expr) : Bool := Nat.beq e.ctorIdx 25 || Nat.beq e.ctorIdx 24
noncomputable def isFz (s : S) : Bool := Nat.beq s.ctorIdx 17
theorem isFz_eq {s : S} (h : isFz s = true) : ∃ i, s = .freeze i := S.freeze.elim (motive_1 := fun s => ∃ i, s = .freeze i) s (Nat.eq_of_beq_eq_true h) fun i => ⟨i, rfl⟩
variable (ck : X → Sc → PySem.Expr → Bool) (ckS : S → Stmt → Bool)
noncomputable def ckSs : List S → List Stmt → Bool
  | [], ts => ts.isEmpty
  | s :: ss, ts => match isFz s with
    | true => ckSs ss ts
    | false => onCons ts fun t ts => ckS s t && ckSs ss ts
noncomputable def ks_m (N : Str) (i : Nat) (e : X) (t : Stmt) : Bool := onEx t fun y _ => onCall y fun f as ks p2 => onAttr f fun o n p1 => onName o fun x _ => onOne as fun v => decide (n = N) && ks.isEmpty && varAt nms nv0 sc i x && (p1.endLine == p2.line) && ck e sc v
noncomputable def ks_f (i : Nat) (e : X) (t : Stmt) : Bool := onAssign t fun ts v _ => onOne ts fun n => onName n fun x _ => varAt nms nv0 sc i x && ck e sc v
noncomputable def ksX (s : S) (t : Stmt) : Bool := match s with
  | .asg i e => onAssign t fun ts v _ => onOne ts fun n => onName n fun x _ => varAt nms nv0 sc i x && !isComp v && ck e sc v
  | .asgF i e => ks_f nms nv0 sc ck i e t
  | .own i e => ks_f nms nv0 sc ck i e t
  | .unp is e => onAssign t fun ts v _ => onOne ts fun n => onTuple n fun es k p => sTgtOk nms nv0 sc (.many is) (.Tuple es k p) && !isComp v && !isTuple v && ck e sc v
  | .setIt i idx e => onAssign t fun ts v _ => onOne ts fun n => onSub n fun a ie _ => onName a fun x _ => varAt nms nv0 sc i x && noSlice ie && !isComp v && ck idx sc ie && ck e sc v
  | .augPool i j k => onAug t fun tt o v _ => onSub tt fun a b _ => onName a fun x _ => onConst b fun c1 _ _ => onInt c1 fun p => onConst v fun c2 _ _ => onInt c2 fun q => decide (o = .Add) && varAt nms nv0 sc i x && decide (p = (j : Int)) && decide (q = (k : Int))
  | .augI i op e => onAug t fun tt o v _ => onName tt fun x _ => decide ((op = 0 ∧ o = .Add) ∨ (op = 1 ∧ o = .FloorDiv)) && varAt nms nv0 sc i x && ck e sc v
  | .ext i e => onAug t fun tt o v _ => onName tt fun x _ => decide (o = .Add) && varAt nms nv0 sc i x && ck e sc v
  | .app i e => ks_m nms nv0 sc ck "append" i e t
  | .appF i e => ks_m nms nv0 sc ck "append" i e t
  | .upd i e => ks_m nms nv0 sc ck "update" i e t
  | .ite c a b => onIfS t fun te ae be _ => ck c sc te && ckSs ckS a ae && ckSs ckS b be
  | .for tg k e body => onFor t fun te ie be o _ => o.isEmpty && sTgtOk nms nv0 sc tg te && ckIt ck k e sc ie && ckSs ckS body be
  | .forOwn tg j body => onFor t fun te ie be o _ => onName ie fun x _ => o.isEmpty && sTgtOk nms nv0 sc tg te && varAt nms nv0 sc j x && ckSs ckS body be
  | .ret e => onRet t fun v _ => onSm v fun v => ck e sc v
  | .brk => onBrk t fun _ => true
  | .cont => onCont t fun _ => true
  | .freeze _ => false
end
noncomputable def ksN (nms : List Str) (nv0 : Nat) (sc : Sc) (ck : X → Sc → PySem.Expr → Bool) : Nat → S → Stmt → Bool
  | 0, _, _ => false
  | n + 1, s, t => ksX nms nv0 sc ck (ksN nms nv0 sc ck n) s t
section
variable (nms : List Str) (fname : Nat → Str) (nv0 : Nat) (sc : Sc)
noncomputable def CorS (s : S) (t : Stmt) : Prop := ∃ n m, ksN nms nv0 sc (ckN nms fname n) m s t = true
inductive CorSs : List S → List Stmt → Prop
  | nil : CorSs [] []
  | cons {s ss t ts} : CorS nms fname nv0 sc s t → CorSs ss ts → CorSs (s :: ss) (t :: ts)
  | ghost {i ss ts} : CorSs ss ts → CorSs (.freeze i :: ss) ts
noncomputable def Meth1 (N : Str) (i : Nat) (e : X) (t : Stmt) : Prop := ∃ x v p p' p1 p2, t = .Expr (.Call (.Attribute (.Name x p') N p1) [v] [] p2) p ∧ varAt nms nv0 sc i x = true ∧ (p1.endLine == p2.line) = true ∧ CorE nms fname sc e v
noncomputable def Asg1 (i : Nat) (e : X) (t : Stmt) : Prop := ∃ x v p p', t = .Assign [.Name x p'] v p ∧ varAt nms nv0 sc i x = true ∧ CorE nms fname sc e v
noncomputable def ViewS (s : S) (t : Stmt) : Prop := match s with
  | .asg i e => ∃ x v p p', t = .Assign [.Name x p'] v p ∧ varAt nms nv0 sc i x = true ∧ isComp v = false ∧ CorE nms fname sc e v
  | .asgF i e => Asg1 nms fname nv0 sc i e t
  | .own i e => Asg1 nms fname nv0 sc i e t
  | .unp is e => ∃ es k v p p', t = .Assign [.Tuple es k p'] v p ∧ sTgtOk nms nv0 sc (.many is) (.Tuple es k p') = true ∧ isComp v = false ∧ isTuple v = false ∧ CorE nms fname sc e v
  | .setIt i idx e => ∃ x ie v p p' p'', t = .Assign [.Subscript (.Name x p'') ie p'] v p ∧ varAt nms nv0 sc i x = true ∧ noSlice ie = true ∧ isComp v = false ∧ CorE nms fname sc idx ie ∧ CorE nms fname sc e v
  | .augPool i j k => ∃ x c1 c2 p p' p'' p3 p4, t = .AugAssign (.Subscript (.Name x p'') (.Constant (.int (j : Int)) c1 p3) p') .Add (.Constant (.int (k : Int)) c2 p4) p ∧ varAt nms nv0 sc i x = true
  | .augI i op e => ∃ x o v p p', t = .AugAssign (.Name x p') o v p ∧ ((op = 0 ∧ o = .Add) ∨ (op = 1 ∧ o = .FloorDiv)) ∧ varAt nms nv0 sc i x = true ∧ CorE nms fname sc e v
  | .ext i e => ∃ x v p p', t = .AugAssign (.Name x p') .Add v p ∧ varAt nms nv0 sc i x = true ∧ CorE nms fname sc e v
  | .app i e => Meth1 nms fname nv0 sc "append" i e t
  | .appF i e => Meth1 nms fname nv0 sc "append" i e t
  | .upd i e => Meth1 nms fname nv0 sc "update" i e t
  | .ite c a b => ∃ te ae be p, t = .If te ae be p ∧ CorE nms fname sc c te ∧ CorSs nms fname nv0 sc a ae ∧ CorSs nms fname nv0 sc b be
  | .for tg k e body => ∃ te ie be p, t = .For te ie be [] p ∧ sTgtOk nms nv0 sc tg te = true ∧ CorIt nms fname sc k e ie ∧ CorSs nms fname nv0 sc body be
  | .forOwn tg j body => ∃ x te be p p', t = .For te (.Name x p') be [] p ∧ sTgtOk nms nv0 sc tg te = true ∧ varAt nms nv0 sc j x = true ∧ CorSs nms fname nv0 sc body be
  | .ret e => ∃ v p, t = .Return (some v) p ∧ CorE nms fname sc e v
  | .brk => ∃ p, t = .Break p
  | .cont => ∃ p, t = .Continue p
  | .freeze _ => False
end
section
variable {nms : List Str} {fname : Nat → Str} {n : Nat} {sc : Sc}
theorem ckEs_ok : ∀ {l : List X} {es : List PySem.Expr}, ckEs (ckN nms fname n) l sc es = true → CorEs nms fname sc l es
  | [], es, h => nil_ h ▸ .nil
  | a :: as, es, h => onCons_el h fun e es h => .cons ⟨n, (all2 h).1⟩ (ckEs_ok (all2 h).2)
theorem c1_ok {N : Str} {a : X} {e : PySem.Expr} (h : ck_c1 (ckN nms fname n) N a sc e = true) : Call1 nms fname N sc a e :=
  onCall_el h fun f as ks p h => onName_el h fun x p' h => onOne_el h fun l h => (mk32 l p p' (by rw [of_decide_eq_true (all4 h).1, nil_ (all4 h).2.1]) ((all4 h).2.2.1) (mk10 n ((all4 h).2.2.2)))
theorem ckIt_ok {it : IT} {a : X} {ie : PySem.Expr} (h : ckIt (ckN nms fname n) it a sc ie = true) : CorIt nms fname sc it a ie := by
  cases it with
  | rng => exact c1_ok h
  | val => exact ⟨n, h⟩
theorem ckC_ok {c : Option X} {ifs : List PySem.Expr} (h : ckC (ckN nms fname n) c sc ifs = true) : CorC nms fname sc c ifs := by
  cases c with
  | none => exact nil_ h
  | some c => exact onOne_el (motive := fun ifs => CorC nms fname sc (some c) ifs) h fun ce h => (mk11 _ rfl (mk10 n h))
theorem isZ_eq {c : Comprehension} (h : isZ c = true) : c = ⟨c.target, c.iter, c.ifs, 0⟩ := by
  obtain ⟨t, i, f, a⟩ := c
  obtain rfl : a = 0 := of_decide_eq_true h
  rfl
theorem CorE.plain {x : X} {e : PySem.Expr} (h : CorE nms fname sc x e) : plainE e = true := by
  obtain ⟨_ | n, h⟩ := h
  · exact ff_ h
  · exact (all3 h).1
theorem CorE.dflt {x : X} {e : PySem.Expr} (h : CorE nms fname sc x e) : (tstX x || dfE e) = true := by
  obtain ⟨_ | n, h⟩ := h
  · exact ff_ h
  · exact (all3 h).2.1
theorem un_eq {k : Nat} {o : UnaryOp} (o' : UnaryOp) (h : isUn k o = true) (h' : isUn k o' = true) : o = o' := by
  have := (Nat.eq_of_beq_eq_true h).trans (Nat.eq_of_beq_eq_true h').symm
  cases o <;> cases o' <;> first | rfl | cases this
theorem bo_eq {k : Nat} {o : PySem.BoolOp} (o' : PySem.BoolOp) (h : Nat.beq o.ctorIdx k = true) (h' : Nat.beq o'.ctorIdx k = true) : o = o' := by
  have := (Nat.eq_of_beq_eq_true h).trans (Nat.eq_of_beq_eq_true h').symm
  cases o <;> cases o' <;> first | rfl | cases this
theorem nn_ {α : Type} {o : Option α} (h : o.isNone = true) : o = none := Option.isNone_iff_eq_none.mp h
theorem dc_ {c : Prop} {_ : Decidable c} (h : decide c = true) : c := of_decide_eq_true h
theorem inv_ {x : X} {e : PySem.Expr} (h : ckX nms fname (ckN nms fname n) x sc e = true) : ViewE nms fname sc x e := by
  cases x with
  | none => exact onConst_el h fun c k p h => onNon_el h fun _ => (mk20 k p rfl)
  | bool b => exact onConst_el h fun c k p h => onB_el h fun d h => (mk20 k p (by rw [eq_of_beq h]))
  | int i => exact onConst_el h fun c k p h => onInt_el h fun d h => (mk20 k p (by rw [dc_ h]))
  | sym j => exact onConst_el h fun c k p h => onStr_el h fun d h => (mk20 k p (by rw [dc_ h]))
  | neg1 => exact onUn_el h fun o a p' h => onConst_el h fun c k p h => onInt_el h fun d h => (mk30 k p p' (by rw [un_eq .USub (all2 h).1 rfl, dc_ (all2 h).2]))
  | var i => exact onName_el h fun x p h => (mk23 x p rfl (dc_ (all3 h).1) ((all3 h).2.1) ((all3 h).2.2))
  | bin op a b => exact onBin_el h fun l o r p h => (mk32 l r p (by rw [opNo_eq (all4 h).1 (all4 h).2.1]) ⟨n, (all4 h).2.2.1⟩ (mk10 n ((all4 h).2.2.2)))
  | not a => exact onUn_el h fun o a p h => (mk21 a p (by rw [un_eq .Not (all2 h).1 rfl]) (mk10 n ((all2 h).2)))
  | and a b => exact onBool_el h fun o l p h => onTwo_el h fun l r h => (mk32 l r p (by rw [bo_eq .And (all3 h).1 rfl]) ⟨n, (all3 h).2.1⟩ (mk10 n ((all3 h).2.2)))
  | or a b => exact onBool_el h fun o l p h => onTwo_el h fun l r h => (mk32 l r p (by rw [bo_eq .Or (all3 h).1 rfl]) ⟨n, (all3 h).2.1⟩ (mk10 n ((all3 h).2.2)))
  | cmp op a b => exact onCmp_el h fun l os rs p h => onOne_el h fun o h => onOne_el h fun r h => (cmpNo_eq (all5 h).1 (all5 h).2.1) ▸ (mk33 l r p rfl (by rw [← cmpNo_eq (all5 h).1 (all5 h).2.1]; exact not_ (all5 h).2.2.1) ⟨n, (all5 h).2.2.2.1⟩ (mk10 n ((all5 h).2.2.2.2)))
  | isNone a => exact onCmp_el h fun l os rs p h => onOne_el h fun o h => onOne_el h fun r h => onConst_el h fun c k p' h => onNon_el h fun h => (mk41 l k p' p (by rw [dc_ (all2 h).1]) (mk10 n ((all2 h).2)))
  | notNone a => exact onCmp_el h fun l os rs p h => onOne_el h fun o h => onOne_el h fun r h => onConst_el h fun c k p' h => onNon_el h fun h => (mk41 l k p' p (by rw [dc_ (all2 h).1]) (mk10 n ((all2 h).2)))
  | ife t a b => exact onIf_el h fun te ae be p h => (mk43 te ae be p rfl ⟨n, (all3 h).1⟩ ⟨n, (all3 h).2.1⟩ (mk10 n ((all3 h).2.2)))
  | call f as => exact onCall_el h fun g es ks p h => onName_el h fun x p' h => onCons_el h fun e' es' h => (mk42 e' es' p p' (by rw [dc_ (all5 h).1, nil_ (all5 h).2.1]) ((all5 h).2.2.1) (ckEs_ok (all5 h).2.2.2.2))
  | len a => exact c1_ok h
  | toInt a => exact c1_ok h
  | abs a => exact c1_ok h
  | tupleOf a => exact c1_ok h
  | sorted a => exact c1_ok h
  | prim as => exact onCall_el h fun g es ks p h => onName_el h fun x p' h => onCons_el h fun e' es' h => (mk42 e' es' p p' (by rw [dc_ (all5 h).1, nil_ (all5 h).2.1]) ((all5 h).2.2.1) (ckEs_ok (all5 h).2.2.2.2))
  | attr a j => exact onAttr_el h fun v m p h => onName_el h fun x p' h => onVar_el h fun i h => (mk40 i x m p (mk13 p' rfl rfl (dc_ (all2 h).1) (mk10 n ((all2 h).2))))
  | sub a i => exact onSub_el h fun v s p h => (mk33 v s p rfl ((all3 h).1) ⟨n, (all3 h).2.1⟩ (mk10 n ((all3 h).2.2)))
  | strAt cs i => exact onSub_el h fun v s p h => onConst_el h fun c k p' h => onStr_el h fun x h => (mk42 s k p p' (by rw [dc_ (all3 h).1]) ((all3 h).2.1) (mk10 n ((all3 h).2.2)))
  | sliceTo a u => exact onSub_el h fun v s p h => onSlice_el h fun x y z p' h => onSm_el h fun ue h => (mk42 v ue p p' (by rw [nn_ (all4 h).1, nn_ (all4 h).2.1]) ⟨n, (all4 h).2.2.1⟩ (mk10 n ((all4 h).2.2.2)))
  | sliceFrom1 a => exact onSub_el h fun v s p h => onSlice_el h fun x y z p' h => onSm_el h fun ue h => onConst_el h fun c k p'' h => onInt_el h fun i h => (mk40 v k p p' (mk11 p'' (by rw [dc_ (all4 h).1, nn_ (all4 h).2.1, nn_ (all4 h).2.2.1]) (mk10 n ((all4 h).2.2.2))))
  | tup l => exact onTuple_el h fun es k p h => (mk31 es k p rfl (ckEs_ok h))
  | list l => exact onList_el h fun es p h => (mk21 es p rfl (ckEs_ok h))
  | dict0 => exact onDict_el h fun ks vs p h => ⟨p, by rw [nil_ (all2 h).1, nil_ (all2 h).2]⟩
  | get d k v => exact onCall_el h fun f as ks p h => onAttr_el h fun o m p1 h => onName_el h fun x p0 h => onTwo_el h fun ke ve h => onVar_el h fun i h =>
      (mk40 i x ke ve (mk34 p0 p1 p rfl (by rw [dc_ (all6 h).1, nil_ (all6 h).2.1]) ((all6 h).2.2.1) ⟨n, (all6 h).2.2.2.1⟩ (mk01 ⟨n, (all6 h).2.2.2.2.1⟩ (mk10 n ((all6 h).2.2.2.2.2)))))
  | menu keys vals i => exact onSub_el h fun v s p h => onDict_el h fun ks vs p' h => (mk40 ks vs s p (mk14 p' rfl ((all4 h).1) ((all4 h).2.1) ((all4 h).2.2.1) (mk10 n ((all4 h).2.2.2))))
  | comp1 elt t it e₀ c hide =>
    exact onLC_el h fun le gs scope p h => onOne_el h fun g h => by
      have h := all9 h
      exact (mk40 _ _ _ _ (mk24 _ _ (by rw [isZ_eq h.1]) (dc_ h.2.1) h.2.2.1 h.2.2.2.1 (mk04 h.2.2.2.2.1 h.2.2.2.2.2.1 (ckIt_ok h.2.2.2.2.2.2.1) (ckC_ok h.2.2.2.2.2.2.2.1) (mk10 n h.2.2.2.2.2.2.2.2))))
  | comp2 elt t₁ it₁ e₁ t₂ it₂ e₂ c hide =>
    exact onLC_el h fun le gs scope p h => onTwo_el h fun g g₂ h => by
      have h := all9 h
      have z := all5 h.1
      exact (mk40 _ _ _ _ (mk44 _ _ _ _ (by rw [isZ_eq z.1, isZ_eq z.2.1, nil_ z.2.2.1]) (dc_ z.2.2.2.1) z.2.2.2.2 h.2.1 (mk04 h.2.2.1 h.2.2.2.1 h.2.2.2.2.1 (ckIt_ok h.2.2.2.2.2.1) (mk02 (ckIt_ok h.2.2.2.2.2.2.1) (ckC_ok h.2.2.2.2.2.2.2.1) (mk10 n h.2.2.2.2.2.2.2.2)))))
theorem CorE.inv {x : X} {e : PySem.Expr} (h : CorE nms fname sc x e) : ViewE nms fname sc x e := by
  obtain ⟨_ | n, h⟩ := h
  · exact ff_ h
  · exact inv_ (all3 h).2.2
noncomputable def lcX (x : X) : Bool := match x with
  | .comp1 .. => true
  | .comp2 .. => true
  | _ => false
@[elab_as_elim] theorem lcX_el {motive : X → Prop} {x : X} (h : lcX x = true) (k1 : ∀ elt t it e₀ c hide, motive (.comp1 elt t it e₀ c hide)) (k2 : ∀ elt t₁ it₁ e₁ t₂ it₂ e₂ c hide, motive (.comp2 elt t₁ it₁ e₁ t₂ it₂ e₂ c hide)) : motive x := by
  cases x <;> first | exact k1 .. | exact k2 .. | exact ff_ h
theorem CorE.lc {x : X} {le : PySem.Expr} {gs : List Comprehension} {scope : Scope} {p : Pos} (h : CorE nms fname sc x (.ListComp le gs scope p)) : lcX x = true := by
  obtain ⟨_ | n, h⟩ := h
  · exact ff_ h
  · replace h := (all3 h).2.2
    cases x <;> first | rfl | exact ff_ h
variable {nv0 m : Nat}
theorem ckSs_ok : ∀ {ss : List S} {ts : List Stmt}, ckSs (ksN nms nv0 sc (ckN nms fname n) m) ss ts = true → CorSs nms fname nv0 sc ss ts
  | [], _, h => nil_ h ▸ .nil
  | s :: ss, ts, h => by
    replace h : (match isFz s with | true => ckSs (ksN nms nv0 sc (ckN nms fname n) m) ss ts | false => onCons ts fun t ts => ksN nms nv0 sc (ckN nms fname n) m s t && ckSs (ksN nms nv0 sc (ckN nms fname n) m) ss ts) = true := h
    cases e : isFz s with
    | true =>
      rw [e] at h
      (refine el10 (isFz_eq e) ?_; intro i zq0; subst zq0)
      exact .ghost (ckSs_ok h)
    | false =>
      rw [e] at h
      exact onCons_el h fun t ts h => .cons (mk20 n m ((all2 h).1)) (ckSs_ok (all2 h).2)
theorem m_ok {N : Str} {i : Nat} {e : X} {t : Stmt} (h : ks_m nms nv0 sc (ckN nms fname n) N i e t = true) : Meth1 nms fname nv0 sc N i e t :=
  onEx_el h fun y p h => onCall_el h fun f as ks p2 h => onAttr_el h fun o k p1 h => onName_el h fun x p' h => onOne_el h fun v h => (mk40 x v p p' (mk23 p1 p2 (by rw [dc_ (all5 h).1, nil_ (all5 h).2.1]) ((all5 h).2.2.1) ((all5 h).2.2.2.1) (mk10 n ((all5 h).2.2.2.2))))
theorem f_ok {i : Nat} {e : X} {t : Stmt} (h : ks_f nms nv0 sc (ckN nms fname n) i e t = true) : Asg1 nms fname nv0 sc i e t :=
  onAssign_el h fun ts v p h => onOne_el h fun k h => onName_el h fun x p' h => (mk42 x v p p' rfl ((all2 h).1) (mk10 n ((all2 h).2)))
theorem invS_ {s : S} {t : Stmt} (h : ksX nms nv0 sc (ckN nms fname n) (ksN nms nv0 sc (ckN nms fname n) m) s t = true) : ViewS nms fname nv0 sc s t := by
  cases s with
  | asg i e => exact onAssign_el h fun ts v p h => onOne_el h fun k h => onName_el h fun x p' h => (mk43 x v p p' rfl ((all3 h).1) (not_ (all3 h).2.1) (mk10 n ((all3 h).2.2)))
  | asgF i e => exact f_ok h
  | own i e => exact f_ok h
  | unp is e => exact onAssign_el h fun ts v p h => onOne_el h fun k h => onTuple_el h fun es k p' h => (mk40 es k v p (mk14 p' rfl ((all4 h).1) (not_ (all4 h).2.1) (not_ (all4 h).2.2.1) (mk10 n ((all4 h).2.2.2))))
  | setIt i idx e => exact onAssign_el h fun ts v p h => onOne_el h fun k h => onSub_el h fun a ie p' h => onName_el h fun x p'' h => (mk40 x ie v p (mk24 p' p'' rfl ((all5 h).1) ((all5 h).2.1) (not_ (all5 h).2.2.1) (mk01 ⟨n, (all5 h).2.2.2.1⟩ (mk10 n ((all5 h).2.2.2.2)))))
  | augPool i j k => exact onAug_el h fun tt o v p h => onSub_el h fun a b p' h => onName_el h fun x p'' h => onConst_el h fun c1 k1 p3 h => onInt_el h fun q h => onConst_el h fun c2 k2 p4 h => onInt_el h fun r h =>
      (mk40 x k1 k2 p (mk41 p' p'' p3 p4 (by rw [dc_ (all4 h).1, dc_ (all4 h).2.2.1, dc_ (all4 h).2.2.2]) ((all4 h).2.1)))
  | augI i op e => exact onAug_el h fun tt o v p h => onName_el h fun x p' h => (mk40 x o v p (mk13 p' rfl (dc_ (all3 h).1) ((all3 h).2.1) (mk10 n ((all3 h).2.2))))
  | ext i e => exact onAug_el h fun tt o v p h => onName_el h fun x p' h => (mk42 x v p p' (by rw [dc_ (all3 h).1]) ((all3 h).2.1) (mk10 n ((all3 h).2.2)))
  | app i e => exact m_ok h
  | appF i e => exact m_ok h
  | upd i e => exact m_ok h
  | ite c a b => exact onIfS_el h fun te ae be p h => (mk43 te ae be p rfl ⟨n, (all3 h).1⟩ (ckSs_ok (all3 h).2.1) (ckSs_ok (all3 h).2.2))
  | «for» tg k e body => exact onFor_el h fun te ie be o p h => (mk43 te ie be p (by rw [nil_ (all4 h).1]) ((all4 h).2.1) (ckIt_ok (all4 h).2.2.1) (ckSs_ok (all4 h).2.2.2))
  | forOwn tg j body => exact onFor_el h fun te ie be o p h => onName_el h fun x p' h => (mk40 x te be p (mk13 p' (by rw [nil_ (all4 h).1]) ((all4 h).2.1) ((all4 h).2.2.1) (ckSs_ok (all4 h).2.2.2)))
  | ret e => exact onRet_el h fun v p h => onSm_el h fun v h => (mk21 v p rfl (mk10 n h))
  | brk => exact onBrk_el h fun p _ => ⟨p, rfl⟩
  | cont => exact onCont_el h fun p _ => ⟨p, rfl⟩
  | freeze i => exact ff_ h
theorem CorS.inv {s : S} {t : Stmt} (h : CorS nms fname nv0 sc s t) : ViewS nms fname nv0 sc s t := by
  obtain ⟨n, _ | m, h⟩ := h
  · exact ff_ h
  · exact invS_ h
end
end Mine
end
section
open PySem PySem.W PyProof.Rows
set_option Elab.async false
set_option maxRecDepth 100000
namespace Mine
structure G where
  prog : Program
  w : World
  h₀ : Heap
  B : Addr → Option Obj
  ap : Addr
  C : Addr
  mg : Str → Option Value
  mb : Str → Option Value
  fa : Nat → Addr
  fname : Nat → Str
noncomputable def GlobV (g : G) (x : Str) (v : Value) : Prop := g.mg x = some v ∨ (g.mg x = none ∧ g.mb x = some v)
noncomputable def AOK (n : Nat) (A : Around) : Prop := A.handled = none ∧ A.depth + n < 900 ∧ A.units + 8 * n + 400 < 9900
structure G.OK (g : G) : Prop where
  base : ∀ a o, g.h₀.get? a = some o → g.B a = some o
  ap : g.B g.ap = none
  sysm : ∃ o, g.B sysModules = some o
  gn : g.h₀.Ns mainGlobals g.mg
  bn : g.h₀.Ns builtinsNs g.mb
  lim : g.h₀.NoLimit
  nLen : GlobV g "len" (.builtin "len")
  nAbs : GlobV g "abs" (.builtin "abs")
  nSorted : GlobV g "sorted" (.builtin "sorted")
  nInt : GlobV g "int" (.type "int")
  nTuple : GlobV g "tuple" (.type "tuple")
  nRange : GlobV g "range" (.type "range")
  nPrim : GlobV g "Primitive" (.ref g.C)
  attr : ∀ {A : Around} {s : Shared} {a dx : Addr} {od : Obj} {n : Str} {v : Value} {Q : Value → Shared → Prop}, n ∈ primNames → (∀ b o, g.B b = some o → s.heap.get? b = some o) → s.heap.get? a = some (instObj g.C dx) → s.heap.get? dx = some od →
    lookIn n od = some (some v) → handedIn v = true → Q v { s with toks := s.toks + 1 } → wpAny (model g.prog g.w) A (getAttr (.ref a) n true) Q (fun _ _ => False) s
  clsCall : ∀ {A : Around} {s : Shared} {pos : Pos} {args : List (Bool × Sem Value)} {Q : Value → Shared → Prop}, args.any (·.1) = false →
    wpAny (model g.prog g.w) A (evalArgs (.ref g.C) true args []) (fun a s₁ => (∀ b o, g.B b = some o → s₁.heap.get? b = some o) ∧ wpAny (model g.prog g.w) A (call (.ref g.C) a.pos a.kw) Q (fun _ _ => False) s₁) (fun _ _ => False) s →
    wpAny (model g.prog g.w) A (callWith pos (.ref g.C) [] args []) Q (fun _ _ => False) s
  make : ∀ {A : Around} {s : Shared} {M : Addr → Prop} {vs : List Value} {l : List PV} {n : Nat}, AOK (n + 1) A → MA M s.heap → (∀ b o, g.B b = some o → s.heap.get? b = some o) → RlAll g.ap g.C M s.heap vs l → vs.length = 7 →
    wpAny (model g.prog g.w) A (call (.ref g.C) vs []) (Res g.ap g.C M s (.prim l)) (fun _ _ => False) s
noncomputable def XR (g : G) (P : Reg) (a : Addr) : Prop := P.isSome = true ∧ a = g.ap
theorem AOK.pred {n : Nat} {A : Around} (x : AOK (n + 1) A) : AOK n A := ⟨x.1, by have := x.2.1; lia, by have := x.2.2; lia⟩
theorem AOK.deeper {n : Nat} {A : Around} {env : Env} (x : AOK (n + 1) A) : AOK n (A.deeper env) := ⟨x.1, by have := x.2.1; show A.depth + 1 + n < 900; lia, by have := x.2.2; show A.units + 3 + 8 * n + 400 < 9900; lia⟩
theorem AOK.mark {n : Nat} {A : Around} (x : AOK n A) : AOK n (A.mark none) := x
theorem AOK.room {n : Nat} {A : Around} (x : AOK n A) : A.units + 100 < cLine := by have := x.2.2; show A.units + 100 < 9900; lia
structure Pre (g : G) (n : Nat) (A : Around) (M : Addr → Prop) (P : Reg) (s : Shared) : Prop where
  a : AOK n A
  ma : MA M s.heap
  mb : ∀ a, M a → g.B a = none
  mr : P.isSome = true → M g.ap
  reg : RegOK g.ap g.C g.B s.heap P
  kb : ∀ a o, g.B a = some o → s.heap.get? a = some o
section
variable {g : G} {n : Nat} {A : Around} {M : Addr → Prop} {P P' : Reg} {s s' : Shared}
theorem RegOK.is {h : Heap} (r : RegOK g.ap g.C g.B h P) (e : P.isSome = true) : ∃ o, h.get? g.ap = some o ∧ ∃ vs k, o.data = .seq vs k := by
  cases P with
  | none => cases e
  | some l => (refine el11 r ?_; try clear r; intro vs zp0 _; refine el12 zp0 ?_; clear zp0; intro o ho _ zr1; refine el10 zr1 ?_; clear zr1; intro k hd); exact (mk11 o ho (mk20 vs k hd))
theorem Pre.next (x : Pre g n A M P s) (ok : g.OK) (e : Ext (XR g P) s s') (r : RegOK g.ap g.C g.B s'.heap P') (hs : P'.isSome = P.isSome) : Pre g n A M P' s' where
  a := x.a
  ma := fun a h => by
    by_cases q : XR g P a
    · (refine el01 q ?_; try clear q; intro q1 zq0; subst zq0)
      (refine el11 (r.is (hs.trans q1)) ?_; intro o ho _)
      exact ⟨o, ho⟩
    · (refine el10 (x.ma a h) ?_; intro o ho)
      exact ⟨o, e.keep a o q ho⟩
  mb := x.mb
  mr := fun h => x.mr (hs ▸ h)
  reg := r
  kb := fun a o h => e.keep a o (fun q => by (refine el01 q ?_; try clear q; intro _ zq0; subst zq0); rw [ok.ap] at h; cases h) (x.kb a o h)
theorem RegOK.ext0 (r : RegOK g.ap g.C g.B s.heap P) (e : Ext0 s s') : RegOK g.ap g.C g.B s'.heap P := by
  cases P with
  | none => trivial
  | some l =>
    (refine el11 r ?_; try clear r; intro vs hl ha)
    exact (mk11 vs (Heap.IsList.at hl fun o => e.keep _ o id) (ha.ext0 e))
theorem Pre.next0 (x : Pre g n A M P s) (ok : g.OK) (e : Ext0 s s') : Pre g n A M P s' := x.next ok (e.wk fun _ q => q.elim) (x.reg.ext0 e) rfl
theorem Pre.wkN {m : Nat} {A' : Around} (x : Pre g n A M P s) (h : AOK m A') : Pre g m A' M P s := ⟨h, x.ma, x.mb, x.mr, x.reg, x.kb⟩
theorem Pre.pred (x : Pre g (n + 1) A M P s) : Pre g n A M P s := x.wkN x.a.pred
theorem Pre.x0 (x : Pre g n A M P s) : ∀ a, XR g P a → M a := fun a q => by (refine el01 q ?_; try clear q; intro q1 zq0; subst zq0); exact x.mr q1
theorem Pre.base (x : Pre g n A M P s) (ok : g.OK) : ∀ a o, g.h₀.get? a = some o → s.heap.get? a = some o := fun a o h => x.kb a o (ok.base a o h)
theorem Pre.notSys (x : Pre g n A M P s) (ok : g.OK) {a : Addr} (h : s.heap.get? a = none) : (a == sysModules) = false := by
  (refine el10 (ok.sysm) ?_; intro o ho)
  rw [beq_eq_false_iff_ne]
  rintro rfl
  rw [x.kb _ _ ho] at h; cases h
theorem XR_congr (hs : P'.isSome = P.isSome) {a : Addr} : XR g P' a ↔ XR g P a := by unfold XR; rw [hs]
theorem Ext.xr {a b : Shared} (hs : P'.isSome = P.isSome) (x : Ext (XR g P') a b) : Ext (XR g P) a b := x.wk fun _ q => (XR_congr hs).mp q
structure FrOK (g : G) (M : Addr → Prop) (h : Heap) (env : Env) (nms : List Str) (ρ : Vw) : Prop where
  kind : env.scope.kind = .function
  glob : env.globals = mainGlobals
  bu : env.builtins = builtinsNs
  cells : ∀ x, vk (env.kindOf x) = 2 → ∃ c, env.cells.lookup x = some c
  ns : ∃ m, h.Ns env.locals m ∧ ∀ i x p, nms[i]? = some x → lk ρ i = some p →
    (vk (env.kindOf x) = 1 → ∃ v, m x = some v ∧ Rl g.ap g.C M h v p) ∧ (vk (env.kindOf x) = 2 → ∃ c v, env.cells.lookup x = some c ∧ h.IsCell c (some v) ∧ Rl g.ap g.C M h v p)
noncomputable def ScOK (sc : Sc) (env : Env) : Prop := ∀ x, vk (sc.lookup x) = vk (env.kindOf x)
theorem FrOK.next {env : Env} {nms : List Str} {ρ : Vw} (f : FrOK g M s.heap env nms ρ) (r : RegOK g.ap g.C g.B s.heap P) (hX : ∀ a, XR g P a → M a) (e : Ext (XR g P) s s') : FrOK g M s'.heap env nms ρ where
  kind := f.kind
  glob := f.glob
  bu := f.bu
  cells := f.cells
  ns := by
    (refine el11 (f.ns) ?_; intro m hn hm)
    have hno : ∀ a o, s.heap.get? a = some o → (∀ vs k, o.data ≠ .seq vs k) → ¬ XR g P a := fun a o ho hd q => by
      (refine el01 q ?_; try clear q; intro q1 zq0; subst zq0)
      (refine el11 (r.is q1) ?_; intro o' ho' zr0; refine el20 zr0 ?_; clear zr0; intro vs k hd')
      rw [ho] at ho'; cases ho'
      exact hd _ _ hd'
    refine (mk11 m ?_ (fun i x p h1 h2 => ?_))
    · (refine el32 hn ?_; try clear hn; intro o es ep ho hd rest)
      exact (mk32 o es ep (e.keep _ _ (hno _ _ ho fun vs k => by rw [hd]; simp) ho) hd rest)
    · (refine el01 (hm i x p h1 h2) ?_; intro k1 k2)
      refine ⟨fun q => ?_, fun q => ?_⟩
      · (refine el11 (k1 q) ?_; intro v e1 e2)
        exact (mk11 v e1 (e2.ext e hX))
      · (refine el22 (k2 q) ?_; intro c v e1 zp0 e3; refine el11 zp0 ?_; clear zp0; intro o ho hd)
        exact (mk22 c v e1 (mk11 o (e.keep _ _ (hno _ _ ho fun vs k => by rw [hd]; simp) ho) hd) (e3.ext e hX))
theorem FrOK.next0 {env : Env} {nms : List Str} {ρ : Vw} (f : FrOK g M s.heap env nms ρ) (e : Ext0 s s') : FrOK g M s'.heap env nms ρ :=
  f.next (P := none) trivial (fun a q => by (refine el01 q ?_; try clear q; intro q _); cases q) (e.wk fun _ q => q.elim)
theorem load_glob {env : Env} {nms : List Str} {ρ : Vw} {x : Str} {v : Value} {p : Pos} {Q : Value → Shared → Prop} (ok : g.OK) (pr : Pre g n A M P s) (f : FrOK g M s.heap env nms ρ) (hk : vk (env.kindOf x) = 3)
    (hd : (x == ("__debug__" : Str)) = false) (hv : GlobV g x v) (h : Q v s) : wpAny (model g.prog g.w) A (eval (.Name x p) env) Q NoE s := by
  have hkind : env.kindOf x = some .globalImplicit := by
    generalize env.kindOf x = k at hk
    cases k with
    | none => exact absurd hk (by decide)
    | some k => cases k <;> first | rfl | exact absurd hk (by decide)
  have gn := ok.gn.keeps (pr.base ok)
  have bn := ok.bn.keeps (pr.base ok)
  rw [← f.glob] at gn
  rw [← f.bu] at bn
  refine Calls.Name_function_global f.kind hkind ?_ hd
  rcases hv with hv | ⟨h1, h2⟩
  · exact Calls.loadGlobal_global gn hv h
  · exact Calls.loadGlobal_builtin gn h1 bn h2 h
theorem load_var {env : Env} {nms : List Str} {ρ : Vw} {x : Str} {i : Nat} {p : PV} {pos : Pos} {Q : Value → Shared → Prop} (f : FrOK g M s.heap env nms ρ) (hx : nms[i]? = some x) (hp : lk ρ i = some p)
    (hk : vk (env.kindOf x) = 1 ∨ vk (env.kindOf x) = 2) (hn : okName x = true) (h : ∀ v, Rl g.ap g.C M s.heap v p → Q v s) : wpAny (model g.prog g.w) A (eval (.Name x pos) env) Q NoE s := by
  (refine el11 (f.ns) ?_; intro m hns hm)
  (refine el01 (hm i x p hx hp) ?_; intro k1 k2)
  simp only [okName, Bool.and_eq_true, Bool.not_eq_true'] at hn
  refine wpAny_Name ?_ hn.1
  rcases hk with hk | hk
  · have hkind : env.kindOf x = some .local := by
      generalize env.kindOf x = k at hk
      cases k with
      | none => exact absurd hk (by decide)
      | some k => cases k <;> first | rfl | exact absurd hk (by decide)
    (refine el11 (k1 hk) ?_; intro v e1 e2)
    exact wpAny_loadName_local f.kind hkind hns e1 (h v e2)
  · have hkind : env.kindOf x = some .cell ∨ env.kindOf x = some .free := by
      generalize env.kindOf x = k at hk
      cases k with
      | none => exact absurd hk (by decide)
      | some k => cases k <;> first | exact .inl rfl | exact .inr rfl | exact absurd hk (by decide)
    (refine el22 (k2 hk) ?_; intro c v e1 e2 e3)
    rcases hkind with hkind | hkind
    · exact wpAny_loadName_cell f.kind hkind e1 e2 (h v e3)
    · exact wpAny_loadName_free f.kind hkind e1 e2 (h v e3) hn.2
end
end Mine
end
section
open PySem PySem.W PyProof.Rows
set_option Elab.async false
set_option maxRecDepth 100000
namespace Mine
structure PostE (g : G) (M : Addr → Prop) (P P' : Reg) (s : Shared) (x : X) (p : PV) (v : Value) (s' : Shared) : Prop where
  ext : Ext (XR g P) s s'
  rl : Rl g.ap g.C M s'.heap v p
  reg : RegOK g.ap g.C g.B s'.heap P'
  same : P'.isSome = P.isSome
  fresh : freshForm x = true → (p.isList || p.isDict) = true → Fresh g.prog g.w g.ap g.C M s p v s'
structure PostT (g : G) (P P' : Reg) (s : Shared) (b : Bool) (c : Bool) (s' : Shared) : Prop where
  eq : c = b
  ext : Ext (XR g P) s s'
  reg : RegOK g.ap g.C g.B s'.heap P'
  same : P'.isSome = P.isSome
noncomputable def EvOK (g : G) (n : Nat) (L : Lv) : Prop := ∀ {x : X} {e : PySem.Expr} {sc : Sc} {nms : List Str}, CorE nms g.fname sc x e → ∀ {ρ : Vw} {P P' : Reg} {p : PV}, L.ev x ρ P = some (p, P') →
  ∀ {env : Env} {A : Around} {M : Addr → Prop} {s : Shared}, ScOK sc env → FrOK g M s.heap env nms ρ → Pre g n A M P s → wpAny (model g.prog g.w) A (eval e env) (PostE g M P P' s x p) NoE s
noncomputable def EvTOK (g : G) (n : Nat) (L : Lv) : Prop := ∀ {x : X} {e : PySem.Expr} {sc : Sc} {nms : List Str}, CorE nms g.fname sc x e → ∀ {ρ : Vw} {P P' : Reg} {b : Bool}, L.evT x ρ P = some (b, P') →
  ∀ {env : Env} {A : Around} {M : Addr → Prop} {s : Shared}, ScOK sc env → FrOK g M s.heap env nms ρ → Pre g n A M P s → wpAny (model g.prog g.w) A (isTrue e env (eval e env)) (PostT g P P' s b) NoE s
noncomputable def PostF (g : G) (M : Addr → Prop) (P P' : Reg) (s : Shared) (p : PV) (r : Result) (s' : Shared) : Prop :=
  ∃ v, r = .ok (.ret v) ∧ Ext (XR g P) s s' ∧ Rl g.ap g.C M s'.heap v p ∧ RegOK g.ap g.C g.B s'.heap P' ∧ P'.isSome = P.isSome
noncomputable def FnOK (g : G) (n : Nat) (L : Lv) : Prop := ∀ {f : Nat} {ps : List PV} {P P' : Reg} {r : PV}, L.fn f ps P = some (r, P') →
  (GlobV g (g.fname f) (.ref (g.fa f)) ∧ ∃ o fd, g.B (g.fa f) = some o ∧ o.data = .func fd) ∧
  ∀ {A : Around} {M : Addr → Prop} {s : Shared} {vs : List Value}, RlAll g.ap g.C M s.heap vs ps → Pre g n A M P s → codeAny (model g.prog g.w) A (.call (.ref (g.fa f)) ⟨vs, []⟩) (PostF g M P P' s r) s
section
variable {g : G} {n : Nat} {L : Lv} {A : Around} {M : Addr → Prop} {P P' P₁ P₂ : Reg} {s s' : Shared} {env : Env} {nms : List Str} {sc : Sc} {ρ : Vw}
theorem mono_ {α : Type} {t : Sem α} {Q Q' : α → Shared → Prop} {A : Around} {s : Shared} (h : wpAny (model g.prog g.w) A t Q NoE s) (k : ∀ a s', Q a s' → Q' a s') : wpAny (model g.prog g.w) A t Q' NoE s := wpAny_mono h k fun _ _ x => x
theorem PostE.of_res {x : X} {p : PV} {v : Value} (pr : Pre g n A M P s) (r : Res g.ap g.C M s p v s') (hx : freshForm x = false) : PostE g M P P s x p v s' :=
  ⟨r.1.wk fun _ q => q.elim, r.2, pr.reg.ext0 r.1, rfl, fun h => by rw [hx] at h; cases h⟩
theorem PostE.on {x : X} {p : PV} {v : Value} {s₁ : Shared} (pr : Pre g n A M P₁ s₁) (e : Ext (XR g P) s s₁) (hs : P₁.isSome = P.isSome) (r : Res g.ap g.C M s₁ p v s') (hx : freshForm x = false) : PostE g M P P₁ s x p v s' :=
  ⟨e.tr0 r.1, r.2, pr.reg.ext0 r.1, hs, fun h => by rw [hx] at h; cases h⟩
theorem one_ (hL : EvOK g n L) {a : X} {l : PySem.Expr} (ha : CorE nms g.fname sc a l) {x : PV} (ea : L.ev a ρ P = some (x, P₁)) (sk : ScOK sc env) (f : FrOK g M s.heap env nms ρ) (pr : Pre g n A M P s) (ok : g.OK)
    {Q : Value → Shared → Prop} (k : ∀ v s₁, Ext (XR g P) s s₁ → Pre g n A M P₁ s₁ → FrOK g M s₁.heap env nms ρ → Rl g.ap g.C M s₁.heap v x → P₁.isSome = P.isSome → Q v s₁) : wpAny (model g.prog g.w) A (eval l env) Q NoE s :=
  mono_ (hL ha ea sk f pr) fun v s₁ q => k v s₁ q.ext (pr.next ok q.ext q.reg q.same) (f.next pr.reg pr.x0 q.ext) q.rl q.same
theorem two_ (hL : EvOK g n L) {a b : X} {l r : PySem.Expr} (ha : CorE nms g.fname sc a l) (hb : CorE nms g.fname sc b r) {x y : PV} (ea : L.ev a ρ P = some (x, P₁)) (eb : L.ev b ρ P₁ = some (y, P₂)) (sk : ScOK sc env) (f : FrOK g M s.heap env nms ρ)
    (pr : Pre g n A M P s) (ok : g.OK) {Q : Value → Value → Shared → Prop} (k : ∀ v u s₂, Ext (XR g P) s s₂ → Pre g n A M P₂ s₂ → FrOK g M s₂.heap env nms ρ → Rl g.ap g.C M s₂.heap v x → Rl g.ap g.C M s₂.heap u y → P₂.isSome = P.isSome → Q v u s₂) :
    wpAny (model g.prog g.w) A (eval l env) (fun v s₁ => wpAny (model g.prog g.w) A (eval r env) (fun u s₂ => Q v u s₂) NoE s₁) NoE s :=
  one_ hL ha ea sk f pr ok fun v s₁ e₁ pr₁ f₁ r₁ h₁ => one_ hL hb eb sk f₁ pr₁ ok fun u s₂ e₂ pr₂ f₂ r₂ h₂ => k v u s₂ (e₁.tr (e₂.xr h₁)) pr₂ f₂ (r₁.ext e₂ pr₁.x0) r₂ (h₂.trans h₁)
theorem star_cons {a : X} {e : PySem.Expr} (h : CorE nms g.fname sc a e) (es : List PySem.Expr) : starEach (e :: es) env = (false, eval e env) :: starEach es env := by
  have hp := h.plain
  cases e <;> first | rfl | exact ff_ hp
theorem back_cons (pos : Pos) (t : Sem Value) (l : List (Bool × Sem Value)) : backTo pos ((false, t) :: l) = (false, t) :: backTo pos l := rfl
theorem many_ (hL : EvOK g n L) (ok : g.OK) (sk : ScOK sc env) (pos : Pos) {as : List X} {es : List PySem.Expr} (h : CorEs nms g.fname sc as es) : ∀ {ps : List PV} {P P' : Reg} {s : Shared}, evs L.ev as ρ P = some (ps, P') → FrOK g M s.heap env nms ρ → Pre g n A M P s →
    ∀ {Q : List Value → Shared → Prop}, (∀ vs s', Ext (XR g P) s s' → Pre g n A M P' s' → FrOK g M s'.heap env nms ρ → RlAll g.ap g.C M s'.heap vs ps → P'.isSome = P.isSome → Q vs s') →
    wpAny (model g.prog g.w) A (spliced (backTo pos (starEach es env))) Q NoE s := by
  induction h with
  | nil =>
    intro ps P P' s e f pr Q k
    cases e
    exact Calls.spliced_nil (k [] s (Ext.refl ..) pr f .nil rfl)
  | cons ha hr ih =>
    intro ps P P' s e f pr Q k
    refine ifS_el e fun v P₁ e₁ e => ifS_el e fun vs P₂ e₂ e => ?_
    · · cases e
        rw [star_cons ha, back_cons]
        refine Calls.spliced_cons (one_ hL ha e₁ sk f pr ok fun v s₁ x₁ pr₁ f₁ r₁ h₁ => ?_)
        exact ih e₂ f₁ pr₁ fun us s₂ x₂ pr₂ f₂ r₂ h₂ => k _ _ (x₁.tr (x₂.xr h₁)) pr₂ f₂ (.cons (r₁.ext x₂ pr₁.x0) r₂) (h₂.trans h₁)
theorem evalArgs_of {f : Value} {pos : Pos} {as : List X} {e : PySem.Expr} {es : List PySem.Expr} (h : CorEs nms g.fname sc as (e :: es)) {Q : Args → Shared → Prop}
    (k : wpAny (model g.prog g.w) A (spliced (backTo pos (starEach (e :: es) env))) (fun vs s' => Q ⟨vs, []⟩ s') NoE s) : wpAny (model g.prog g.w) A (evalArgs f true (backTo pos (starEach (e :: es) env)) []) Q NoE s := by
  cases h with
  | cons ha hr =>
    rw [star_cons ha, back_cons] at k ⊢
    exact Calls.evalArgs_plain k
theorem plain_args {pos : Pos} {as : List X} {es : List PySem.Expr} (h : CorEs nms g.fname sc as es) : (backTo pos (starEach es env)).any (·.1) = false := by
  induction h with
  | nil => rfl
  | cons ha hr ih => rw [star_cons ha, back_cons, List.any_cons, ih]; rfl
theorem call_b1 (hL : EvOK g n L) (ok : g.OK) {N : Str} {id : String} {a : X} {e : PySem.Expr} {p p' : Pos} {x r : PV} (hg : isG sc N = true) (ha : CorE nms g.fname sc a e) (ea : L.ev a ρ P = some (x, P₁)) (sk : ScOK sc env)
    (f : FrOK g M s.heap env nms ρ) (pr : Pre g n A M P s) (hv : GlobV g N (.builtin id)) {X' : X} (hx : freshForm X' = false)
    (k : ∀ v s₁, Pre g n A M P₁ s₁ → Rl g.ap g.C M s₁.heap v x → wpAny (model g.prog g.w) A (call (.builtin id) [v]) (Res g.ap g.C M s₁ r) NoE s₁) :
    wpAny (model g.prog g.w) A (eval (.Call (.Name N p') [e] [] p) env) (PostE g M P P₁ s X' r) NoE s := by
  simp only [isG, Bool.and_eq_true, beq_iff_eq, Bool.not_eq_true'] at hg
  refine wpAny_Call_Name_kw (load_glob ok pr f ((sk N).symm.trans hg.1) hg.2 hv ?_)
  have hs : CorEs nms g.fname sc [a] [e] := .cons ha .nil
  refine Calls.callWith_builtin (plain_args hs) (evalArgs_of hs ?_)
  rw [star_cons ha, back_cons]
  refine Calls.spliced_cons (one_ hL ha ea sk f pr ok fun v s₁ x₁ pr₁ f₁ r₁ h₁ => Calls.spliced_nil ?_)
  exact mono_ (k v s₁ pr₁ r₁) fun w s₂ q => PostE.on pr₁ x₁ h₁ q hx
theorem call_t1 (hL : EvOK g n L) (ok : g.OK) {N : Str} {T : String} {a : X} {e : PySem.Expr} {p p' : Pos} {x r : PV} (hg : isG sc N = true) (ha : CorE nms g.fname sc a e) (ea : L.ev a ρ P = some (x, P₁)) (sk : ScOK sc env)
    (f : FrOK g M s.heap env nms ρ) (pr : Pre g n A M P s) (hv : GlobV g N (.type T)) {X' : X} (hx : freshForm X' = false)
    (k : ∀ v s₁, Pre g n A M P₁ s₁ → Rl g.ap g.C M s₁.heap v x → wpAny (model g.prog g.w) A (call (.type T) [v]) (Res g.ap g.C M s₁ r) NoE s₁) :
    wpAny (model g.prog g.w) A (eval (.Call (.Name N p') [e] [] p) env) (PostE g M P P₁ s X' r) NoE s := by
  simp only [isG, Bool.and_eq_true, beq_iff_eq, Bool.not_eq_true'] at hg
  refine wpAny_Call_Name_kw (load_glob ok pr f ((sk N).symm.trans hg.1) hg.2 hv ?_)
  have hs : CorEs nms g.fname sc [a] [e] := .cons ha .nil
  refine PySem.callWith_type (plain_args hs) (evalArgs_of hs ?_)
  rw [star_cons ha, back_cons]
  refine Calls.spliced_cons (one_ hL ha ea sk f pr ok fun v s₁ x₁ pr₁ f₁ r₁ h₁ => Calls.spliced_nil ?_)
  exact mono_ (k v s₁ pr₁ r₁) fun w s₂ q => PostE.on pr₁ x₁ h₁ q hx
end
end Mine
end
section
open PySem PySem.W PyProof.Rows
set_option Elab.async false
set_option maxRecDepth 100000
namespace Mine
section
variable {M : Model} {A : Around} {E : Value → Shared → Prop} {s : Shared} {env : Env}
theorem isTrue_cmp {l r : PySem.Expr} {op : CmpOp} {pos : Pos} {whole : Sem Value} {Q : Bool → Shared → Prop} (h : wpAny M A (eval (.Compare l [op] [r] pos) env) (fun c s' => wpAny M A (truthy c) Q E s') E s) :
    wpAny M A (isTrue (.Compare l [op] [r] pos) env whole) Q E s := fun Γ p hΓ => by
  have h' := h Γ p hΓ
  simp only [isTrue_Compare1, eval_Compare1, Sem.wp_bind', Sem.wp_holding, Sem.wp_cmd_standAt, Sem.wp_operate] at h' ⊢
  refine Sem.wp_mono M Γ _ (fun a p₁ s₁ h₁ => Sem.wp_mono M Γ _ (fun b _ s₂ h₂ => Sem.wp_mono M Γ _ (fun c p₃ s₃ h₃ => h₃ Γ p₃ hΓ) (fun _ _ _ q => q) _ _ h₂) (fun _ _ _ q => q) _ _ h₁) (fun _ _ _ q => q) _ _ h'
theorem boolOp_two {op : BoolOp} {x y : Sem Value} {pos : Pos} {Q : Value → Shared → Prop} (h : wpAny M A x (fun v s₁ => ∃ b, v = .bool b ∧ match op, b with
      | .And, false => Q v s₁
      | .Or, true => Q v s₁
      | _, _ => wpAny M A y Q E s₁) E s) : wpAny M A (boolOp pos op [x, y]) Q E s := by
  show wpAny M A (x >>= _) Q E s
  refine wpAny_bind (wpAny_mono h (fun v s₁ h₁ => ?_) fun _ _ q => q)
  (refine el11 h₁ ?_; try clear h₁; intro b zq0 h₁; subst zq0)
  refine wpAny_bind (wpAny_standAt (wpAny_bind (wpAny_holding (wpAny_truthy_bool ?_))))
  cases op <;> cases b <;> first | exact wpAny_pure h₁ | exact h₁
end
section
variable {g : G} {n : Nat} {L : Lv} {A : Around} {M : Addr → Prop} {P P' P₁ P₂ : Reg} {s s' : Shared} {env : Env} {nms : List Str} {sc : Sc} {ρ : Vw}
theorem op1_some {a : X} {f : PV → Option PV} {p : PV} (h : op1 L a ρ P f = some (p, P')) : ∃ x, L.ev a ρ P = some (x, P') ∧ f x = some p :=
  ifS_el h fun x P₁ e h => el11 (Option.map_eq_some_iff.mp h) fun r h1 h2 => by cases h2; exact mk11 x e h1
theorem op2_some {a b : X} {f : Reg → PV → PV → Option PV} {p : PV} (h : op2 L a b ρ P f = some (p, P')) : ∃ x P₁ y, L.ev a ρ P = some (x, P₁) ∧ L.ev b ρ P₁ = some (y, P') ∧ f P' x y = some p :=
  ifS_el h fun x P₁ e h => ifS_el h fun y P₂ e₂ h => el11 (Option.map_eq_some_iff.mp h) fun r h1 h2 => by cases h2; exact mk32 x P₁ y e e₂ h1
theorem handed_rl {ap C : Addr} {h : Heap} {v : Value} {p : PV} (r : Rl ap C M h v p) : handedIn v = true := by cases r <;> rfl
theorem prim_at {ap C : Addr} {h : Heap} {v : Value} {l : List PV} {k : Nat} {p : PV} {nm : Str} (r : Rl ap C M h v (.prim l)) (hk : l[k]? = some p) (hn : primNames[k]? = some nm) :
    ∃ a dx od u, v = .ref a ∧ h.get? a = some (instObj C dx) ∧ h.get? dx = some od ∧ lookIn nm od = some (some u) ∧ Rl ap C M h u p := by
  refine el40 r.inv fun a dx od vs z => el04 z fun e _ _ ho z => el02 z fun hd hf hl => ?_
  refine el11 (hl.get hk) fun u h1 h2 => ?_
  refine (mk44 a dx od u e ho hd ?_ h2)
  have e1 : (primNames.map fun n => lookIn n od)[k]? = some (lookIn nm od) := by rw [List.getElem?_map, hn]; rfl
  have e2 : (vs.map fun v => some (some v))[k]? = some (some (some u)) := by rw [List.getElem?_map, h1]; rfl
  rw [hf, e2] at e1
  exact (Option.some.inj e1).symm
noncomputable def SortOK (g : G) (srt : List PV → Option (List PV)) : Prop := ∀ {l r : List PV}, srt l = some r → ∀ {A : Around} {M : Addr → Prop} {s : Shared} {v : Value}, A.handled = none → A.units + 100 < cLine → MA M s.heap → Rl g.ap g.C M s.heap v (.list l) →
  wpAny (model g.prog g.w) A (call (.builtin "sorted") [v]) (Res g.ap g.C M s (.list r)) NoE s
end
end Mine
end
section
open PySem PySem.W PyProof.Rows
set_option Elab.async false
set_option maxRecDepth 100000
namespace Mine
section
variable {g : G} {n : Nat} {L : Lv} {A : Around} {M : Addr → Prop} {P P' P₁ P₂ : Reg} {s s' : Shared} {env : Env} {nms : List Str} {sc : Sc} {ρ : Vw} {srt : List PV → Option (List PV)} {tab : Nat → Option FnD}
theorem PostE.after {x y : X} {p : PV} {v : Value} {s₁ : Shared} (e : Ext (XR g P) s s₁) (hs : P₁.isSome = P.isSome) (q : PostE g M P₁ P' s₁ x p v s') (hx : freshForm y = false) : PostE g M P P' s y p v s' :=
  ⟨e.tr (q.ext.xr hs), q.rl, q.reg, q.same.trans hs, fun h => by rw [hx] at h; cases h⟩
theorem ev_lit (pr : Pre g n A M P s) {v : Value} {p : PV} {x : X} (hx : freshForm x = false) (tk : Nat) (r : Rl g.ap g.C M s.heap v p) : PostE g M P P s x p v { s with toks := tk } :=
  PostE.of_res pr ⟨Ext0.tok s tk, r.ext0 (Ext0.tok s tk)⟩ hx
theorem ev_call (hL : EvOK g n L) (hF : FnOK g n L) (ok : g.OK) {f : Nat} {as : List X} {e : PySem.Expr} {es : List PySem.Expr} {p p' : Pos} {r : PV} (hg : isG sc (g.fname f) = true) (hs : CorEs nms g.fname sc as (e :: es))
    (h : stepEv L srt (.call f as) ρ P = some (r, P')) (sk : ScOK sc env) (fr : FrOK g M s.heap env nms ρ) (pr : Pre g n A M P s) :
    wpAny (model g.prog g.w) A (eval (.Call (.Name (g.fname f) p') (e :: es) [] p) env) (PostE g M P P' s (.call f as) r) NoE s := by
  refine ifS_el h fun vs P₁ ea h => ?_
  · (refine el01 (hF h) ?_; intro zp0 hcall; refine el01 zp0 ?_; clear zp0; intro hv zr1; refine el21 zr1 ?_; clear zr1; intro o fd ho hd)
    simp only [isG, Bool.and_eq_true, beq_iff_eq, Bool.not_eq_true'] at hg
    refine wpAny_Call_Name_kw (load_glob ok pr fr ((sk _).symm.trans hg.1) hg.2 hv ?_)
    refine Calls.callWith_function (o := o) (fd := fd) (evalArgs_of hs (many_ hL ok sk p hs ea fr pr fun us s₁ x₁ pr₁ f₁ r₁ h₁ => ?_))
    refine ⟨⟨pr₁.kb _ _ ho, hd⟩, wpAny_call (codeAny_mono (hcall r₁ pr₁) fun res s₂ q => ?_)⟩
    (refine el14 q ?_; try clear q; intro v zq0 q1 q2 q3 q4; subst zq0)
    exact ⟨x₁.tr (q1.xr h₁), q2, q3, q4.trans h₁, fun h => ff_ h⟩
theorem ev_prim (hL : EvOK g n L) (ok : g.OK) {as : List X} {e : PySem.Expr} {es : List PySem.Expr} {p p' : Pos} {r : PV} (hg : isG sc "Primitive" = true) (hs : CorEs nms g.fname sc as (e :: es))
    (h : stepEv L srt (.prim as) ρ P = some (r, P')) (sk : ScOK sc env) (fr : FrOK g M s.heap env nms ρ) (pr : Pre g (n + 1) A M P s) :
    wpAny (model g.prog g.w) A (eval (.Call (.Name "Primitive" p') (e :: es) [] p) env) (PostE g M P P' s (.prim as) r) NoE s := by
  delta stepEv at h
  refine ifS_el h fun vs P₁ ea h => if_el h fun hl h => ?_
  · · cases h
      simp only [isG, Bool.and_eq_true, beq_iff_eq, Bool.not_eq_true'] at hg
      refine wpAny_Call_Name_kw (load_glob ok pr fr ((sk _).symm.trans hg.1) hg.2 ok.nPrim ?_)
      refine ok.clsCall (plain_args hs) (evalArgs_of hs (many_ hL ok sk p hs ea fr pr.pred fun us s₁ x₁ pr₁ f₁ r₁ h₁ => ?_))
      refine ⟨pr₁.kb, mono_ (ok.make pr.a pr₁.ma pr₁.kb r₁ (by rw [r₁.length, hl])) fun v s₂ q => ?_⟩
      exact PostE.on pr₁ x₁ h₁ q rfl
theorem ev_sorted (hL : EvOK g n L) (ok : g.OK) (hS : SortOK g srt) {a : X} {e : PySem.Expr} {p p' : Pos} {r : PV} (hg : isG sc "sorted" = true) (ha : CorE nms g.fname sc a e)
    (h : stepEv L srt (.sorted a) ρ P = some (r, P')) (sk : ScOK sc env) (fr : FrOK g M s.heap env nms ρ) (pr : Pre g n A M P s) :
    wpAny (model g.prog g.w) A (eval (.Call (.Name "sorted" p') [e] [] p) env) (PostE g M P P' s (.sorted a) r) NoE s := by
  (refine el11 (op1_some h) ?_; intro x ea h)
  revert ea
  refine PV.onL_el h (fun h => ns_ h) fun l h ea => ?_
  (refine el11 (Option.map_eq_some_iff.mp h) ?_; intro m h1 zq0; subst zq0)
  exact call_b1 hL ok hg ha ea sk fr pr ok.nSorted rfl fun v s₁ pr₁ r₁ => hS h1 pr₁.a.1 pr₁.a.room pr₁.ma r₁
theorem getMethod_bi {v : Value} {T : String} {name : Str} {id : String} {a : Addr} {o : Obj} {pl : Sem Bool} {Q : Value × List Value → Shared → Prop} (hv : v = .ref a) (ho : s.heap.get? a = some o) (hc : o.cls = .type T) (hd : o.dict = none)
    (pa : PlainAttrs T) (slot : PySem.Slot T name id) (hty : typeOf (.builtin id) = pure (.type "method_descriptor")) (h : Q (.builtin id, [v]) s) : wpAny (model g.prog g.w) A (getMethod v name pl) Q NoE s := by
  subst hv
  exact PySem.getMethod_builtin (mk11 o ho hc) pa slot hty (fun b e => by cases e; exact (mk11 o ho hd)) h
theorem meth_call {x : Str} {p0 p1 p : Pos} {name : Str} {es : List PySem.Expr} {Q : Value → Shared → Prop} (hline : (p1.endLine == p.line) = true) (hlen : es.length < 20)
    (hpl : (backTo p (starEach es env)).all (fun x => !x.1) = true)
    (h : wpAny (model g.prog g.w) A (eval (.Name x p0) env) (fun ov s₁ => wpAny (model g.prog g.w) A (getMethod ov name (do return (← importBound (.Name x p0) env).getD true)) (fun fx s₂ => wpAny (model g.prog g.w) A (callWith p fx.1 fx.2 (backTo p (starEach es env)) []) Q NoE s₂) NoE s₁) NoE s) :
    wpAny (model g.prog g.w) A (eval (.Call (.Attribute (.Name x p0) name p1) es [] p) env) Q NoE s := by
  rw [arm_eval_Call]
  refine wpAny_bind (wpAny_mono (show wpAny _ A (attributeBase (.Name x p0) name env (eval (.Name x p0) env)) _ NoE s from h) (fun ov s₁ h₁ => ?_) fun _ _ q => q)
  refine wpAny_bind (wpAny_standAt ?_)
  have hform : methodCallForm (es.length + ([] : List Keyword).length) (backTo p (starEach es env)) (backToKw p (keywordEach [] env)) = true := by
    unfold methodCallForm
    rw [hpl]
    exact decide_eq_true (show es.length + 0 + 0 < 30 from Nat.lt_trans hlen (by decide))
  have hpos : methodCallPos true (.Name x p0) env p1 p = pure p := by unfold methodCallPos; simp [hline]
  unfold methodCall
  rw [hform]
  refine wpAny_bind (wpAny_holding (wpAny_mono h₁ (fun fx s₂ h₂ => ?_) fun _ _ q => q))
  obtain ⟨f, first⟩ := fx
  exact wpAny_bind (wpAny_of_eq hpos h₂)
theorem plain_all {pos : Pos} {as : List X} {es : List PySem.Expr} (h : CorEs nms g.fname sc as es) : (backTo pos (starEach es env)).all (fun x => !x.1) = true := by
  induction h with
  | nil => rfl
  | cons ha hr ih => rw [star_cons ha, back_cons, List.all_cons, ih]; rfl
theorem ev_get (hL : EvOK g n L) (ok : g.OK) {i : Nat} {k v : X} {x : Str} {ke ve : PySem.Expr} {p0 p1 p : Pos} {r : PV} (hline : (p1.endLine == p.line) = true) (hi : CorE nms g.fname sc (.var i) (.Name x p0)) (hk : CorE nms g.fname sc k ke) (hv : CorE nms g.fname sc v ve)
    (h : stepEv L srt (.get (.var i) k v) ρ P = some (r, P')) (sk : ScOK sc env) (fr : FrOK g M s.heap env nms ρ) (pr : Pre g n A M P s) :
    wpAny (model g.prog g.w) A (eval (.Call (.Attribute (.Name x p0) "get" p1) [ke, ve] [] p) env) (PostE g M P P' s (.get (.var i) k v) r) NoE s := by
  delta stepEv at h
  refine ifS_el h fun d P₁ e1 h => ifS_el h fun kv P₃ e2 h => ifS_el h fun vv P₅ e3 h => ?_
  refine el11 (Option.map_eq_some_iff.mp h) fun res h1 h2 => ?_
  cases h2
  have hs : CorEs nms g.fname sc [k, v] [ke, ve] := .cons hk (.cons hv .nil)
  revert e1
  refine PV.onD_el h1 (fun h => ns_ h) fun dd h1 e1 => ?_
  revert e3
  refine PV.onI_el h1 (fun h => ns_ h) fun j h1 e3 => ?_
  refine el11 (Option.map_eq_some_iff.mp h1) fun key k1 zq => zq ▸ ?_
  refine meth_call hline (by simp) (plain_all hs) (one_ hL hi e1 sk fr pr ok fun dv s₁ x₁ pr₁ f₁ r₁ h₁ => ?_)
  refine el40 r₁.inv fun a o _ _ z => el04 z fun e _ hm ho zz => ?_
  subst e
  refine getMethod_bi rfl ho zz.1.1 zz.1.2.1 PySem.F.plainAttrs_dict PySem.F.slot_dict_get PySem.F.type_dict_get ?_
  clear zz z
  rw [star_cons hk, star_cons hv]
  show wpAny _ _ (callWith p (.builtin "dict.get") [.ref a] [(false, eval ke env), (false, eval ve env)] []) _ _ _
  refine wpAny_dict_get2_heap (knd := dkKind g.prog g.w) (by show A.units + 1 + 8 < cLine; have := pr.a.room; lia) hm ?_
  refine two_ hL hk hv e2 e3 sk f₁ pr₁ ok fun kv' vv' s₂ x₂ pr₂ f₂ rk rv h₂ => ?_
  (refine el12 (rk.key (prog := g.prog) (w := g.w) k1) ?_; intro b zq0 hkey _; subst zq0)
  (refine el12 ((r₁.ext x₂ pr₁.x0).dictAt (prog := g.prog) (w := g.w)) ?_; intro xs hD hX _)
  refine (mk33 b key xs rfl hkey hD ?_)
  refine PostE.on pr₂ (x₁.tr (x₂.xr h₁)) (h₂.trans h₁) ⟨Ext0.tok .., ?_⟩ rfl
  rcases hX.find key with ⟨f1, f2⟩ | ⟨b', j', t', f1, f2⟩
  · rw [f1, f2]; exact rv.ext0 (Ext0.tok ..)
  · rw [f1, f2]; exact .int _ _
end
end Mine
end
section
open PySem PySem.W PyProof.Rows
set_option Elab.async false
set_option maxRecDepth 100000
namespace Mine
section
variable {g : G} {n : Nat} {L : Lv} {A : Around} {M : Addr → Prop} {P P' P₁ P₂ : Reg} {s s' : Shared} {env : Env} {nms : List Str} {sc : Sc} {ρ : Vw} {srt : List PV → Option (List PV)} {tab : Nat → Option FnD}
theorem evs_length {f : X → Vw → Reg → Option (PV × Reg)} : ∀ {l : List X} {P P' : Reg} {vs : List PV}, evs f l ρ P = some (vs, P') → vs.length = l.length
  | [], _, _, _, e => by cases e; rfl
  | x :: l, P, P', vs, e => ifS_el e fun v P₁ e1 e => ifS_el e fun us P₂ e2 e => by
    cases e
    rw [List.length_cons, List.length_cons, evs_length e2]
theorem Pre.none {s₁ : Shared} {a : Addr} (pr : Pre g n A M P s) (ok : g.OK) (x : Ext (XR g P) s s₁) (hs : P₁.isSome = P.isSome) (r : RegOK g.ap g.C g.B s₁.heap P₁) (h : s₁.heap.get? a = Option.none) : s.heap.get? a = Option.none := by
  cases hh : s.heap.get? a with
  | none => rfl
  | some o' =>
    exfalso
    by_cases hx : XR g P a
    · (refine el01 hx ?_; try clear hx; intro hx1 zq0; subst zq0)
      (refine el11 (r.is (hs ▸ hx1)) ?_; intro o' ho' _)
      rw [h] at ho'; cases ho'
    · have := x.keep _ _ hx hh
      rw [h] at this; cases this
theorem ev_bin (hL : EvOK g n L) (ok : g.OK) {op : Nat} {a b : X} {l r : PySem.Expr} {p : Pos} {v : PV} (ha : CorE nms g.fname sc a l) (hb : CorE nms g.fname sc b r)
    (h : stepEv L srt (.bin op a b) ρ P = some (v, P')) (sk : ScOK sc env) (fr : FrOK g M s.heap env nms ρ) (pr : Pre g n A M P s) :
    wpAny (model g.prog g.w) A (eval (.BinOp l (opOf op) r p) env) (PostE g M P P' s (.bin op a b) v) NoE s := by
  (refine el32 (op2_some h) ?_; intro x P₁ y e1 e2 e3)
  exact wpAny_BinOp (two_ hL ha hb e1 e2 sk fr pr ok fun v u s₂ x₂ pr₂ f₂ r1 r2 h₂ => mono_ (op_bin pr₂.ma e3 r1 r2) fun w s₃ q => PostE.on pr₂ x₂ h₂ q rfl)
theorem ev_cmp (hL : EvOK g n L) (ok : g.OK) {op : Nat} {a b : X} {l r : PySem.Expr} {p : Pos} {v : PV} (hm : behindInMarks (cmpOf op) r = false) (ha : CorE nms g.fname sc a l) (hb : CorE nms g.fname sc b r)
    (h : stepEv L srt (.cmp op a b) ρ P = some (v, P')) (sk : ScOK sc env) (fr : FrOK g M s.heap env nms ρ) (pr : Pre g n A M P s) :
    wpAny (model g.prog g.w) A (eval (.Compare l [cmpOf op] [r] p) env) (PostE g M P P' s (.cmp op a b) v) NoE s := by
  (refine el32 (op2_some h) ?_; intro x P₁ y e1 e2 e3)
  (refine el11 (Option.map_eq_some_iff.mp e3) ?_; intro c e4 zq0; subst zq0)
  exact wpAny_Compare1 (two_ hL ha hb e1 e2 sk fr pr ok fun v u s₂ x₂ pr₂ f₂ r1 r2 h₂ => mono_ (op_cmp e4 r1 r2 pr₂.a.room) fun w s₃ q => PostE.on pr₂ x₂ h₂ q.res rfl) hm
theorem ev_isNone (hL : EvOK g n L) (ok : g.OK) {a : X} {l : PySem.Expr} {k : Nat} {p p' : Pos} {v : PV} (ha : CorE nms g.fname sc a l)
    (h : stepEv L srt (.isNone a) ρ P = some (v, P')) (sk : ScOK sc env) (fr : FrOK g M s.heap env nms ρ) (pr : Pre g n A M P s) :
    wpAny (model g.prog g.w) A (eval (.Compare l [.Is] [.Constant .none k p'] p) env) (PostE g M P P' s (.isNone a) v) NoE s := by
  (refine el11 (op1_some h) ?_; intro x e1 e2)
  cases e2
  exact wpAny_Compare1 (one_ hL ha e1 sk fr pr ok fun v s₁ x₁ pr₁ f₁ r₁ h₁ => wpAny_Constant_none (mono_ (op_is r₁) fun w s₂ q => PostE.on pr₁ x₁ h₁ q.res rfl))
theorem ev_notNone (hL : EvOK g n L) (ok : g.OK) {a : X} {l : PySem.Expr} {k : Nat} {p p' : Pos} {v : PV} (ha : CorE nms g.fname sc a l)
    (h : stepEv L srt (.notNone a) ρ P = some (v, P')) (sk : ScOK sc env) (fr : FrOK g M s.heap env nms ρ) (pr : Pre g n A M P s) :
    wpAny (model g.prog g.w) A (eval (.Compare l [.IsNot] [.Constant .none k p'] p) env) (PostE g M P P' s (.notNone a) v) NoE s := by
  (refine el11 (op1_some h) ?_; intro x e1 e2)
  cases e2
  exact wpAny_Compare1 (one_ hL ha e1 sk fr pr ok fun v s₁ x₁ pr₁ f₁ r₁ h₁ => wpAny_Constant_none (mono_ (op_isNot r₁) fun w s₂ q => PostE.on pr₁ x₁ h₁ q.res rfl))
theorem ev_and (hL : EvOK g n L) (ok : g.OK) {a b : X} {l r : PySem.Expr} {p : Pos} {v : PV} (ha : CorE nms g.fname sc a l) (hb : CorE nms g.fname sc b r)
    (h : stepEv L srt (.and a b) ρ P = some (v, P')) (sk : ScOK sc env) (fr : FrOK g M s.heap env nms ρ) (pr : Pre g n A M P s) :
    wpAny (model g.prog g.w) A (eval (.BoolOp .And [l, r] p) env) (PostE g M P P' s (.and a b) v) NoE s := by
  rw [arm_eval_BoolOp]
  delta stepEv at h
  refine boolOp_two (ifS_el h fun x P₁ e1 h => ?_)
  revert e1
  refine PV.onB_el h (fun h => ns_ h) fun c h e1 => ?_
  refine one_ hL ha e1 sk fr pr ok fun w s₁ x₁ pr₁ f₁ r₁ h₁ => r₁.bool_el ?_
  cases c with
  | false => cases h; exact (mk11 false rfl ⟨x₁, .bool _, pr₁.reg, h₁, fun h => ff_ h⟩)
  | true => exact (mk11 true rfl (mono_ (hL hb h sk f₁ pr₁) fun _ _ q => PostE.after x₁ h₁ q rfl))
theorem ev_or (hL : EvOK g n L) (ok : g.OK) {a b : X} {l r : PySem.Expr} {p : Pos} {v : PV} (ha : CorE nms g.fname sc a l) (hb : CorE nms g.fname sc b r)
    (h : stepEv L srt (.or a b) ρ P = some (v, P')) (sk : ScOK sc env) (fr : FrOK g M s.heap env nms ρ) (pr : Pre g n A M P s) :
    wpAny (model g.prog g.w) A (eval (.BoolOp .Or [l, r] p) env) (PostE g M P P' s (.or a b) v) NoE s := by
  rw [arm_eval_BoolOp]
  delta stepEv at h
  refine boolOp_two (ifS_el h fun x P₁ e1 h => ?_)
  revert e1
  refine PV.onB_el h (fun h => ns_ h) fun c h e1 => ?_
  refine one_ hL ha e1 sk fr pr ok fun w s₁ x₁ pr₁ f₁ r₁ h₁ => r₁.bool_el ?_
  cases c with
  | true => cases h; exact (mk11 true rfl ⟨x₁, .bool _, pr₁.reg, h₁, fun h => ff_ h⟩)
  | false => exact (mk11 false rfl (mono_ (hL hb h sk f₁ pr₁) fun _ _ q => PostE.after x₁ h₁ q rfl))
theorem ev_ife (hL : EvOK g n L) (hT : EvTOK g n L) (ok : g.OK) {t a b : X} {te ae be : PySem.Expr} {p : Pos} {v : PV} (ht : CorE nms g.fname sc t te) (ha : CorE nms g.fname sc a ae) (hb : CorE nms g.fname sc b be)
    (h : stepEv L srt (.ife t a b) ρ P = some (v, P')) (sk : ScOK sc env) (fr : FrOK g M s.heap env nms ρ) (pr : Pre g n A M P s) :
    wpAny (model g.prog g.w) A (eval (.IfExp te ae be p) env) (PostE g M P P' s (.ife t a b) v) NoE s := by
  delta stepEv at h
  refine wpAny_IfExp (ifS_el h fun c P₁ e1 h => ?_)
  refine mono_ (hT ht e1 sk fr pr) fun c' s₁ q => ?_
  rw [q.eq]
  cases c with
  | true =>
    rw [if_pos rfl]
    exact mono_ (hL ha h sk (fr.next pr.reg pr.x0 q.ext) (pr.next ok q.ext q.reg q.same)) fun _ _ r => PostE.after q.ext q.same r rfl
  | false =>
    rw [if_neg Bool.false_ne_true]
    exact mono_ (hL hb h sk (fr.next pr.reg pr.x0 q.ext) (pr.next ok q.ext q.reg q.same)) fun _ _ r => PostE.after q.ext q.same r rfl
theorem ev_attr (hL : EvOK g n L) (ok : g.OK) {i j : Nat} {x nm : Str} {p p' : Pos} {v : PV} (hn : primNames[j]? = some nm) (ha : CorE nms g.fname sc (.var i) (.Name x p'))
    (h : stepEv L srt (.attr (.var i) j) ρ P = some (v, P')) (sk : ScOK sc env) (fr : FrOK g M s.heap env nms ρ) (pr : Pre g n A M P s) :
    wpAny (model g.prog g.w) A (eval (.Attribute (.Name x p') nm p) env) (PostE g M P P' s (.attr (.var i) j) v) NoE s := by
  (refine el11 (op1_some h) ?_; intro y e1 e2)
  revert e1
  refine PV.onP_el e2 (fun e => ns_ e) fun l e2 e1 => ?_
  refine Attribute_name (one_ hL ha e1 sk fr pr ok fun o s₁ x₁ pr₁ f₁ r₁ h₁ => ?_)
  · (refine el44 (prim_at r₁ e2 hn) ?_; intro a dx od u zq0 ho hd hl hr; subst zq0)
    refine ok.attr (List.mem_of_getElem? hn) pr₁.kb ho hd hl (handed_rl hr) ?_
    exact PostE.on pr₁ x₁ h₁ ⟨Ext0.tok .., hr.ext0 (Ext0.tok ..)⟩ rfl
theorem ev_sub (hL : EvOK g n L) (ok : g.OK) {a i : X} {ve ie : PySem.Expr} {p : Pos} {v : PV} (hsl : noSlice ie = true) (ha : CorE nms g.fname sc a ve) (hb : CorE nms g.fname sc i ie)
    (h : stepEv L srt (.sub a i) ρ P = some (v, P')) (sk : ScOK sc env) (fr : FrOK g M s.heap env nms ρ) (pr : Pre g n A M P s) :
    wpAny (model g.prog g.w) A (eval (.Subscript ve ie p) env) (PostE g M P P' s (.sub a i) v) NoE s := by
  (refine el32 (op2_some h) ?_; intro x P₁ y e1 e2 e3)
  exact Subscript_ (two_ hL ha hb e1 e2 sk fr pr ok fun v u s₂ x₂ pr₂ f₂ r1 r2 h₂ => mono_ (op_sub hsl e3 r1 r2 pr₂.mb pr₂.reg pr₂.a.room) fun w s₃ q => PostE.on pr₂ x₂ h₂ q rfl)
theorem ev_strAt (hL : EvOK g n L) (ok : g.OK) {cs : List Nat} {i : X} {ie : PySem.Expr} {k : Nat} {p p' : Pos} {v : PV} (hsl : noSlice ie = true) (hb : CorE nms g.fname sc i ie)
    (h : stepEv L srt (.strAt cs i) ρ P = some (v, P')) (sk : ScOK sc env) (fr : FrOK g M s.heap env nms ρ) (pr : Pre g n A M P s) :
    wpAny (model g.prog g.w) A (eval (.Subscript (.Constant (.str (strOf cs)) k p') ie p) env) (PostE g M P P' s (.strAt cs i) v) NoE s := by
  (refine el11 (op1_some h) ?_; intro x e1 e2)
  have e0 : Ext0 s { s with toks := s.toks + 1 } := Ext0.tok ..
  refine Subscript_ (wpAny_Constant_str (one_ hL hb e1 sk (fr.next0 e0) (pr.next0 ok e0) ok fun u s₁ x₁ pr₁ f₁ r₁ h₁ => ?_))
  exact mono_ (op_strAt hsl e2 r₁) fun w s₃ q => PostE.on pr₁ (e0.tr x₁) h₁ q rfl
theorem ev_sliceTo (hL : EvOK g n L) (ok : g.OK) {a u : X} {ve ue : PySem.Expr} {p p' : Pos} {v : PV} (ha : CorE nms g.fname sc a ve) (hb : CorE nms g.fname sc u ue)
    (h : stepEv L srt (.sliceTo a u) ρ P = some (v, P')) (sk : ScOK sc env) (fr : FrOK g M s.heap env nms ρ) (pr : Pre g n A M P s) :
    wpAny (model g.prog g.w) A (eval (.Subscript ve (.Slice none (some ue) none p') p) env) (PostE g M P P' s (.sliceTo a u) v) NoE s := by
  (refine el32 (op2_some h) ?_; intro x P₁ y e1 e2 e3)
  refine Subscript_ (one_ hL ha e1 sk fr pr ok fun o s₁ x₁ pr₁ f₁ r₁ h₁ => wpAny_Slice ?_)
  refine wpAny_pure (one_ hL hb e2 sk f₁ pr₁ ok fun uv s₂ x₂ pr₂ f₂ r₂ h₂ => wpAny_pure ?_)
  have e0 : Ext0 s₂ { s₂ with heap := s₂.heap.push { cls := .type "slice", data := .fields #[.none, uv, .none] } } := Ext0.push s₂ _ _
  have x12 := x₁.tr (x₂.xr h₁)
  have pr₃ := pr₂.next0 ok e0
  refine mono_ (op_sliceTo pr₃.ma e3 ((r₁.ext x₂ pr₁.x0).ext0 e0) (r₂.ext0 e0) (Heap.IsSliceOf.new ..)) fun w s₃ q => ?_
  refine ⟨(x12.tr0 e0).tr0 q.1.1, q.1.2, pr₃.reg.ext0 q.1.1, h₂.trans h₁, fun _ hl => ?_⟩
  have hlist : v.isList = true := by
    refine PV.onL_el (motive := fun _ => v.isList = true) e3 (fun e => ?_) fun l e => PV.onI_el (motive := fun _ => v.isList = true) e (fun e => ns_ e) fun u e => if_el e fun _ e => so_el e rfl
    revert hl
    exact PV.onT_el (motive := fun _ => (v.isList || v.isDict) = true → v.isList = true) e (fun e => ns_ e) fun l e => PV.onI_el (motive := fun _ => (v.isList || v.isDict) = true → v.isList = true) e (fun e => ns_ e) fun u e => if_el e fun _ e => so_el e fun h => ff_ h
  (refine el12 (q.2 hlist) ?_; intro b zq0 hb hown; subst zq0)
  exact (mk12 b rfl (pr.none ok (x12.tr0 e0) (h₂.trans h₁) pr₃.reg hb) hown)
theorem ev_sliceFrom1 (hL : EvOK g n L) (ok : g.OK) {a : X} {ve : PySem.Expr} {k : Nat} {p p' p'' : Pos} {v : PV} (ha : CorE nms g.fname sc a ve)
    (h : stepEv L srt (.sliceFrom1 a) ρ P = some (v, P')) (sk : ScOK sc env) (fr : FrOK g M s.heap env nms ρ) (pr : Pre g n A M P s) :
    wpAny (model g.prog g.w) A (eval (.Subscript ve (.Slice (some (.Constant (.int 1) k p'')) none none p') p) env) (PostE g M P P' s (.sliceFrom1 a) v) NoE s := by
  (refine el11 (op1_some h) ?_; intro x e1 e2)
  refine Subscript_ (one_ hL ha e1 sk fr pr ok fun o s₁ x₁ pr₁ f₁ r₁ h₁ => wpAny_Slice ?_)
  rw [evalPart_some, evalPart_none]
  refine wpAny_Constant_int (wpAny_pure (wpAny_pure ?_))
  have e0 : Ext0 s₁ { s₁ with heap := s₁.heap.push { cls := .type "slice", data := .fields #[.int 1 s₁.toks, .none, .none] }, toks := s₁.toks + 1 } := Ext0.push s₁ _ _
  have pr₃ := pr₁.next0 ok e0
  exact mono_ (op_sliceFrom1 pr₃.ma e2 (r₁.ext0 e0) (Heap.IsSliceOf.new ..)) fun w s₃ q => PostE.on pr₃ (x₁.tr0 e0) h₁ q rfl
theorem ev_tup (hL : EvOK g n L) (ok : g.OK) {l : List X} {es : List PySem.Expr} {k : Nat} {p : Pos} {v : PV} (hs : CorEs nms g.fname sc l es)
    (h : stepEv L srt (.tup l) ρ P = some (v, P')) (sk : ScOK sc env) (fr : FrOK g M s.heap env nms ρ) (pr : Pre g n A M P s) :
    wpAny (model g.prog g.w) A (eval (.Tuple es k p) env) (PostE g M P P' s (.tup l) v) NoE s := by
  delta stepEv at h
  refine if_el h fun hl h => ?_
  · (refine el11 (Option.map_eq_some_iff.mp h) ?_; intro zp0 e1 e2; obtain ⟨vs, P₁⟩ := zp0)
    cases e2
    refine wpAny_Tuple (many_ hL ok sk p hs e1 fr pr fun us s₁ x₁ pr₁ f₁ r₁ h₁ => ⟨?_, ?_⟩)
    · rw [r₁.length, evs_length e1, sizeLine_eq]; lia
    · exact PostE.on pr₁ x₁ h₁ (push_tup pr₁.ma r₁ s₁.toks) rfl
theorem ev_list (hL : EvOK g n L) (ok : g.OK) {l : List X} {es : List PySem.Expr} {p : Pos} {v : PV} (hs : CorEs nms g.fname sc l es)
    (h : stepEv L srt (.list l) ρ P = some (v, P')) (sk : ScOK sc env) (fr : FrOK g M s.heap env nms ρ) (pr : Pre g n A M P s) :
    wpAny (model g.prog g.w) A (eval (.List es p) env) (PostE g M P P' s (.list l) v) NoE s := by
  delta stepEv at h
  refine if_el h fun hl h => ?_
  · (refine el11 (Option.map_eq_some_iff.mp h) ?_; intro zp0 e1 e2; obtain ⟨vs, P₁⟩ := zp0)
    cases e2
    refine wpAny_List (many_ hL ok sk p hs e1 fr pr fun us s₁ x₁ pr₁ f₁ r₁ h₁ => ⟨?_, ?_⟩)
    · rw [r₁.length, evs_length e1, sizeLine_eq]; lia
    · have q := push_list (ap := g.ap) (C := g.C) pr₁.ma r₁ s₁.toks
      refine ⟨x₁.tr0 q.1, q.2, pr₁.reg.ext0 q.1, h₁, fun _ _ => (mk12 _ rfl (pr.none ok x₁ h₁ pr₁.reg (get_size _)) (mk11 _ ⟨0, Heap.get?_push_size _ rfl⟩ ?_))⟩
      simpa using r₁.ext0 q.1
theorem ev_dict0 (ok : g.OK) {p : Pos} {v : PV} (h : stepEv L srt .dict0 ρ P = some (v, P')) (pr : Pre g n A M P s) :
    wpAny (model g.prog g.w) A (eval (.Dict [] [] p) env) (PostE g M P P' s .dict0 v) NoE s := by
  cases h
  refine wpAny_Dict_empty ?_
  have e0 : Ext0 s { s with heap := s.heap.push { cls := .type "dict", data := .dict #[] } } := Ext0.push s _ _
  have ho : (s.heap.push { cls := .type "dict", data := .dict #[] }).get? s.heap.objs.size = some ({ cls := .type "dict", data := .dict #[] } : Obj) := Heap.get?_push_size _ rfl
  have hD : DictAt g.prog g.w g.ap g.C M (s.heap.push { cls := .type "dict", data := .dict #[] }) s.heap.objs.size [] :=
    (mk12 ([]) (mk34 _ (#[]) 0 ho ⟨rfl, rfl, rfl⟩ rfl rfl (mk01 (by simp) List.nodup_nil)) .nil (by simp))
  refine ⟨e0.wk fun _ q => q.elim, DictAt.rl pr.ma.size (pr.notSys ok (get_size _)) hD, pr.reg.ext0 e0, rfl, fun _ _ => (mk12 _ rfl (get_size _) hD)⟩
end
end Mine
end
section
open PySem PySem.W PyProof.Rows
set_option Elab.async false
set_option maxRecDepth 100000
namespace Mine
section
variable {g : G} {n : Nat} {L : Lv} {A : Around} {M : Addr → Prop} {P P' P₁ P₂ : Reg} {s s' : Shared} {env : Env} {nms : List Str} {sc : Sc} {ρ : Vw} {srt : List PV → Option (List PV)} {tab : Nat → Option FnD}
theorem plainT (hL : EvOK g n L) {x : X} {e : PySem.Expr} (hc : CorE nms g.fname sc x e) {b : Bool} (h : L.ev x ρ P = some (.bool b, P')) (sk : ScOK sc env) (fr : FrOK g M s.heap env nms ρ) (pr : Pre g n A M P s)
    (he : isTrue e env (eval e env) = (do let v ← eval e env; standAt e.pos; holding [v] (truthy v))) : wpAny (model g.prog g.w) A (isTrue e env (eval e env)) (PostT g P P' s b) NoE s := by
  refine isTrue_plain (mono_ (hL hc h sk fr pr) fun v s₁ q => ?_) he
  exact q.rl.bool_el (wpAny_truthy_bool ⟨rfl, q.ext, q.reg, q.same⟩)
theorem cmpT (hL : EvOK g n L) {x : X} {l r : PySem.Expr} {op : CmpOp} {p : Pos} (hc : CorE nms g.fname sc x (.Compare l [op] [r] p)) {b : Bool} (h : L.ev x ρ P = some (.bool b, P')) (sk : ScOK sc env) (fr : FrOK g M s.heap env nms ρ) (pr : Pre g n A M P s) :
    wpAny (model g.prog g.w) A (isTrue (.Compare l [op] [r] p) env (eval (.Compare l [op] [r] p) env)) (PostT g P P' s b) NoE s := by
  refine isTrue_cmp (mono_ (hL hc h sk fr pr) fun v s₁ q => ?_)
  exact q.rl.bool_el (wpAny_truthy_bool ⟨rfl, q.ext, q.reg, q.same⟩)
theorem evT_dflt {x : X} {b : Bool} (h : (ifS (L.ev x ρ P) fun p P₁ => p.onB Option.none fun b => some (b, P₁)) = some (b, P')) : L.ev x ρ P = some (.bool b, P') :=
  ifS_el h fun p P₁ e h => PV.onB_el (motive := fun p => L.ev x ρ P = some (p, P₁) → L.ev x ρ P = some (.bool b, P')) h (fun h => ns_ h) (fun c h e => by cases h; exact e) e
theorem PostT.and {s₁ : Shared} {b b' c : Bool} (q : PostT g P P₁ s b c s₁) (r : PostT g P₁ P' s₁ b' b' s') : PostT g P P' s b' b' s' := ⟨rfl, q.ext.tr (r.ext.xr q.same), r.reg, r.same.trans q.same⟩
theorem isTrue_dflt {e : PySem.Expr} (h : dfE e = true) : isTrue e env (eval e env) = (do let v ← eval e env; standAt e.pos; holding [v] (truthy v)) := by
  cases e with
  | UnaryOp o => cases o <;> first | rfl | exact ff_ h
  | _ => first | rfl | exact ff_ h
theorem evT_step (hL : EvOK g n L) (hT : EvTOK g n L) (ok : g.OK) : EvTOK g n (⟨L.ev, stepEvT L, L.ex, L.fn⟩ : Lv) := by
  intro x e sc nms hc ρ P P' b h env A M s sk fr pr
  simp only at h
  have hi := hc.inv
  have hd := evT_dflt (x := x) (L := L) (ρ := ρ) (P := P) (P' := P') (b := b)
  cases x
  case not a =>
    (refine el21 hi ?_; try clear hi; intro l p zq0 ha; subst zq0)
    refine el11 (Option.map_eq_some_iff.mp (show ((L.evT a ρ P).map fun r => (!r.1, r.2)) = some (b, P') from h)) fun z h1 h2 => ?_
    cases h2
    exact isTrue_not (mono_ (hT ha h1 sk fr pr) fun c' s₁ q => ⟨by rw [q.eq], q.ext, q.reg, q.same⟩)
  case and a b' =>
    (refine el32 hi ?_; try clear hi; intro l r p zq0 ha hb; subst zq0)
    refine ifS_el (show (ifS (L.evT a ρ P) fun c P₁ => cond c (L.evT b' ρ P₁) (some (false, P₁))) = some (b, P') from h) fun c P₁ e1 h => ?_
    refine isTrue_and (mono_ (hT ha e1 sk fr pr) fun c' s₁ q => ?_)
    rw [q.eq]
    cases c with
    | false => cases h; exact ⟨rfl, q.ext, q.reg, q.same⟩
    | true =>
      rw [if_pos rfl]
      refine isTrue_and (mono_ (hT hb h sk (fr.next pr.reg pr.x0 q.ext) (pr.next ok q.ext q.reg q.same)) fun c' s₂ r => ?_)
      rw [r.eq]
      have r' : PostT g P₁ P' s₁ b b s₂ := ⟨rfl, r.ext, r.reg, r.same⟩
      cases b
      · exact q.and r'
      · exact isTrue_and_nil (q.and r')
  case or a b' =>
    (refine el32 hi ?_; try clear hi; intro l r p zq0 ha hb; subst zq0)
    refine ifS_el (show (ifS (L.evT a ρ P) fun c P₁ => cond c (some (true, P₁)) (L.evT b' ρ P₁)) = some (b, P') from h) fun c P₁ e1 h => ?_
    refine isTrue_or (mono_ (hT ha e1 sk fr pr) fun c' s₁ q => ?_)
    rw [q.eq]
    cases c with
    | true => cases h; exact ⟨rfl, q.ext, q.reg, q.same⟩
    | false =>
      rw [if_neg Bool.false_ne_true]
      refine isTrue_or (mono_ (hT hb h sk (fr.next pr.reg pr.x0 q.ext) (pr.next ok q.ext q.reg q.same)) fun c' s₂ r => ?_)
      rw [r.eq]
      have r' : PostT g P₁ P' s₁ b b s₂ := ⟨rfl, r.ext, r.reg, r.same⟩
      cases b
      · exact isTrue_or_nil (q.and r')
      · exact q.and r'
  case ife => exact ns_ h
  case cmp op a b' => (refine el31 hi ?_; try clear hi; intro l r p zq0 _; subst zq0); exact cmpT hL hc (hd h) sk fr pr
  case isNone a => (refine el41 hi ?_; try clear hi; intro l k p' p zq0 _; subst zq0); exact cmpT hL hc (hd h) sk fr pr
  case notNone a => (refine el41 hi ?_; try clear hi; intro l k p' p zq0 _; subst zq0); exact cmpT hL hc (hd h) sk fr pr
  all_goals exact plainT hL hc (hd h) sk fr pr (isTrue_dflt hc.dflt)
end
end Mine
end
section
open PySem PySem.W PyProof.Rows
set_option Elab.async false
set_option maxRecDepth 100000
namespace Mine
inductive ItAt (ap C : Addr) (h : Heap) (I : Addr) (M : Addr → Prop) : List PV → Prop
  | list {ax : Addr} {i : Nat} {vs : Array Value} {l : List PV} : h.IsListIter I ax i → h.IsList ax vs → ¬ M ax → RlAll ap C M h (vs.toList.drop i) l → ItAt ap C h I M l
  | tuple {ax : Addr} {i : Nat} {vs : Array Value} {l : List PV} : h.IsTupleIter I ax i → h.IsTuple ax vs → ¬ M ax → RlAll ap C M h (vs.toList.drop i) l → ItAt ap C h I M l
  | range {a n : Nat} : IsRangeIter h I (a : Int) (n : Int) 1 → ItAt ap C h I M ((List.range' a n).map fun (i : Nat) => PV.int (i : Int))
  | dict {d : Addr} {o : Obj} {es : Array DictEntry} {i ep : Nat} {l : List PV} : h.IsKeyIter I d i es.size ep → h.get? d = some o → o.data = .dict es ep → ¬ M d → RlAll ap C M h ((es.toList.map (·.key)).drop i) l → ItAt ap C h I M l
section
variable {ap C : Addr} {M M' : Addr → Prop} {h h' : Heap} {I : Addr} {l : List PV}
theorem ItAt.mono (x : ItAt ap C h I M l) (hI : ∀ o, h.get? I = some o → h'.get? I = some o) (hk : ∀ a o, ¬ M a → h.get? a = some o → h'.get? a = some o) (hM : ∀ a, M' a → M a ∨ h.get? a = none) : ItAt ap C h' I M' l := by
  have nm : ∀ a o, ¬ M a → h.get? a = some o → ¬ M' a := fun a o n e q => (hM a q).elim n fun e' => by rw [e'] at e; cases e
  cases x with
  | list h1 h2 h3 h4 => exact .list (h1.at hI) (h2.at fun o e => hk _ o h3 e) (by (refine el11 h2 ?_; try clear h2; intro o ho _); exact nm _ o h3 ho) (h4.mono hk hM)
  | tuple h1 h2 h3 h4 => exact .tuple (h1.at hI) (h2.at fun o e => hk _ o h3 e) (by (refine el11 h2 ?_; try clear h2; intro o ho _); exact nm _ o h3 ho) (h4.mono hk hM)
  | range h1 => exact .range (hI _ h1)
  | dict h1 h2 h3 h4 h5 => exact .dict (h1.at hI) (hk _ _ h4 h2) h3 (nm _ _ h4 h2) (h5.mono hk hM)
variable {prog : Program} {w : World} {A : Around} {E : Value → Shared → Prop} {s : Shared}
theorem iter_self {Q : Value → Shared → Prop} (x : ItAt ap C s.heap I M l) (hQ : Q (.ref I) s) : wpAny (model prog w) A (pyIter (.ref I)) Q E s := by
  cases x with
  | list h1 => exact wpAny_pyIter_listiter h1 hQ
  | tuple h1 => exact wpAny_pyIter_tupleiter h1 hQ
  | range h1 => exact wpAny_pyIter_rangeiter h1 hQ
  | dict h1 => exact wpAny_pyIter_keyiter h1 hQ
theorem letGo_rangeiter {target : PySem.Expr} {x left step : Int} {v : Value} {Q' : Unit → Shared → Prop} (hit : IsRangeIter s.heap I x left step) (h : Q' () s) :
    wpAny (model prog w) A (letOwnedTupleGo target (.ref I) v) Q' E s := by
  unfold letOwnedTupleGo
  cases target <;> first
    | exact wpAny_pure h
    | (cases v <;> first
        | exact wpAny_pure h
        | (refine wpAny_bind (wpAny_load hit ?_)
           exact wpAny_pure h))
theorem iter_go {target : PySem.Expr} {v : Value} {Q : Unit → Shared → Prop} (x : ItAt ap C s.heap I M l) (hQ : Q () s) : wpAny (model prog w) A (letOwnedTupleGo target (.ref I) v) Q E s := by
  cases x with
  | list h1 => exact letGo_listiter h1 hQ
  | tuple h1 => exact letGo_tupleiter h1 hQ
  | range h1 => exact letGo_rangeiter h1 hQ
  | dict h1 => exact letGo_keyiter h1 hQ
theorem drop_cons {α : Type} {l : List α} {i : Nat} {x : α} {r : List α} (h : l.drop i = x :: r) : l[i]? = some x ∧ l.drop (i + 1) = r := by
  constructor
  · have := List.getElem?_drop (xs := l) (i := i) (j := 0)
    rw [h] at this
    simpa using this.symm
  · rw [← List.drop_drop, h]; rfl
theorem drop_nil {α : Type} {l : List α} {i : Nat} (h : l.drop i = []) : l.length ≤ i := List.drop_eq_nil_iff.mp h
theorem key_next {it d : Addr} {o' : Obj} {es : Array DictEntry} {i ep : Nat} {v : Value} {Q : Option Value → Shared → Prop} (hit : s.heap.IsKeyIter it d i es.size ep) (hod : s.heap.get? d = some o') (hdd : o'.data = .dict es ep)
    (hx : (es.toList.map (·.key))[i]? = some v) (hQ : ∀ h', h'.IsKeyIter it d (i + 1) es.size ep → Heap.SameBut it s.heap h' → Q (some v) { s with heap := h' }) :
    wpAny (model prog w) A (pyNext (.ref it)) Q E s := by
  (refine el12 (id hit) ?_; intro o ho hc hd)
  unfold pyNext
  refine wpAny_bind (wpAny_attempt (wpAny_callSpecial?_slot (name := Str.ofString "__next__") hit.typeIs F.slot_dict_keyiterator_next
    (wpAny_call_entry F.slot_dict_keyiterator_next hit.typeIs F.entry_dict_keyiterator_next ?_ (F.args_dict_keyiterator_next_1 _))))
  refine wpAny_bind (wpAny_pure ?_)
  refine wpAny_bind ?_
  refine wpAny_bind ?_
  refine wpAny_bind (wpAny_typeNameOfWhole_keyiter hit.typeIs (wpAny_pure ?_))
  refine wpAny_bind (wpAny_fieldsOf ho hd ?_)
  have hown : Builtin.Dict_items.ownsTuple "dict_keyiterator" = false := by decide
  simp -iota only [hown, Bool.false_eq_true, if_false]
  show wpAny _ _ (if (Value.ref d == Value.none) = true then _ else _) _ _ s
  rw [if_neg (show ¬ ((Value.ref d == Value.none) = true) from Bool.false_ne_true)]
  refine wpAny_bind (wpAny_pure ?_)
  refine wpAny_bind (wpAny_dictEntries hod hdd ?_)
  rw [if_neg (by simp)]
  refine wpAny_bind (wpAny_pure ?_)
  refine wpAny_bind (wpAny_dictEpoch hod hdd ?_)
  rw [if_neg (by simp)]
  refine wpAny_pure ?_
  rw [List.getElem?_map] at hx
  (refine el11 (Option.map_eq_some_iff.mp hx) ?_; intro e he zq0; subst zq0)
  have hlt' : i < es.size := by
    have := (List.getElem?_eq_some_iff.mp he).1
    simpa using this
  have hes : es[i] = e := by
    rw [Array.getElem?_toList, Array.getElem?_eq_getElem hlt'] at he
    exact Option.some.inj he
  simp only [show ¬ ((i : Int) < 0) from by lia, if_false, Int.toNat_natCast, Array.getElem?_eq_getElem hlt']
  rw [hes]
  refine wpAny_bind ?_
  refine wpAny_bind (wpAny_typeNameOfWhole_keyiter hit.typeIs (wpAny_pure ?_))
  refine wpAny_bind (wpAny_isOneOf_keyiter hit.typeIs ?_)
  show wpAny _ _ (setField (.ref it) 1 (rawInt ((i : Int) + 1)) >>= _) _ _ s
  refine wpAny_bind (wpAny_setField ho hd (by simp) ?_)
  have hit' : (s.heap.update it (Obj.mapFields (·.setIfInBounds 1 (rawInt ((i : Int) + 1))))).IsKeyIter it d (i + 1) es.size ep :=
    (mk12 _ (Heap.get?_update_self _ ho (Obj.isFreed_of_fields (Obj.data_mapFields hd _))) ((Obj.cls_mapFields ..).trans hc) (by rw [Obj.data_mapFields hd]; simp [rawInt]))
  refine wpAny_bind (wpAny_holding ?_)
  refine wpAny_bind (wpAny_isOneOf_keyiter (s := { s with heap := s.heap.update it (Obj.mapFields (·.setIfInBounds 1 (rawInt ((i : Int) + 1)))) }) hit'.typeIs ?_)
  show wpAny _ _ (pure e.key) _ _ _
  exact wpAny_pure (wpAny_pure (mk11 _ rfl (wpAny_pure (hQ _ hit' (Heap.SameBut.update ..)))))
theorem key_end {it d : Addr} {o' : Obj} {es : Array DictEntry} {i ep : Nat} {Q : Option Value → Shared → Prop} (hh : A.handled = none) (hit : s.heap.IsKeyIter it d i es.size ep) (hod : s.heap.get? d = some o') (hdd : o'.data = .dict es ep)
    (hx : es.size ≤ i) (hQ : ∀ h', Heap.ExtBut it s.heap h' → Q none { s with heap := h' }) : wpAny (model prog w) A (pyNext (.ref it)) Q E s := by
  (refine el12 (id hit) ?_; intro o ho hc hd)
  unfold pyNext
  refine wpAny_bind (wpAny_attempt (wpAny_callSpecial?_slot (name := Str.ofString "__next__") hit.typeIs F.slot_dict_keyiterator_next
    (wpAny_call_entry F.slot_dict_keyiterator_next hit.typeIs F.entry_dict_keyiterator_next ?_ (F.args_dict_keyiterator_next_1 _))))
  refine wpAny_bind (wpAny_pure ?_)
  refine wpAny_bind ?_
  refine wpAny_bind ?_
  refine wpAny_bind (wpAny_typeNameOfWhole_keyiter hit.typeIs (wpAny_pure ?_))
  refine wpAny_bind (wpAny_fieldsOf ho hd ?_)
  have hown : Builtin.Dict_items.ownsTuple "dict_keyiterator" = false := by decide
  simp -iota only [hown, Bool.false_eq_true, if_false]
  show wpAny _ _ (if (Value.ref d == Value.none) = true then _ else _) _ _ s
  rw [if_neg (show ¬ ((Value.ref d == Value.none) = true) from Bool.false_ne_true)]
  refine wpAny_bind (wpAny_pure ?_)
  refine wpAny_bind (wpAny_dictEntries hod hdd ?_)
  rw [if_neg (by simp)]
  refine wpAny_bind (wpAny_pure ?_)
  refine wpAny_bind (wpAny_dictEpoch hod hdd ?_)
  rw [if_neg (by simp)]
  refine wpAny_pure ?_
  simp only [show ¬ ((i : Int) < 0) from by lia, if_false, Int.toNat_natCast, Array.getElem?_eq_none hx]
  refine wpAny_bind ?_
  refine wpAny_bind (wpAny_typeNameOfWhole_keyiter hit.typeIs (wpAny_pure ?_))
  show wpAny _ _ (setField (.ref it) 0 .none >>= _) _ _ s
  refine wpAny_bind (wpAny_setField ho hd (by simp) ?_)
  show wpAny _ _ (newExc (.type "StopIteration") [] >>= _) _ _ _
  refine wpAny_bind ?_
  simp only [newExc, newTuple]
  refine wpAny_bind (wpAny_newObj_type ?_ (by size_fits))
  refine wpAny_bind (m := firstArgMember _ _) (wpAny_of_eq (a := Value.none) (by first | rfl | (simp only [firstArgMember]; rfl)) ?_)
  refine wpAny_newObj_type ?_ (by size_fits)
  simp -iota only [raiseNew]
  refine wpAny_bind (wpAny_handled ?_)
  rw [show A.in1.handled = none from hh]
  refine wpAny_bind (wpAny_pure (wpAny_throw ?_))
  refine wpAny_bind (wpAny_isInstance (T := "StopIteration") (b := true) (mk11 _ (Heap.get?_push_size _ rfl) rfl) isSubtype_stop ?_)
  exact wpAny_pure (hQ _ (((Heap.SameBut.update ..).extBut.push _).push _))
theorem iter_next {p : PV} {Q : Option Value → Shared → Prop} (x : ItAt ap C s.heap I M (p :: l)) (hI : M I)
    (hQ : ∀ v s', Ext (fun a => a = I) s s' → Rl ap C M s'.heap v p → ItAt ap C s'.heap I M l → Q (some v) s') : wpAny (model prog w) A (pyNext (.ref I)) Q E s := by
  have nI : ∀ a, ¬ M a → a ≠ I := fun a n e => n (e ▸ hI)
  have kp : ∀ {h' : Heap} {tk : Tok}, Heap.SameBut I s.heap h' → Ext (fun a => a = I) s { s with heap := h', toks := tk } := fun hs => Ext.sameBut s hs
  have hXM : ∀ a, a = I → M a := fun a e => e ▸ hI
  generalize hl : p :: l = L at x
  cases x with
  | @list ax i vs _ h1 h2 h3 h4 =>
    subst hl
    generalize hv : vs.toList.drop i = us at h4
    cases h4 with
    | @cons v _ us _ h4 h5 =>
      (refine el01 (drop_cons hv) ?_; intro e1 e2)
      refine wpAny_pyNext_list_item h1 h2 (x := v) (by rw [← Array.getElem?_toList]; exact e1) fun h' hit' hs' => ?_
      have x := kp (tk := s.toks) hs'
      exact hQ _ _ x (h4.ext x hXM) (.list hit' (h2.at fun o e => hs'.extBut _ o (nI _ h3) e) h3 (e2 ▸ h5.ext x hXM))
  | @tuple ax i vs _ h1 h2 h3 h4 =>
    subst hl
    generalize hv : vs.toList.drop i = us at h4
    cases h4 with
    | @cons v _ us _ h4 h5 =>
      (refine el01 (drop_cons hv) ?_; intro e1 e2)
      refine wpAny_pyNext_tuple_item h1 h2 (x := v) (by rw [← Array.getElem?_toList]; exact e1) fun h' hit' hs' => ?_
      have x := kp (tk := s.toks) hs'
      exact hQ _ _ x (h4.ext x hXM) (.tuple hit' (h2.at fun o e => hs'.extBut _ o (nI _ h3) e) h3 (e2 ▸ h5.ext x hXM))
  | @range a n h1 =>
    cases n with
    | zero => cases hl
    | succ n =>
      rw [List.range'_succ, List.map_cons] at hl
      cases hl
      refine wpAny_pyNext_range_item h1 (by lia) fun h' hit' hs' => ?_
      refine hQ _ _ (kp hs') (.int _ _) (.range ?_)
      have e1 : ((a + 1 : Nat) : Int) = (a : Int) + 1 := by lia
      have e2 : ((n + 1 : Nat) : Int) - 1 = (n : Int) := by lia
      rw [e2] at hit'
      rw [e1]; exact hit'
  | @dict d o es i ep _ h1 h2 h3 h4 h5 =>
    subst hl
    generalize hv : (es.toList.map (·.key)).drop i = us at h5
    cases h5 with
    | @cons v _ us _ h5 h6 =>
      (refine el01 (drop_cons hv) ?_; intro e1 e2)
      refine key_next h1 h2 h3 e1 fun h' hit' hs' => ?_
      have x := kp (tk := s.toks) hs'
      exact hQ _ _ x (h5.ext x hXM) (.dict hit' (hs'.extBut _ _ (nI _ h4) h2) h3 h4 (e2 ▸ h6.ext x hXM))
theorem iter_end {Q : Option Value → Shared → Prop} (hh : A.handled = none) (x : ItAt ap C s.heap I M []) (hQ : ∀ s', Ext (fun a => a = I) s s' → Q none s') : wpAny (model prog w) A (pyNext (.ref I)) Q E s := by
  have kp : ∀ {h' : Heap}, Heap.ExtBut I s.heap h' → Ext (fun a => a = I) s { s with heap := h' } := fun hs => ⟨(mk20 _ _ rfl), fun b o n e => hs b o n e⟩
  generalize hl : ([] : List PV) = L at x
  cases x with
  | @list ax i vs _ h1 h2 h3 h4 =>
    subst hl
    generalize hv : vs.toList.drop i = us at h4
    cases h4
    have := drop_nil hv
    exact wpAny_pyNext_list_end hh h1 h2 (by simp; simpa using this) fun h' he' => hQ _ (kp he')
  | @tuple ax i vs _ h1 h2 h3 h4 =>
    subst hl
    generalize hv : vs.toList.drop i = us at h4
    cases h4
    have := drop_nil hv
    exact wpAny_pyNext_tuple_end hh h1 h2 (by simp; simpa using this) fun h' he' => hQ _ (kp he')
  | @range a n h1 =>
    have : n = 0 := by
      cases n with
      | zero => rfl
      | succ n => rw [List.range'_succ] at hl; cases hl
    subst this
    exact wpAny_pyNext_range_end hh h1 (by lia) fun h' he' => hQ _ (kp he')
  | @dict d o es i ep _ h1 h2 h3 h4 h5 =>
    subst hl
    generalize hv : (es.toList.map (·.key)).drop i = us at h5
    cases h5
    have := drop_nil hv
    exact key_end hh h1 h2 h3 (by simpa using this) fun h' he' => hQ _ (kp he')
end
end Mine
end
section
open PySem PySem.W PyProof.Rows
set_option Elab.async false
set_option maxRecDepth 100000
namespace Mine
section
variable {g : G} {n : Nat} {L : Lv} {A : Around} {M M' : Addr → Prop} {P P' P₁ P₂ : Reg} {s s' s₁ : Shared} {env : Env} {nms : List Str} {sc : Sc} {ρ ρ' : Vw} {srt : List PV → Option (List PV)} {tab : Nat → Option FnD}
noncomputable def SF (h : Heap) (a : Addr) : Prop := ∀ o, h.get? a = some o → (∃ vs k, o.data = .seq vs k) ∨ (∃ vs, o.data = .fields vs)
theorem FrOK.mv {X : Addr → Prop} (f : FrOK g M s.heap env nms ρ) (x : Ext X s s') (hX : ∀ a, X a → M a) (hS : ∀ a, X a → SF s.heap a) (hM : ∀ a, M' a → M a ∨ s.heap.get? a = none) : FrOK g M' s'.heap env nms ρ where
  kind := f.kind
  glob := f.glob
  bu := f.bu
  cells := f.cells
  ns := by
    (refine el11 (f.ns) ?_; intro m hn hm)
    have hno : ∀ a o, s.heap.get? a = some o → (∀ vs k, o.data ≠ .seq vs k) → (∀ vs, o.data ≠ .fields vs) → ¬ X a := fun a o ho h1 h2 q => by
      rcases hS a q o ho with ⟨vs, k, e⟩ | ⟨vs, e⟩
      · exact h1 _ _ e
      · exact h2 _ e
    have hk : ∀ a o, ¬ M a → s.heap.get? a = some o → s'.heap.get? a = some o := fun a o n e => x.keep a o (fun q => n (hX a q)) e
    refine (mk11 m ?_ (fun i y p h1 h2 => ?_))
    · (refine el32 hn ?_; try clear hn; intro o es ep ho hd rest)
      exact (mk32 o es ep (x.keep _ _ (hno _ _ ho (fun vs k => by rw [hd]; simp) fun vs => by rw [hd]; simp) ho) hd rest)
    · (refine el01 (hm i y p h1 h2) ?_; intro k1 k2)
      refine ⟨fun q => ?_, fun q => ?_⟩
      · (refine el11 (k1 q) ?_; intro v e1 e2)
        exact (mk11 v e1 (e2.mono hk hM))
      · (refine el22 (k2 q) ?_; intro c v e1 zp0 e3; refine el11 zp0 ?_; clear zp0; intro o ho hd)
        exact (mk22 c v e1 (mk11 o (x.keep _ _ (hno _ _ ho (fun vs k => by rw [hd]; simp) fun vs => by rw [hd]; simp) ho) hd) (e3.mono hk hM))
theorem FrOK.less (f : FrOK g M s.heap env nms ρ) (h : ∀ i p, lk ρ' i = some p → lk ρ i = some p) : FrOK g M s.heap env nms ρ' where
  kind := f.kind
  glob := f.glob
  bu := f.bu
  cells := f.cells
  ns := by
    (refine el11 (f.ns) ?_; intro m hn hm)
    exact (mk11 m hn (fun i x p h1 h2 => hm i x p h1 (h i p h2)))
theorem RegOK.mv {X : Addr → Prop} (r : RegOK g.ap g.C g.B s.heap P) (x : Ext X s s') (hX : ∀ a, X a → g.B a = none) (ha : P.isSome = true → ¬ X g.ap) : RegOK g.ap g.C g.B s'.heap P := by
  cases P with
  | none => trivial
  | some l =>
    (refine el11 r ?_; try clear r; intro vs zp0 h2; refine el11 zp0 ?_; clear zp0; intro o ho hc)
    exact (mk11 vs (mk11 o (x.keep _ _ (ha rfl) ho) hc) (h2.ext x hX))
theorem Pre.mv {X : Addr → Prop} (pr : Pre g n A M P s) (x : Ext X s s') (hX : ∀ a, X a → g.B a = Option.none) (ha : P.isSome = true → ¬ X g.ap) (hM : ∀ a, M' a → g.B a = Option.none) (hMa : MA M' s'.heap) (hr : P.isSome = true → M' g.ap) : Pre g n A M' P s' where
  a := pr.a
  ma := hMa
  mb := hM
  mr := hr
  reg := pr.reg.mv x hX ha
  kb := fun a o h => x.keep a o (fun q => by rw [hX a q] at h; cases h) (pr.kb a o h)
theorem Pre.free (pr : Pre g n A M P s) {a : Addr} (h : s.heap.get? a = Option.none) : g.B a = Option.none := by
  cases e : g.B a with
  | none => rfl
  | some o => rw [pr.kb a o e] at h; cases h
theorem lk_set {ρ : Vw} {i j : Nat} {p q : PV} (h : lk (ρ.set i (some p)) j = some q) : (j = i ∧ q = p) ∨ (j ≠ i ∧ lk ρ j = some q) := by
  unfold lk at h ⊢
  by_cases e : j = i
  · subst e
    by_cases hl : j < ρ.length
    · simp [List.getD, List.getElem?_set, hl] at h
      exact .inl ⟨rfl, h.symm⟩
    · simp [List.getD, List.getElem?_set, hl] at h
  · refine .inr ⟨e, ?_⟩
    have : ¬ i = j := fun h => e h.symm
    simpa [List.getD, List.getElem?_set, this] using h
theorem lk_hide : ∀ {hide : List Nat} {ρ : Vw} {j : Nat} {q : PV}, lk (hideAll hide ρ) j = some q → j ∉ hide ∧ lk ρ j = some q
  | [], ρ, j, q, h => ⟨by simp, h⟩
  | i :: r, ρ, j, q, h => by
    (refine el01 (lk_hide (hide := r) h) ?_; intro h1 h2)
    unfold lk at h2 ⊢
    by_cases e : j = i
    · subst e
      by_cases hl : j < ρ.length
      · simp [List.getD, List.getElem?_set, hl] at h2
      · simp [List.getD, List.getElem?_set, hl] at h2
    · have : ¬ i = j := fun h => e h.symm
      refine ⟨by simp [e, h1], by simpa [List.getD, List.getElem?_set, this] using h2⟩
theorem FrOK.store {i : Nat} {x : Str} {p : PV} {v : Value} {Q : Unit → Shared → Prop} (f : FrOK g M s.heap env nms ρ) (hL : M env.locals) (hx : nms[i]? = some x) (hk : env.kindOf x = some .local) (rv : Rl g.ap g.C M s.heap v p)
    (hd : ∀ j q, nms[j]? = some x → j ≠ i → lk ρ j = some q → False)
    (h : ∀ s', Ext (fun a => a = env.locals) s s' → (∃ o es ep, s'.heap.get? env.locals = some o ∧ o.data = .dict es ep) → FrOK g M s'.heap env nms (ρ.set i (some p)) → Q () s') : wpAny (model g.prog g.w) A (storeName env x v) Q NoE s := by
  (refine el11 (f.ns) ?_; intro m hn hm)
  refine wpAny_storeName_local hk hn (fun h' hn' hs' => ?_) (by rw [f.kind]; rfl)
  have e : Ext (fun a => a = env.locals) s { s with heap := h', toks := s.toks + 1 } := Ext.sameBut s hs'
  have hX : ∀ a, a = env.locals → M a := fun a q => q ▸ hL
  refine h _ e (by (refine el32 hn' ?_; try clear hn'; intro o es ep ho hd _); exact (mk31 o es ep ho hd)) ⟨f.kind, f.glob, f.bu, f.cells, _, hn', fun j y q h1 h2 => ?_⟩
  rcases lk_set h2 with ⟨rfl, rfl⟩ | ⟨hj, h2⟩
  · have : y = x := by rw [hx] at h1; exact (Option.some.inj h1).symm
    subst this
    refine ⟨fun _ => (mk11 v (if_pos rfl) (rv.ext e hX)), fun q => ?_⟩
    rw [hk] at q; cases q
  · (refine el01 (hm j y q h1 h2) ?_; intro k1 k2)
    refine ⟨fun kk => ?_, fun kk => ?_⟩
    · (refine el11 (k1 kk) ?_; intro u e1 e2)
      refine (mk11 u ?_ (e2.ext e hX))
      rw [if_neg]
      · exact e1
      · rintro rfl
        exact hd j q h1 hj h2
    · (refine el22 (k2 kk) ?_; intro c u e1 zp0 e3; refine el11 zp0 ?_; clear zp0; intro o ho hdd)
      refine (mk22 c u e1 (mk11 o (e.keep _ _ ?_ ho) hdd) (e3.ext e hX))
      rintro rfl
      (refine el32 hn ?_; try clear hn; intro o' es ep ho' hd' _)
      rw [ho] at ho'; cases ho'
      rw [hdd] at hd'; cases hd'
theorem local_of {x : Str} (h : vk (env.kindOf x) = 1) : env.kindOf x = some .local := by
  generalize env.kindOf x = k at h
  cases k with
  | none => exact absurd h (by decide)
  | some k => cases k <;> first | rfl | exact absurd h (by decide)
end
end Mine
end
section
open PySem PySem.W PyProof.Rows
set_option Elab.async false
set_option maxRecDepth 100000
namespace Mine
noncomputable abbrev plus (M : Addr → Prop) (I : Addr) : Addr → Prop := fun a => M a ∨ a = I
section
variable {g : G} {n : Nat} {L : Lv} {A : Around} {M M' : Addr → Prop} {P P' P₁ P₂ : Reg} {s s' s₁ : Shared} {env : Env} {nms : List Str} {sc : Sc} {ρ ρ' ρ₁ : Vw} {srt : List PV → Option (List PV)} {tab : Nat → Option FnD}
theorem ItAt.sf {ap C : Addr} {h : Heap} {I : Addr} {l : List PV} (x : ItAt ap C h I M l) : SF h I ∧ ∃ o, h.get? I = some o := by
  cases x with
  | list h1 => (refine el12 h1 ?_; try clear h1; intro o ho _ hd); exact (mk01 (fun o' ho' => by rw [ho] at ho'; cases ho'; exact .inr ⟨_, hd⟩) (mk10 o ho))
  | tuple h1 => (refine el12 h1 ?_; try clear h1; intro o ho _ hd); exact (mk01 (fun o' ho' => by rw [ho] at ho'; cases ho'; exact .inr ⟨_, hd⟩) (mk10 o ho))
  | range h1 => exact (mk01 (fun o' ho' => by rw [h1] at ho'; cases ho'; exact .inr ⟨_, rfl⟩) (mk10 _ h1))
  | dict h1 => (refine el12 h1 ?_; try clear h1; intro o ho _ hd); exact (mk01 (fun o' ho' => by rw [ho] at ho'; cases ho'; exact .inr ⟨_, hd⟩) (mk10 o ho))
theorem it_fin {items : List PV} {o : Obj} {tk : Tok} {Q : Value → Shared → Prop} (ok : g.OK) (pr : Pre g n A M P s) (x₁ : Ext (XR g P) s s₁) (pr₁ : Pre g n A M P₁ s₁) (h₁ : P₁.isSome = P.isSome)
    (hit : ItAt g.ap g.C (s₁.heap.push o) s₁.heap.objs.size (plus M s₁.heap.objs.size) items)
    (K : ∀ I s₂, Ext (XR g P) s s₂ → Pre g n A (plus M I) P₁ s₂ → P₁.isSome = P.isSome → s.heap.get? I = none → ItAt g.ap g.C s₂.heap I (plus M I) items → Q (.ref I) s₂) :
    Q (.ref s₁.heap.objs.size) { s₁ with heap := s₁.heap.push o, toks := tk } := by
  have e0 : Ext0 s₁ { s₁ with heap := s₁.heap.push o, toks := tk } := Ext0.push s₁ o tk
  have hf := get_size s₁.heap
  have hfr := pr₁.free hf
  refine K _ _ (x₁.tr0 e0) (pr₁.mv e0 (fun _ q => q.elim) (fun _ q => q) ?_ ?_ fun q => .inl (pr₁.mr q)) h₁ (pr.none ok x₁ h₁ pr₁.reg hf) hit
  · rintro a (q | rfl)
    · exact pr₁.mb a q
    · exact hfr
  · rintro a (q | rfl)
    · (refine el10 (pr₁.ma a q) ?_; intro o' ho')
      exact ⟨o', e0.all _ _ ho'⟩
    · exact hit.sf.2
theorem it_val {src : PV} {items : List PV} {v : Value} {Q : Value → Shared → Prop} (ok : g.OK) (hi : iterItems .val src = some items) (pr : Pre g n A M P s) (x₁ : Ext (XR g P) s s₁) (pr₁ : Pre g n A M P₁ s₁) (h₁ : P₁.isSome = P.isSome)
    (rv : Rl g.ap g.C M s₁.heap v src)
    (K : ∀ I s₂, Ext (XR g P) s s₂ → Pre g n A (plus M I) P₁ s₂ → P₁.isSome = P.isSome → s.heap.get? I = none → ItAt g.ap g.C s₂.heap I (plus M I) items → Q (.ref I) s₂) : wpAny (model g.prog g.w) A (pyIter v) Q NoE s₁ := by
  have hM : ∀ a, plus M s₁.heap.objs.size a → M a ∨ s₁.heap.get? a = none := by
    rintro a (q | rfl)
    · exact .inl q
    · exact .inr (get_size _)
  have hk : ∀ (o : Obj), ∀ a o', ¬ M a → s₁.heap.get? a = some o' → (s₁.heap.push o).get? a = some o' := fun o a o' _ e => Heap.get?_push_of_some _ e
  have nm : ∀ a o, ¬ M a → s₁.heap.get? a = some o → ¬ plus M s₁.heap.objs.size a := fun a o n e q => (hM a q).elim n fun e' => by rw [e'] at e; cases e
  revert rv
  refine PV.onT_el hi (fun hi => ?_) fun l hi rv => rv.tup_el fun a vs ha ho hl => ?_
  rotate_left
  · cases hi
    refine wpAny_pyIter_tuple ho (it_fin (tk := s₁.toks) ok pr x₁ pr₁ h₁ (.tuple (i := 0) (mk12 _ (Heap.get?_push_size _ rfl) rfl rfl) (IsTuple_at ho fun o e => Heap.get?_push_of_some _ e) (by (refine el11 ho ?_; try clear ho; intro o ho _); exact nm _ o ha ho) ?_) K)
    rw [List.drop_zero]; exact hl.mono (hk _) hM
  refine PV.onL_el hi (fun hi => ?_) fun l hi rv => rv.list_el fun a vs ha ho hl => ?_
  rotate_left
  · cases hi
    refine wpAny_pyIter_list ho (it_fin (tk := s₁.toks) ok pr x₁ pr₁ h₁ (.list (i := 0) (mk12 _ (Heap.get?_push_size _ rfl) rfl rfl) (ho.at fun o e => Heap.get?_push_of_some _ e) (by (refine el11 ho ?_; try clear ho; intro o ho _); exact nm _ o ha ho) ?_) K)
    rw [List.drop_zero]; exact hl.mono (hk _) hM
  refine PV.onD_el hi (fun h => ns_ h) fun d hi rv => ?_
  refine el40 rv.inv fun a o es ep z => el04 z fun e ha hm ho z => el04 z fun hx hd hh h1 _ => ?_
  cases hi
  rw [e]
  have hT : s₁.TypeIs (.ref a) "dict" := (mk11 o ho hx.1)
  refine wpAny_pyIter_slot hT F.slot_dict_iter (wpAny_call_entry F.slot_dict_iter hT F.entry_dict_iter ?_ (F.args_dict_iter_1 _))
  unfold Builtin.«dict.__iter__»
  refine wpAny_bind ?_
  unfold Builtin.Dict.dictSlotNone
  refine wpAny_bind (wpAny_notOrdered_dict hT ?_)
  show wpAny _ _ (pure (Value.ref a)) _ _ s₁
  refine wpAny_pure ?_
  show wpAny _ _ (Builtin.Dict.showsAll a >>= _) _ _ s₁
  unfold Builtin.Dict.showsAll
  rw [if_neg (by rw [hm]; exact Bool.false_ne_true)]
  refine wpAny_bind (wpAny_pure ?_)
  refine wpAny_bind (wpAny_dictEntries ho hd ?_)
  refine wpAny_bind (wpAny_dictEpoch ho hd ?_)
  refine wpAny_bind (wpAny_newObj_type (wpAny_pure (mk11 _ rfl (mk22 ("dict_keyiterator") _ (mk11 _ (Heap.get?_push_size _ rfl) rfl) F.slot_dict_keyiterator_next.lookup ?_))))
  refine it_fin (tk := s₁.toks) ok pr x₁ pr₁ h₁ (.dict (i := 0) (ep := ep) (es := es) (mk12 _ (Heap.get?_push_size _ rfl) rfl ?_) (Heap.get?_push_of_some _ ho) hd (nm _ o ha ho) ?_) K
  · simp [rawInt]
  · rw [List.drop_zero]
    have : d.map (fun x => encK x.1) = List.map (fun x => encK x.1) d := rfl
    exact h1.mono (hk _) hM
theorem rangeV_eq (n : Nat) : rangeV n = (List.range' 0 n).map fun (i : Nat) => PV.int (i : Int) := by rw [rangeV, List.range_eq_range']
theorem it_start (hL : EvOK g n L) (ok : g.OK) {k : IT} {a : X} {ie : PySem.Expr} {src : PV} {items : List PV} (hc : CorIt nms g.fname sc k a ie) (ea : L.ev a ρ P = some (src, P₁)) (hi : iterItems k src = some items) (sk : ScOK sc env)
    (f : FrOK g M s.heap env nms ρ) (pr : Pre g n A M P s) {Q : Value → Shared → Prop}
    (K : ∀ I s₂, Ext (XR g P) s s₂ → Pre g n A (plus M I) P₁ s₂ → P₁.isSome = P.isSome → s.heap.get? I = none → ItAt g.ap g.C s₂.heap I (plus M I) items → Q (.ref I) s₂) :
    wpAny (model g.prog g.w) A (eval ie env) (fun xv s₁ => wpAny (model g.prog g.w) A (pyIter xv) Q NoE s₁) NoE s := by
  cases k with
  | val => exact one_ hL hc ea sk f pr ok fun v s₁ x₁ pr₁ f₁ r₁ h₁ => it_val ok hi pr x₁ pr₁ h₁ r₁ K
  | rng =>
    (refine el32 hc ?_; try clear hc; intro e p p' zq0 hg ha; subst zq0)
    simp only [isG, Bool.and_eq_true, beq_iff_eq, Bool.not_eq_true'] at hg
    refine wpAny_Call_Name_kw (load_glob ok pr f ((sk _).symm.trans hg.1) hg.2 ok.nRange ?_)
    have hs : CorEs nms g.fname sc [a] [e] := .cons ha .nil
    refine PySem.callWith_type (plain_args hs) (evalArgs_of hs ?_)
    rw [star_cons ha, back_cons]
    refine Calls.spliced_cons (one_ hL ha ea sk f pr ok fun v s₁ x₁ pr₁ f₁ r₁ h₁ => Calls.spliced_nil ?_)
    have : ∃ N : Int, src = .int N ∧ (0 ≤ N ∧ N ≤ 65536) ∧ items = rangeV N.toNat :=
      PV.onI_el (motive := fun src => ∃ N : Int, src = .int N ∧ (0 ≤ N ∧ N ≤ 65536) ∧ items = rangeV N.toNat) hi (fun h => ns_ h) fun N h => if_el h fun hc h => mk12 N rfl hc (Option.some.inj h).symm
    (refine el12 this ?_; try clear this; intro N zq0 hN zq1; subst zq0; subst zq1)
    cases r₁
    rename_i t
    refine call_range_1 ?_
    refine wpAny_pyIter_range (IsRange.new ..) (small_one (by decide) (by decide) (by lia) (by lia)) ?_
    have e0 : Ext0 s₁ { s₁ with heap := s₁.heap.push { cls := .type "range", data := .fields #[.int 0 s₁.toks, .int N t, .int 1 (s₁.toks + 1)] }, toks := s₁.toks + 1 + 1 } := Ext0.push s₁ _ _
    refine it_fin ok pr (x₁.tr0 e0) (pr₁.next0 ok e0) h₁ ?_ K
    have hsz : Builtin.Range.rangeSize 0 N 1 = (N.toNat : Int) := by rw [rangeSize_one]; split <;> lia
    rw [rangeV_eq, hsz]
    exact .range (Heap.get?_push_size _ rfl)
end
end Mine
end
section
open PySem PySem.W PyProof.Rows
set_option Elab.async false
set_option maxRecDepth 100000
namespace Mine
section
variable {g : G} {n : Nat} {L : Lv} {A : Around} {M M' : Addr → Prop} {P P' P₁ P₂ : Reg} {s s' s₁ : Shared} {env : Env} {nms : List Str} {sc csc : Sc} {ρ ρ' ρ₁ : Vw}
theorem Pre.upd {X : Addr → Prop} (pr : Pre g n A M P s) (x : Ext X s s') (hX : ∀ a, X a → M a) (he : ∀ a, X a → ∃ o, s'.heap.get? a = some o) (ha : P.isSome = true → ¬ X g.ap) : Pre g n A M P s' :=
  pr.mv x (fun a q => pr.mb a (hX a q)) ha pr.mb (fun a q => by
    by_cases h : X a
    · exact he a h
    · (refine el10 (pr.ma a q) ?_; intro o ho)
      exact ⟨o, x.keep a o h ho⟩) pr.mr
theorem closure_of (hc : ∀ x ∈ csc, x.2 = .free → ∃ c, env.cells.lookup x.1 = some c) {scope : Scope} (hn : scope.names = csc) :
    ∃ cl, closureFor scope env = pure cl ∧ ∀ x, (x, NameKind.free) ∈ csc → cl.lookup x = env.cells.lookup x := by
  have key : ∀ (l : Sc) (init : List (Str × Addr)), (∀ x ∈ l, x.2 = .free → ∃ c, env.cells.lookup x.1 = some c) →
      ∃ cl, (forIn l init (fun (x : Str × NameKind) (cs : List (Str × Addr)) => (if (x.2 == NameKind.free) = true then (do let c ← cellOf env x.1; pure (ForInStep.yield ((x.1, c) :: cs))) else pure (ForInStep.yield cs) : Sem _)) = (pure cl : Sem _)) ∧
        ∀ x, ((x, NameKind.free) ∈ l ∨ init.lookup x = env.cells.lookup x) → cl.lookup x = env.cells.lookup x := by
    intro l
    induction l with
    | nil => intro init _; exact (mk11 init rfl (fun x h => by simpa using h))
    | cons y l ih =>
      intro init h
      obtain ⟨nm, k⟩ := y
      rw [List.forIn_cons]
      by_cases hk : k = .free
      · subst hk
        (refine el10 (h _ (.head _) rfl) ?_; intro c hc)
        have e1 : cellOf env nm = pure c := by unfold cellOf; rw [hc]
        (refine el11 (ih ((nm, c) :: init) fun x hx => h x (.tail _ hx)) ?_; intro cl h1 h2)
        refine (mk11 cl ?_ (fun x hx => h2 x ?_))
        · simp only [beq_self_eq_true, if_true, e1, pure_bind]
          exact h1
        · rcases hx with hx | hx
          · rcases List.mem_cons.mp hx with e | hx
            · cases e
              right
              rw [List.lookup_cons, beq_self_eq_true]; exact hc.symm
            · exact .inl hx
          · right
            rw [List.lookup_cons]
            by_cases e : x = nm
            · subst e; rw [beq_self_eq_true]; exact hc.symm
            · rw [beq_eq_false_iff_ne.mpr e]; exact hx
      · have hb : (k == NameKind.free) = false := beq_eq_false_iff_ne.mpr hk
        (refine el11 (ih init fun x hx => h x (.tail _ hx)) ?_; intro cl h1 h2)
        refine (mk11 cl ?_ (fun x hx => h2 x ?_))
        · simp only [hb, Bool.false_eq_true, if_false, pure_bind]
          exact h1
        · rcases hx with hx | hx
          · rcases List.mem_cons.mp hx with e | hx
            · cases e; exact absurd rfl hk
            · exact .inl hx
          · exact .inr hx
  subst hn
  (refine el11 (key scope.names [] hc) ?_; intro cl h1 h2)
  refine (mk11 cl ?_ (fun x hx => h2 x (.inl hx)))
  unfold closureFor
  have : ∀ (l : Sc) (init : List (Str × Addr)), (forIn l init (fun (x : Str × NameKind) (cs : List (Str × Addr)) => (if (x.2 == NameKind.free) = true then (do let c ← cellOf env x.1; pure (ForInStep.yield ((x.1, c) :: cs))) else pure (ForInStep.yield cs) : Sem _))) =
      (forIn l init (fun (x : Str × NameKind) (cs : List (Str × Addr)) => (match x with | (name, kind) => if (kind == NameKind.free) = true then (do let c ← cellOf env name; pure (ForInStep.yield ((name, c) :: cs))) else pure (ForInStep.yield cs) : Sem _))) := fun l init => rfl
  first
    | exact (congrArg (fun t => t >>= pure) h1).trans (pure_bind ..)
    | exact h1
theorem mem_lookup {x : Str} {k : NameKind} : ∀ {l : Sc}, l.lookup x = some k → (x, k) ∈ l
  | [], h => by simp at h
  | (y, j) :: l, h => by
    rw [List.lookup_cons] at h
    by_cases e : x = y
    · subst e; rw [beq_self_eq_true] at h; cases h; exact .head _
    · rw [beq_eq_false_iff_ne.mpr e] at h; exact .tail _ (mem_lookup h)
theorem vk_relabel (scope : Scope) (env : Env) (x : Str) : vk (scope.names.lookup x) = vk ((relabel scope env).names.lookup x) := by
  unfold relabel
  simp only
  generalize scope.names = l
  induction l with
  | nil => rfl
  | cons y l ih =>
    obtain ⟨nm, k⟩ := y
    rw [List.map_cons]
    simp only
    by_cases hc : (k == NameKind.free && env.scope.kind == .function && env.kindOf nm == some .cell) = true
    · rw [if_pos hc, List.lookup_cons, List.lookup_cons]
      by_cases e : x = nm
      · subst e
        rw [beq_self_eq_true]
        simp only [Bool.and_eq_true, beq_iff_eq] at hc
        rw [hc.1.1]; rfl
      · rw [beq_eq_false_iff_ne.mpr e]; exact ih
    · rw [if_neg hc, List.lookup_cons, List.lookup_cons]
      by_cases e : x = nm
      · subst e; rw [beq_self_eq_true]
      · rw [beq_eq_false_iff_ne.mpr e]; exact ih
theorem scopeOk_at (h : scopeOk sc csc = true) {x : Str} {k : NameKind} (hm : (x, k) ∈ csc) : (k = .local ∨ k = .free ∨ k = .globalImplicit) ∧ vk (csc.lookup x) = vk (some k) ∧ (k = .free → vk (sc.lookup x) = 2) := by
  have := List.all_eq_true.mp h _ hm
  simp only [Bool.and_eq_true, Bool.or_eq_true, beq_iff_eq, Bool.not_eq_true', beq_eq_false_iff_ne] at this
  (refine el01 this ?_; try clear this; intro zp0 h3; refine el01 zp0 ?_; clear zp0; intro h1 h2)
  refine ⟨by rcases h1 with (h1 | h1) | h1 <;> simp [h1], h2, fun e => ?_⟩
  rcases h3 with h3 | h3
  · exact absurd e h3
  · exact h3
theorem comp_env {scope : Scope} {hide : List Nat} {h : Heap} (hkind : scope.kind = .function) (hs : scopeOk sc scope.names = true) (hh : hideOk nms scope.names hide = true) (sk : ScOK sc env) (f : FrOK g M h env nms ρ) :
    ∃ cl, closureFor scope env = pure cl ∧ ∀ C, ScOK scope.names (compEnvC scope cl C env) ∧ ∀ {M : Addr → Prop} {h : Heap} {m : Str → Option Value}, FrOK g M h env nms ρ → h.Ns C m → FrOK g M h (compEnvC scope cl C env) nms (hideAll hide ρ) := by
  (refine el11 (closure_of (csc := scope.names) (env := env) (fun x hx e => by
    obtain ⟨nm, k⟩ := x
    cases e
    have := (scopeOk_at hs hx).2.2 rfl
    exact f.cells nm ((sk nm).symm.trans this)) rfl) ?_; intro cl h1 h2)
  refine (mk11 cl h1 (fun C => ⟨fun x => vk_relabel scope env x, fun {M h m} f hn => ⟨hkind, f.glob, f.bu, fun x hx => ?_, m, hn, fun i x p e1 e2 => ?_⟩⟩))
  · have hx' : vk (scope.names.lookup x) = 2 := (vk_relabel scope env x).trans hx
    cases hl : scope.names.lookup x with
    | none => rw [hl] at hx'; cases hx'
    | some k =>
      have hm := mem_lookup hl
      (refine el02 (scopeOk_at hs hm) ?_; intro h3 h4 h5)
      rw [hl] at hx'
      have hk : k = .free := by rcases h3 with rfl | rfl | rfl <;> first | rfl | cases hx'
      subst hk
      (refine el10 (f.cells x ((sk x).symm.trans (h5 rfl))) ?_; intro c hc)
      exact ⟨c, (h2 x hm).trans hc⟩
  · (refine el01 (lk_hide e2) ?_; intro k1 k2)
    have hi : i < nms.length := (List.getElem?_eq_some_iff.mp e1).1
    have := List.all_eq_true.mp hh i (List.mem_range.mpr hi)
    rw [e1] at this
    simp only [Bool.or_eq_true, Bool.not_eq_true', beq_eq_false_iff_ne, List.contains_iff_mem] at this
    refine ⟨fun q => ?_, fun q => ?_⟩
    · exact (this.elim (fun e => e ((vk_relabel scope env x).trans q)) k1).elim
    · have hx' : vk (scope.names.lookup x) = 2 := (vk_relabel scope env x).trans q
      cases hl : scope.names.lookup x with
      | none => rw [hl] at hx'; cases hx'
      | some k =>
        have hm := mem_lookup hl
        (refine el02 (scopeOk_at hs hm) ?_; intro h3 h4 h5)
        rw [hl] at hx'
        have hk : k = .free := by rcases h3 with rfl | rfl | rfl <;> first | rfl | cases hx'
        subst hk
        (refine el11 (f.ns) ?_; intro m' hn' hm')
        (refine el22 ((hm' i x p e1 k2).2 ((sk x).symm.trans (h5 rfl))) ?_; intro c v q1 q2 q3)
        exact (mk22 c v ((h2 x hm).trans q1) q2 q3)
theorem Ext0.fresh {a : Addr} {h : Heap} {tk : Tok} (s : Shared) (ha : s.heap.get? a = none) (hs : Heap.ExtBut a s.heap h) : Ext0 s { s with heap := h, toks := tk } :=
  ⟨(mk20 _ _ rfl), fun b o _ e => hs b o (fun q => by rw [q, ha] at e; cases e) e⟩
structure CK (g : G) (N : Addr → Prop) (D : Addr) (cenv : Env) (csc : Sc) (nms : List Str) (ρ : Vw) : Prop where
  nC : N cenv.locals
  nD : N D
  ne : D ≠ cenv.locals
  sk : ScOK csc cenv
  hid : ∀ i x, nms[i]? = some x → vk (csc.lookup x) = 1 → lk ρ i = none
structure CS (g : G) (n : Nat) (A : Around) (N : Addr → Prop) (D : Addr) (cenv : Env) (nms : List Str) (ρ : Vw) (P : Reg) (acc : List PV) (s : Shared) : Prop where
  pr : Pre g n A N P s
  fr : FrOK g N s.heap cenv nms ρ
  dap : P.isSome = true → D ≠ g.ap
  acc : ∃ vs, s.heap.PlainList D vs ∧ RlAll g.ap g.C N s.heap vs.toList acc
noncomputable def XS (g : G) (P : Reg) (C D : Addr) : Addr → Prop := fun a => XR g P a ∨ a = C ∨ a = D
theorem FrOK.ne_ap {h : Heap} (f : FrOK g M h env nms ρ) (r : RegOK g.ap g.C g.B h P) (hP : P.isSome = true) : env.locals ≠ g.ap := by
  (refine el11 (r.is hP) ?_; intro o ho zr0; refine el20 zr0 ?_; clear zr0; intro vs k hd)
  (refine el11 (f.ns) ?_; intro m zp0 _; refine el32 zp0 ?_; clear zp0; intro o' es ep ho' hd' _)
  intro e
  rw [e, ho] at ho'; cases ho'
  rw [hd] at hd'; cases hd'
theorem IsList_plain {h : Heap} {a : Addr} {vs : Array Value} (x : h.PlainList a vs) : ∃ o, h.get? a = some o ∧ ∃ vs k, o.data = .seq vs k := by (refine el10 x ?_; try clear x; intro k e); exact (mk11 _ e (mk20 vs k rfl))
variable {N : Addr → Prop} {D : Addr} {cenv : Env} {acc : List PV}
theorem CS.ev (c : CS g n A N D cenv nms ρ P acc s) (ok : g.OK) (e : Ext (XR g P) s s') (r : RegOK g.ap g.C g.B s'.heap P') (hs : P'.isSome = P.isSome) : CS g n A N D cenv nms ρ P' acc s' where
  pr := c.pr.next ok e r hs
  fr := c.fr.next c.pr.reg c.pr.x0 e
  dap := fun h => c.dap (hs ▸ h)
  acc := by
    (refine el11 (c.acc) ?_; intro vs h1 h2)
    refine (mk11 vs (h1.at fun o ho => e.keep _ _ (fun q => ?_) ho) (h2.ext e c.pr.x0))
    exact c.dap q.1 q.2
theorem CS.less {ρ' : Vw} (c : CS g n A N D cenv nms ρ P acc s) (h : ∀ i p, lk ρ' i = some p → lk ρ i = some p) : CS g n A N D cenv nms ρ' P acc s := ⟨c.pr, c.fr.less h, c.dap, c.acc⟩
theorem CS.store {i : Nat} {x : Str} {p : PV} {v : Value} {Q : Unit → Shared → Prop} (c : CS g n A N D cenv nms ρ P acc s) (k : CK g N D cenv csc nms ρ') (hx : nms[i]? = some x) (hk : vk (csc.lookup x) = 1) (rv : Rl g.ap g.C N s.heap v p)
    (hd : ∀ j q, nms[j]? = some x → j ≠ i → lk ρ j = some q → False) (h : ∀ s', Ext (fun a => a = cenv.locals) s s' → CS g n A N D cenv nms (ρ.set i (some p)) P acc s' → Q () s') :
    wpAny (model g.prog g.w) A (storeName cenv x v) Q NoE s := by
  refine c.fr.store k.nC hx (local_of ((k.sk x).symm.trans hk)) rv hd fun s' e hns f => h s' e ?_
  (refine el31 hns ?_; try clear hns; intro o es ep ho _)
  refine ⟨c.pr.upd e (fun a q => q ▸ k.nC) (fun a q => ⟨o, q ▸ ho⟩) (fun hP q => c.fr.ne_ap c.pr.reg hP q.symm), f, c.dap, ?_⟩
  (refine el11 (c.acc) ?_; intro vs h1 h2)
  exact (mk11 vs (h1.at fun o ho => e.keep _ _ k.ne ho) (h2.ext e fun a q => q ▸ k.nC))
theorem CS.append {p : PV} {v : Value} {Q : Value → Shared → Prop} (c : CS g n A N D cenv nms ρ P acc s) (k : CK g N D cenv csc nms ρ') (rv : Rl g.ap g.C N s.heap v p) (hz : acc.length < 65536)
    (h : ∀ s', Ext (fun a => a = D) s s' → CS g n A N D cenv nms ρ P (acc ++ [p]) s' → Q .none s') : wpAny (model g.prog g.w) A (call (.builtin "list.append") [.ref D, v]) Q NoE s := by
  (refine el11 (c.acc) ?_; intro vs h1 h2)
  have hz' : vs.size < 65536 := by have := h2.length; rw [Array.length_toList] at this; lia
  refine wpAny_list_append_plain h1 (fun h' hp hs => ?_) (by rw [sizeLine_eq]; lia)
  have e : Ext (fun a => a = D) s { s with heap := h' } := Ext.sameBut (tk := s.toks) s hs
  have hX : ∀ a, a = D → N a := fun a q => q ▸ k.nD
  (refine el11 (IsList_plain h1) ?_; intro o ho zr0; refine el20 zr0 ?_; clear zr0; intro vs' kk hd)
  (refine el11 (IsList_plain hp) ?_; intro o' ho' _)
  refine h _ e ⟨c.pr.upd e hX (fun a q => ⟨o', q ▸ ho'⟩) (fun hP q => c.dap hP q.symm), c.fr.mv e hX (fun a q o₂ ho₂ => ?_) (fun a q => .inl q), c.dap, _, hp, ?_⟩
  · subst q
    rw [ho] at ho₂; cases ho₂
    exact .inl (mk20 _ _ hd)
  · rw [Array.toList_push]
    exact (h2.ext e hX).append (RlAll.one (rv.ext e hX))
end
end Mine
end
section
open PySem PySem.W PyProof.Rows
set_option Elab.async false
set_option maxRecDepth 100000
namespace Mine
section
variable {g : G} {n : Nat} {L : Lv} {A : Around} {M M' : Addr → Prop} {P P' P₁ P₂ : Reg} {s s' s₁ : Shared} {env : Env} {nms : List Str} {sc csc : Sc} {ρ ρ' ρ₁ ρ₂ : Vw} {N : Addr → Prop} {D : Addr} {cenv : Env} {acc : List PV}
noncomputable def VisIn (csc : Sc) (nms : List Str) (ρ : Vw) (is : List Nat) : Prop := ∀ j x, nms[j]? = some x → vk (csc.lookup x) = 1 → j ∉ is → lk ρ j = none
theorem lk_set_ne {i j : Nat} {p : PV} (h : j ≠ i) : lk (ρ.set i (some p)) j = lk ρ j := by
  unfold lk
  have : ¬ i = j := fun e => h e.symm
  simp [List.getD, this]
theorem VisIn.set {is : List Nat} {i : Nat} {p : PV} (h : VisIn csc nms ρ is) : VisIn csc nms (ρ.set i (some p)) (i :: is) := fun j x h1 h2 h3 => by
  rw [List.mem_cons, not_or] at h3
  rw [lk_set_ne h3.1]; exact h j x h1 h2 h3.2
theorem VisIn.perm {is js : List Nat} (h : VisIn csc nms ρ is) (hs : ∀ i ∈ is, i ∈ js) : VisIn csc nms ρ js := fun j x h1 h2 h3 => h j x h1 h2 fun q => h3 (hs j q)
noncomputable def Apart (nms : List Str) (l : List Nat) : Prop := l.Pairwise fun i j => nms[i]? ≠ nms[j]?
theorem tgt_of {t : Tgt} {te : PySem.Expr} (h : tgtOk nms csc t te = true) :
    (∃ i x p, t = .one i ∧ te = .Name x p ∧ nms[i]? = some x ∧ vk (csc.lookup x) = 1) ∨ ∃ is es k p, t = .many is ∧ te = .Tuple es k p ∧ is.length = es.length ∧ ((is.zip es).all fun p => nmV nms csc p.1 p.2) = true := by
  cases t with
  | one i => exact .inl (onName_el (motive := fun te => ∃ j x p, Tgt.one i = .one j ∧ te = .Name x p ∧ nms[j]? = some x ∧ vk (csc.lookup x) = 1) h fun x p h => (mk33 i x p rfl rfl (eq_of_beq (all2 h).1) (eq_of_beq (all2 h).2)))
  | many is => exact .inr (onTuple_el (motive := fun te => ∃ js es k p, Tgt.many is = .many js ∧ te = .Tuple es k p ∧ js.length = es.length ∧ ((js.zip es).all fun p => nmV nms csc p.1 p.2) = true) h fun es k p h => (mk43 is es k p rfl rfl (eq_of_beq (all3 h).1) ((all3 h).2.2)))
theorem apart_of : ∀ {l : List Nat}, sepOk nms l = true → Apart nms l
  | [], _ => List.Pairwise.nil
  | i :: r, h => by
    replace h := all2 (b := sepOk nms r) h
    refine List.Pairwise.cons (fun j hj => ?_) (apart_of h.2)
    have := List.all_eq_true.mp h.1 j hj
    simpa using this
theorem tup_names {is : List Nat} {es : List PySem.Expr} (h : ((is.zip es).all fun p => nmV nms csc p.1 p.2) = true) {i : Nat} {e : PySem.Expr} {is' : List Nat} {es' : List PySem.Expr} (h1 : is = i :: is') (h2 : es = e :: es') : ∃ x p, e = .Name x p ∧ nms[i]? = some x ∧ vk (csc.lookup x) = 1 := by
  subst h1 h2
  rw [List.zip_cons_cons, List.all_cons, Bool.and_eq_true] at h
  exact onName_el (motive := fun e => ∃ x p, e = .Name x p ∧ nms[i]? = some x ∧ vk (csc.lookup x) = 1) h.1 fun x p h => (mk22 x p rfl (eq_of_beq (all2 h).1) (eq_of_beq (all2 h).2))
theorem CS.storeAll (k : CK g N D cenv csc nms ρ') : ∀ {is : List Nat} {es : List PySem.Expr} {ps : List PV} {vs : List Value} {ρ : Vw} {s : Shared} {dn : List Nat}, CS g n A N D cenv nms ρ P acc s → is.length = es.length → ((is.zip es).all fun p => nmV nms csc p.1 p.2) = true → setAll is ps ρ = some ρ₁ → RlAll g.ap g.C N s.heap vs ps → VisIn csc nms ρ dn → Apart nms (dn ++ is) → ∀ {Q : Unit → Shared → Prop},
    (∀ s', Ext (fun a => a = cenv.locals) s s' → CS g n A N D cenv nms ρ₁ P acc s' → VisIn csc nms ρ₁ (dn ++ is) → Q () s') → wpAny (model g.prog g.w) A (assignInOrder ((assignEach es cenv).map (·.2)) vs) Q NoE s
  | [], es, ps, vs, ρ, s, dn, c, hl, _, hset, r, hv, _, Q, h => by
    cases es with
    | nil =>
      cases ps with
      | nil =>
        cases hset
        cases r
        exact wpAny_pure (h s (Ext.refl ..) c (by simpa using hv))
      | cons => cases hset
    | cons => cases hl
  | i :: is, [], ps, vs, ρ, s, dn, c, hl, _, hset, r, hv, _, Q, h => by cases hl
  | i :: is, e :: es, ps, vs, ρ, s, dn, c, hl, hz, hset, r, hv, ha, Q, h => by
    (refine el22 (tup_names hz rfl rfl) ?_; intro x px zq0 hx hk; subst zq0)
    cases r with
    | nil => cases hset
    | @cons v p vs ps r1 r2 =>
      show wpAny _ _ (holding vs (assign (.Name x px) cenv v) >>= fun _ => assignInOrder ((assignEach es cenv).map (·.2)) vs) _ _ _
      refine wpAny_bind (wpAny_holding (wpAny_assign_Name (c.store k hx hk r1 (fun j q h1 h2 h3 => ?_) fun s' e c' => ?_)))
      · by_cases hj : j ∈ dn
        · have := (List.pairwise_append.mp ha).2.2 j hj i (.head _)
          exact this (h1.trans hx.symm)
        · rw [hv j x h1 hk hj] at h3; cases h3
      · rw [List.zip_cons_cons, List.all_cons, Bool.and_eq_true] at hz
        refine CS.storeAll k (dn := dn ++ [i]) c' (by simpa using hl) hz.2 hset (r2.ext e fun a q => q ▸ k.nC) (hv.set.perm fun j hj => ?_) (by simpa [Apart] using ha) fun s₂ e₂ c₂ v₂ => ?_
        · rcases List.mem_cons.mp hj with rfl | hj <;> simp_all
        · exact h s₂ (e.tr e₂) c₂ (by simpa using v₂)
theorem each_length : ∀ {is : List Nat} {es : List PySem.Expr}, is.length = es.length → ((is.zip es).all fun p => nmV nms csc p.1 p.2) = true → (assignEach es env).length = es.length ∧ (assignEach es env).findIdx? (·.1) = none
  | [], [], _, _ => ⟨rfl, rfl⟩
  | [], _ :: _, h, _ => by cases h
  | _ :: _, [], h, _ => by cases h
  | i :: is, e :: es, hl, hz => by
    (refine el22 (tup_names hz rfl rfl) ?_; intro x px zq0 hx hk; subst zq0)
    rw [List.zip_cons_cons, List.all_cons, Bool.and_eq_true] at hz
    have ih := each_length (is := is) (es := es) (by simpa using hl) hz.2
    refine ⟨?_, ?_⟩
    · show ((false, _) :: assignEach es env).length = _
      rw [List.length_cons, List.length_cons, ih.1]
    · show ((false, _) :: assignEach es env).findIdx? (·.1) = _
      rw [List.findIdx?_cons]
      simp [ih.2]
theorem setAll_length : ∀ {is : List Nat} {ps : List PV} {ρ : Vw}, setAll is ps ρ = some ρ₁ → is.length = ps.length
  | [], [], _, _ => rfl
  | [], _ :: _, _, h => by cases h
  | _ :: _, [], _, h => by cases h
  | i :: is, p :: ps, ρ, h => by rw [List.length_cons, List.length_cons, setAll_length (ρ := ρ.set i (some p)) h]
theorem CS.assign {t : Tgt} {te : PySem.Expr} {p : PV} {v : Value} {dn : List Nat} {Q : Unit → Shared → Prop} (ok : g.OK) (k : CK g N D cenv csc nms ρ') (c : CS g n A N D cenv nms ρ P acc s) (ht : tgtOk nms csc t te = true) (rv : Rl g.ap g.C N s.heap v p) (hb : bindT t p ρ = some ρ₁)
    (hv : VisIn csc nms ρ dn) (ha : Apart nms (dn ++ tIdx t)) (h : ∀ s', Ext (fun a => a = cenv.locals) s s' → CS g n A N D cenv nms ρ₁ P acc s' → VisIn csc nms ρ₁ (dn ++ tIdx t) → Q () s') :
    wpAny (model g.prog g.w) A (assign te cenv v) Q NoE s := by
  rcases tgt_of ht with ⟨i, x, px, rfl, rfl, hq⟩ | ⟨is, es, kk, px, rfl, rfl, hq⟩
  · cases hb
    refine wpAny_assign_Name (c.store k hq.1 hq.2 rv (fun j q h1 h2 h3 => ?_) fun s' e c' => h s' e c' (hv.set.perm fun j hj => ?_))
    · by_cases hj : j ∈ dn
      · have := (List.pairwise_append.mp ha).2.2 j hj i (.head _)
        exact this (h1.trans hq.1.symm)
      · rw [hv j x h1 hq.2 hj] at h3; cases h3
    · rcases List.mem_cons.mp hj with rfl | hj <;> simp_all [tIdx]
  · (refine el11 (PV.onT_el (motive := fun p => ∃ l, p = .tup l ∧ setAll is l ρ = some ρ₁) hb (fun h => ns_ h) fun l h => mk11 l rfl h) ?_; intro l zq0 hb; subst zq0)
    (refine el24 (tup_of rv) ?_; intro a vs zq0 hna ho hl hz; subst zq0)
    have hlen := setAll_length hb
    have he := each_length (env := cenv) (nms := nms) (csc := csc) hq.1 hq.2
    refine wpAny_assign_Tuple c.pr.a.1 ho (by rw [he.1, hz, ← hlen, hq.1]) he.2 fun h' hs => ?_
    have e0 : Ext0 s { s with heap := h' } := Ext0.fresh (tk := s.toks) s (get_size _) hs
    have c' : CS g n A N D cenv nms ρ P acc { s with heap := h' } := ⟨c.pr.next0 ok e0, c.fr.next0 e0, c.dap, by
      (refine el11 (c.acc) ?_; intro ws h1 h2)
      exact (mk11 ws (h1.at fun o ho => e0.all _ _ ho) (h2.ext0 e0))⟩
    exact CS.storeAll k c' hq.1 hq.2 hb (hl.ext0 e0) hv ha fun s' e c'' v'' => h s' (e0.tr e) c'' v''
end
end Mine
end
section
open PySem PySem.W PyProof.Rows
set_option Elab.async false
set_option maxRecDepth 100000
namespace Mine
section
variable {g : G} {n : Nat} {L : Lv} {A : Around} {M M' : Addr → Prop} {P P' P₁ P₂ : Reg} {s s' s₁ : Shared} {env : Env} {nms : List Str} {sc csc : Sc} {ρ ρ' ρ₁ ρ₂ : Vw} {N : Addr → Prop} {D I : Addr} {cenv : Env} {acc : List PV}
theorem CS.mv {X : Addr → Prop} (c : CS g n A N D cenv nms ρ P acc s) (x : Ext X s s') (hX : ∀ a, X a → N a) (hS : ∀ a, X a → SF s.heap a) (he : ∀ a, X a → ∃ o, s'.heap.get? a = some o) (ha : P.isSome = true → ¬ X g.ap) (hD : ¬ X D) : CS g n A N D cenv nms ρ P acc s' where
  pr := c.pr.upd x hX he ha
  fr := c.fr.mv x hX hS fun a q => .inl q
  dap := c.dap
  acc := by
    (refine el11 (c.acc) ?_; intro vs h1 h2)
    exact (mk11 vs (h1.at fun o ho => x.keep _ _ hD ho) (h2.ext x hX))
theorem CS.down (c : CS g n A (plus N I) D cenv nms ρ P acc s) (hI : ¬ N I) (nD : N D) (hap : P.isSome = true → N g.ap) (x : Ext (fun a => a = I) s s') (hS : SF s.heap I) : CS g n A N D cenv nms ρ P acc s' where
  pr := c.pr.mv x (fun a q => c.pr.mb a (.inr q)) (fun hP q => hI (q ▸ hap hP)) (fun a q => c.pr.mb a (.inl q)) (fun a q => by
    (refine el10 (c.pr.ma a (.inl q)) ?_; intro o ho)
    exact ⟨o, x.keep _ _ (fun e => hI (e ▸ q)) ho⟩) hap
  fr := c.fr.mv x (fun a q => .inr q) (fun a q => q ▸ hS) fun a q => .inl (.inl q)
  dap := c.dap
  acc := by
    (refine el11 (c.acc) ?_; intro vs h1 h2)
    refine (mk11 vs (h1.at fun o ho => x.keep _ _ (fun e => hI (e ▸ nD)) ho) (h2.mono (fun a o na e => x.keep a o (fun q => na (.inr q)) e) fun a q => .inl (.inl q)))
theorem XS_congr (hs : P'.isSome = P.isSome) {C D a : Addr} : XS g P' C D a ↔ XS g P C D a := by unfold XS; rw [XR_congr hs]
noncomputable abbrev testsOf (ifs : List PySem.Expr) (cenv : Env) : Sem Bool := forIn ifs true fun c r => if r = true then do let ok ← isTrue c cenv (eval c cenv); pure (ForInStep.yield ok) else pure (ForInStep.yield r)
theorem comp_loop {e : PySem.Expr} {d : Nat} {te : PySem.Expr} {tail : Sem Unit} {ifs : List PySem.Expr} {pos : Pos} {f : PV → Reg → Option (List PV × Reg)} {R : Result → Shared → Prop}
    (hturn : compTurn e d (.ref I) (.ref D) cenv = (standAt pos >>= fun _ => pyNext (.ref I) >>= fun r => match r with
      | none => pure (.done .next)
      | some v => letOwnedTupleGo te (.ref I) v >>= fun _ => assign te cenv v >>= fun _ => testsOf ifs cenv >>= fun ok =>
        if ok = true then tail >>= fun _ => again (.compLoop e d (.ref I) (.ref D) cenv) else again (.compLoop e d (.ref I) (.ref D) cenv)))
    (hframe : (Code.compLoop e d (.ref I) (.ref D) cenv).isFrame = false) (hquiet : (Code.compLoop e d (.ref I) (.ref D) cenv).quiet = true) (hunder : A.under (Code.compLoop e d (.ref I) (.ref D) cenv) = A)
    (k : CK g N D cenv csc nms ρ') (hI : ¬ N I)
    (body : ∀ {x : PV} {P₁ : Reg} {a : List PV} {P₂ : Reg}, f x P₁ = some (a, P₂) → ∀ {v : Value} {s : Shared} {acc : List PV}, CS g n A (plus N I) D cenv nms ρ P₁ acc s → acc.length + a.length < 65536 → Rl g.ap g.C (plus N I) s.heap v x → ∀ {Q : Shared → Prop},
      (∀ s', Ext (XS g P₁ cenv.locals D) s s' → CS g n A (plus N I) D cenv nms ρ P₂ (acc ++ a) s' → P₂.isSome = P₁.isSome → Q s') →
      wpAny (model g.prog g.w) A (assign te cenv v) (fun _ s₂ => wpAny (model g.prog g.w) A (testsOf ifs cenv) (fun ok s₃ => if ok = true then wpAny (model g.prog g.w) A tail (fun _ => Q) NoE s₃ else Q s₃) NoE s₂) NoE s) :
    ∀ {items : List PV} {P : Reg} {s : Shared} {acc r : List PV} {P' : Reg}, compLoop f items P = some (r, P') → acc.length + r.length < 65536 → ItAt g.ap g.C s.heap I (plus N I) items → CS g n A (plus N I) D cenv nms ρ P acc s → (P.isSome = true → N g.ap) →
      (∀ s', Ext (fun a => XS g P cenv.locals D a ∨ a = I) s s' → CS g n A N D cenv nms ρ P' (acc ++ r) s' → P'.isSome = P.isSome → R (.ok .next) s') →
      codeAny (model g.prog g.w) A (.compLoop e d (.ref I) (.ref D) cenv) R s := by
  intro items
  induction items with
  | nil =>
    intro P s acc r P' hc hz hit c hap hR
    cases hc
    refine codeAny_of_tree ?_
    show wpAny _ (A.under _) (if (Code.compLoop e d (.ref I) (.ref D) cenv).isFrame = true then _ else _) _ _ s
    rw [hframe, hunder]
    simp only [Bool.false_eq_true, if_false]
    refine wpAny_noted ?_
    rw [hturn]
    refine wpAny_bind (wpAny_standAt (wpAny_bind (iter_end c.pr.a.1 hit fun s' x => ?_)))
    refine wpAny_pure ?_
    have := c.down hI k.nD hap x hit.sf.1
    exact hR s' (x.wk fun _ q => .inr q) (by rw [List.append_nil]; exact this) rfl
  | cons y items ih =>
    intro P s acc r P' hc hz hit c hap hR
    refine ifS_el hc fun a P₁ e₁ hc => ifS_el hc fun b P₂ e₂ hc => ?_
    · · cases hc
        refine codeAny_of_tree ?_
        show wpAny _ (A.under _) (if (Code.compLoop e d (.ref I) (.ref D) cenv).isFrame = true then _ else _) _ _ s
        rw [hframe, hunder]
        simp only [Bool.false_eq_true, if_false]
        refine wpAny_noted ?_
        rw [hturn]
        refine wpAny_bind (wpAny_standAt (wpAny_bind (iter_next hit (.inr rfl) fun v s₁ x₁ rv hit₁ => ?_)))
        have hICD : I ≠ cenv.locals ∧ I ≠ D := ⟨fun e => hI (e ▸ k.nC), fun e => hI (e ▸ k.nD)⟩
        have c₁ : CS g n A (plus N I) D cenv nms ρ P acc s₁ := c.mv x₁ (fun a q => .inr q) (fun a q => q ▸ hit.sf.1) (fun a q => q ▸ hit₁.sf.2) (fun hP q => hI (q ▸ hap hP)) (fun q => hICD.2 q.symm)
        refine wpAny_bind (iter_go hit₁ ?_)
        have fin : ∀ s₂, Ext (XS g P cenv.locals D) s₁ s₂ → CS g n A (plus N I) D cenv nms ρ P₁ (acc ++ a) s₂ → P₁.isSome = P.isSome →
            codeAny (model g.prog g.w) A (.compLoop e d (.ref I) (.ref D) cenv) R s₂ := fun s₂ x₂ c₂ h₂ => by
          have hXI : ¬ XS g P cenv.locals D I := by
            rintro (q | q | q)
            · exact hI (q.2 ▸ hap q.1)
            · exact hICD.1 q
            · exact hICD.2 q
          have hXN : ∀ a, XS g P cenv.locals D a → plus N I a := by
            rintro a (q | rfl | rfl)
            · exact .inl (q.2 ▸ hap q.1)
            · exact .inl k.nC
            · exact .inl k.nD
          have hit₂ : ItAt g.ap g.C s₂.heap I (plus N I) items := hit₁.mono (fun o ho => x₂.keep _ _ hXI ho) (fun a o na ho => x₂.keep _ _ (fun q => na (hXN a q)) ho) fun a q => .inl q
          refine ih e₂ (by simp only [List.length_append] at hz ⊢; lia) hit₂ c₂ (fun h => hap (h₂ ▸ h)) fun s₃ x₃ c₃ h₃ => ?_
          refine hR s₃ ?_ (by rw [← List.append_assoc]; exact c₃) (h₃.trans h₂)
          have x₁' : Ext (fun a => XS g P cenv.locals D a ∨ a = I) s s₁ := x₁.wk fun _ q => .inr q
          have x₂' : Ext (fun a => XS g P cenv.locals D a ∨ a = I) s₁ s₂ := x₂.wk fun _ q => .inl q
          have x₃' : Ext (fun a => XS g P cenv.locals D a ∨ a = I) s₂ s₃ := x₃.wk fun _ q => q.imp (XS_congr h₂).mp id
          exact (x₁'.tr x₂').tr x₃'
        have hb := body e₁ (Q := fun s₂ => codeAny (model g.prog g.w) A (.compLoop e d (.ref I) (.ref D) cenv) R s₂) c₁ (by simp only [List.length_append] at hz; lia) rv fin
        refine wpAny_bind (wpAny_mono hb (fun _ s₂ h₂ => wpAny_bind (wpAny_mono h₂ (fun ok s₃ h₃ => ?_) fun _ _ q => q.elim)) fun _ _ q => q.elim)
        cases ok with
        | false =>
          simp only [Bool.false_eq_true, if_false] at h₃ ⊢
          exact wpAny_pure ⟨hquiet, h₃⟩
        | true =>
          simp only [if_true] at h₃ ⊢
          exact wpAny_bind (wpAny_mono h₃ (fun _ s₄ h₄ => wpAny_pure ⟨hquiet, h₄⟩) fun _ _ q => q.elim)
end
end Mine
end
section
open PySem PySem.W PyProof.Rows
set_option Elab.async false
set_option maxRecDepth 100000
namespace Mine
section
variable {le te ie te₁ ie₁ te₂ ie₂ : PySem.Expr} {ifs : List PySem.Expr} {scope : Scope} {p : Pos} {it acc : Value} {env : Env}
noncomputable def eltTail (le : PySem.Expr) (acc : Value) (env : Env) : Sem Unit := eval le env >>= fun x => call (.builtin "list.append") [acc, x] >>= fun _ => pure ()
theorem turn1 : compTurn (.ListComp le [⟨te, ie, ifs, 0⟩] scope p) 0 it acc env = (standAt ie.pos >>= fun _ => pyNext it >>= fun r => match r with
      | none => pure (.done .next)
      | some v => letOwnedTupleGo te it v >>= fun _ => assign te env v >>= fun _ => testsOf ifs env >>= fun ok =>
        if ok = true then eltTail le acc env >>= fun _ => again (.compLoop (.ListComp le [⟨te, ie, ifs, 0⟩] scope p) 0 it acc env) else again (.compLoop (.ListComp le [⟨te, ie, ifs, 0⟩] scope p) 0 it acc env)) := by rfl
theorem turn22 : compTurn (.ListComp le [⟨te₁, ie₁, [], 0⟩, ⟨te₂, ie₂, ifs, 0⟩] scope p) 1 it acc env = (standAt ie₂.pos >>= fun _ => pyNext it >>= fun r => match r with
      | none => pure (.done .next)
      | some v => letOwnedTupleGo te₂ it v >>= fun _ => assign te₂ env v >>= fun _ => testsOf ifs env >>= fun ok =>
        if ok = true then eltTail le acc env >>= fun _ => again (.compLoop (.ListComp le [⟨te₁, ie₁, [], 0⟩, ⟨te₂, ie₂, ifs, 0⟩] scope p) 1 it acc env) else again (.compLoop (.ListComp le [⟨te₁, ie₁, [], 0⟩, ⟨te₂, ie₂, ifs, 0⟩] scope p) 1 it acc env)) := by rfl
noncomputable def inTail (e ie₂ : PySem.Expr) (acc : Value) (env : Env) : Sem Unit := eval ie₂ env >>= fun x => standAt ie₂.pos >>= fun _ => foldedSetIterable ie₂ env x >>= fun x => holding [x] (pyIter x) >>= fun i => runOwn (.compStart e 1 i acc env) env >>= fun _ => pure ()
theorem turn21' : compTurn (.ListComp le [⟨te₁, ie₁, [], 0⟩, ⟨te₂, ie₂, ifs, 0⟩] scope p) 0 it acc env = (standAt ie₁.pos >>= fun _ => pyNext it >>= fun r => match r with
      | none => pure (.done .next)
      | some v => letOwnedTupleGo te₁ it v >>= fun _ => assign te₁ env v >>= fun _ => testsOf [] env >>= fun ok =>
        if ok = true then (eval ie₂ env >>= fun x => standAt ie₂.pos >>= fun _ => foldedSetIterable ie₂ env x >>= fun x => holding [x] (pyIter x) >>= fun i => runOwn (.compStart (.ListComp le [⟨te₁, ie₁, [], 0⟩, ⟨te₂, ie₂, ifs, 0⟩] scope p) 1 i acc env) env >>= fun _ => again (.compLoop (.ListComp le [⟨te₁, ie₁, [], 0⟩, ⟨te₂, ie₂, ifs, 0⟩] scope p) 0 it acc env))
        else again (.compLoop (.ListComp le [⟨te₁, ie₁, [], 0⟩, ⟨te₂, ie₂, ifs, 0⟩] scope p) 0 it acc env)) := by rfl
theorem turn21 : compTurn (.ListComp le [⟨te₁, ie₁, [], 0⟩, ⟨te₂, ie₂, ifs, 0⟩] scope p) 0 it acc env = (standAt ie₁.pos >>= fun _ => pyNext it >>= fun r => match r with
      | none => pure (.done .next)
      | some v => letOwnedTupleGo te₁ it v >>= fun _ => assign te₁ env v >>= fun _ => testsOf [] env >>= fun ok =>
        if ok = true then inTail (.ListComp le [⟨te₁, ie₁, [], 0⟩, ⟨te₂, ie₂, ifs, 0⟩] scope p) ie₂ acc env >>= fun _ => again (.compLoop (.ListComp le [⟨te₁, ie₁, [], 0⟩, ⟨te₂, ie₂, ifs, 0⟩] scope p) 0 it acc env)
        else again (.compLoop (.ListComp le [⟨te₁, ie₁, [], 0⟩, ⟨te₂, ie₂, ifs, 0⟩] scope p) 0 it acc env)) := by
  rw [turn21']
  simp only [inTail, bind_assoc, pure_bind]
variable {prog : Program} {w : World} {A : Around} {R : Result → Shared → Prop} {s : Shared}
theorem compStart_1 {target iter : PySem.Expr} {c₁ : Comprehension} (h0 : codeAny (model prog w) A (.compLoop (.ListComp le [c₁, ⟨target, iter, ifs, 0⟩] scope p) 1 it acc env) R s)
    (h : wpAny (model prog w) A (pyIter it) (fun it' s' => codeAny (model prog w) A (.compLoop (.ListComp le [c₁, ⟨target, iter, ifs, 0⟩] scope p) 1 it' acc env) R s')
      (notedBy (model prog w) A env fun x s' => R (.error x) s') s) :
    codeAny (model prog w) A (.compStart (.ListComp le [c₁, ⟨target, iter, ifs, 0⟩] scope p) 1 it acc env) R s := by
  refine codeAny_of_tree ?_
  show wpAny _ _ ((compStart (.ListComp le [c₁, ⟨target, iter, ifs, 0⟩] scope p) 1 it acc env).onRaise (fun x => do noteFrame x env; standAt theWindowsPlace)) _ _ s
  refine wpAny_notedAt ?_
  unfold compStart
  show wpAny _ _ (ask >>= _) _ _ s
  refine wpAny_bind (wpAny_askSetting (wpAny_ite ?_))
  split
  · first
      | exact wpAny_bind (wpAny_pure (wpAny_pure (And.intro rfl h0)))
      | exact wpAny_pure (And.intro rfl h0)
  · first
      | exact wpAny_bind (wpAny_rule (wpAny_bind (wpAny_standAt (wpAny_bind (wpAny_mono h (fun it' s' h' => wpAny_pure (And.intro rfl h')) fun _ _ x => x)))))
      | (refine wpAny_bind (wpAny_rule ?_); show wpAny _ _ (standAt iter.pos >>= _) _ _ s; exact wpAny_bind (wpAny_standAt (wpAny_bind (wpAny_mono h (fun it' s' h' => wpAny_pure (And.intro rfl h')) fun _ _ x => x))))
end
section
variable {g : G} {n : Nat} {L : Lv} {A : Around} {M M' : Addr → Prop} {P P' P₁ P₂ : Reg} {s s' s₁ : Shared} {env : Env} {nms : List Str} {sc csc : Sc} {ρ ρ' ρ₁ ρ₂ : Vw} {N : Addr → Prop} {D I : Addr} {cenv : Env} {acc : List PV}
theorem fold_it {k : IT} {a : X} {e : PySem.Expr} (h : CorIt nms g.fname sc k a e) (x : Value) : foldedSetIterable e env x = pure x := by
  cases k with
  | rng => (refine el31 h ?_; try clear h; intro l p p' zq0 _; subst zq0); rfl
  | val =>
    have hp := CorE.plain h
    cases e <;> first | rfl | exact ff_ hp
theorem setAll_ne : ∀ {is : List Nat} {ps : List PV} {ρ : Vw}, setAll is ps ρ = some ρ₁ → ∀ {j : Nat}, j ∉ is → lk ρ₁ j = lk ρ j
  | [], [], ρ, h, j, _ => by cases h; rfl
  | [], _ :: _, _, h, _, _ => by cases h
  | _ :: _, [], _, h, _, _ => by cases h
  | i :: is, p :: ps, ρ, h, j, hj => by
    rw [List.mem_cons, not_or] at hj
    rw [setAll_ne (ρ := ρ.set i (some p)) h hj.2, lk_set_ne hj.1]
theorem bindT_ne {t : Tgt} {x : PV} (h : bindT t x ρ = some ρ₁) {j : Nat} (hj : j ∉ tIdx t) : lk ρ₁ j = lk ρ j := by
  cases t with
  | one i => cases h; exact lk_set_ne (by simpa [tIdx] using hj)
  | many is =>
    exact PV.onT_el (motive := fun _ => lk ρ₁ j = lk ρ j) h (fun h => ns_ h) fun l h => setAll_ne h hj
theorem tgt_idx {t : Tgt} {te : PySem.Expr} (ht : tgtOk nms csc t te = true) {i : Nat} (hi : i ∈ tIdx t) : ∃ x, nms[i]? = some x ∧ vk (csc.lookup x) = 1 := by
  rcases tgt_of ht with ⟨j, x, px, rfl, rfl, hq⟩ | ⟨is, es, kk, px, rfl, rfl, hl, hz⟩
  · have : i = j := by simpa [tIdx] using hi
    subst this
    exact ⟨x, hq⟩
  · simp only [tIdx] at hi
    clear ht kk px
    induction is generalizing es with
    | nil => cases hi
    | cons j is ih =>
      cases es with
      | nil => cases hl
      | cons e es =>
        (refine el22 (tup_names hz rfl rfl) ?_; intro x px _ h1 h2)
        rcases List.mem_cons.mp hi with rfl | hi
        · exact (mk11 x h1 h2)
        · rw [List.zip_cons_cons, List.all_cons, Bool.and_eq_true] at hz
          exact ih es hi (by simpa using hl) hz.2
theorem bindT_less {t : Tgt} {te : PySem.Expr} {x : PV} {dn : List Nat} (ht : tgtOk nms csc t te = true) (h : bindT t x ρ = some ρ₁) (hv : VisIn csc nms ρ dn) (ha : Apart nms (dn ++ tIdx t)) (i : Nat) (p : PV) (e : lk ρ i = some p) : lk ρ₁ i = some p := by
  by_cases hi : i ∈ tIdx t
  · (refine el11 (tgt_idx ht hi) ?_; intro y h1 h2)
    by_cases hd : i ∈ dn
    · exact absurd rfl ((List.pairwise_append.mp ha).2.2 i hd i hi)
    · rw [hv i y h1 h2 hd] at e; cases e
  · rw [bindT_ne h hi]; exact e
theorem CK.up {a : Addr} (k : CK g N D cenv csc nms ρ) : CK g (plus N a) D cenv csc nms ρ := ⟨.inl k.nC, .inl k.nD, k.ne, k.sk, k.hid⟩
theorem XS.of {s₁ s₂ : Shared} {C : Addr} (e : Ext (XR g P) s₁ s₂) : Ext (XS g P C D) s₁ s₂ := e.wk fun _ q => .inl q
theorem XS.c {s₁ s₂ : Shared} {C : Addr} (e : Ext (fun a => a = C) s₁ s₂) : Ext (XS g P C D) s₁ s₂ := e.wk fun _ q => .inr (.inl q)
theorem XS.d {s₁ s₂ : Shared} {C : Addr} (e : Ext (fun a => a = D) s₁ s₂) : Ext (XS g P C D) s₁ s₂ := e.wk fun _ q => .inr (.inr q)
theorem tests_ (hT : EvTOK g n L) (ok : g.OK) {c : Option X} {ifs : List PySem.Expr} (hc : CorC nms g.fname csc c ifs) {b : Bool} (h : condOk L c ρ P = some (b, P')) (k : CK g N D cenv csc nms ρ') (cs : CS g n A N D cenv nms ρ P acc s) {Q : Bool → Shared → Prop}
    (hQ : ∀ s', Ext (XR g P) s s' → CS g n A N D cenv nms ρ P' acc s' → P'.isSome = P.isSome → Q b s') : wpAny (model g.prog g.w) A (testsOf ifs cenv) Q NoE s := by
  cases c with
  | none => cases h; cases hc; exact wpAny_tests_nil (hQ s (Ext.refl ..) cs rfl)
  | some c =>
    (refine el11 hc ?_; try clear hc; intro ce zq0 hc; subst zq0)
    refine wpAny_tests_one (mono_ (hT hc h k.sk cs.fr cs.pr) fun b' s' q => ?_)
    rw [q.eq]
    exact hQ s' q.ext (cs.ev ok q.ext q.reg q.same) q.same
theorem elt_body (hL : EvOK g n L) (hT : EvTOK g n L) (ok : g.OK) {elt : X} {c : Option X} {t : Tgt} {te le : PySem.Expr} {ifs : List PySem.Expr} {dn : List Nat} (hc : CorC nms g.fname csc c ifs) (he : CorE nms g.fname csc elt le) (ht : tgtOk nms csc t te = true)
    (k : CK g N D cenv csc nms ρ') (hv : VisIn csc nms ρ dn) (ha : Apart nms (dn ++ tIdx t)) {x : PV} {P₁ : Reg} {a : List PV} {P₂ : Reg} (h : compElt L elt c t ρ x P₁ = some (a, P₂)) {v : Value} {s : Shared} {acc : List PV} (cs : CS g n A N D cenv nms ρ P₁ acc s) (hz : acc.length + a.length < 65536)
    (rv : Rl g.ap g.C N s.heap v x) {Q : Shared → Prop} (hQ : ∀ s', Ext (XS g P₁ cenv.locals D) s s' → CS g n A N D cenv nms ρ P₂ (acc ++ a) s' → P₂.isSome = P₁.isSome → Q s') :
    wpAny (model g.prog g.w) A (PySem.assign te cenv v) (fun _ s₂ => wpAny (model g.prog g.w) A (testsOf ifs cenv) (fun ok s₃ => if ok = true then wpAny (model g.prog g.w) A (eltTail le (.ref D) cenv) (fun _ => Q) NoE s₃ else Q s₃) NoE s₂) NoE s := by
  refine bd_el h fun ρ₁ hb h => CS.assign ok k cs ht rv hb hv ha fun s₁ e₁ c₁ v₁ => ?_
  refine ifS_el h fun b P₃ h3 h => tests_ hT ok hc h3 k c₁ fun s₂ e₂ c₂ h₂ => ?_
  cases b with
  | true =>
    dsimp only [cond_true] at h
    refine ifS_el h fun y P₄ h4 h => ?_
    cases h
    rw [if_pos rfl]
    unfold eltTail
    refine wpAny_bind (mono_ (hL he h4 k.sk c₂.fr c₂.pr) fun u s₃ q => ?_)
    have c₃ := c₂.ev ok q.ext q.reg q.same
    refine wpAny_bind (c₃.append k q.rl (by simp at hz; lia) fun s₄ e₄ c₄ => wpAny_pure ?_)
    refine hQ s₄ ?_ (c₄.less fun i p e => bindT_less ht hb hv ha i p e) (q.same.trans h₂)
    exact (((XS.c e₁).tr (XS.of e₂)).tr (XS.of (q.ext.xr h₂))).tr (XS.d e₄)
  | false =>
    cases h
    rw [if_neg Bool.false_ne_true]
    refine hQ s₂ ((XS.c e₁).tr (XS.of e₂)) ?_ h₂
    rw [List.append_nil]
    exact c₂.less fun i p e => bindT_less ht hb hv ha i p e
end
end Mine
end
section
open PySem PySem.W PyProof.Rows
set_option Elab.async false
set_option maxRecDepth 100000
namespace Mine
section
variable {g : G} {n : Nat} {L : Lv} {A : Around} {M M' : Addr → Prop} {P P' P₁ P₂ : Reg} {s s' s₁ : Shared} {env : Env} {nms : List Str} {sc csc : Sc} {ρ ρ' ρ₁ ρ₂ : Vw} {N : Addr → Prop} {D I : Addr} {cenv : Env} {acc : List PV} {srt : List PV → Option (List PV)}
theorem CS.wkA {A' : Around} (c : CS g n A N D cenv nms ρ P acc s) (h : AOK n A') : CS g n A' N D cenv nms ρ P acc s := ⟨c.pr.wkN h, c.fr, c.dap, c.acc⟩
theorem Pre.sfX (pr : Pre g n A M P s) : ∀ a, XR g P a → SF s.heap a := fun a q o ho => by
  (refine el01 q ?_; try clear q; intro q1 zq0; subst zq0)
  (refine el11 (pr.reg.is q1) ?_; intro o' ho' h)
  rw [ho] at ho'; cases ho'
  exact .inl h
theorem FrOK.grow (f : FrOK g M s.heap env nms ρ) (pr : Pre g n A M P s) (x : Ext (XR g P) s s') (hM : ∀ a, M' a → M a ∨ s.heap.get? a = none) : FrOK g M' s'.heap env nms ρ := f.mv x pr.x0 pr.sfX hM
theorem CS.ev' (c : CS g n A N D cenv nms ρ P acc s) (e : Ext (XR g P) s s') (pr : Pre g n A (plus N I) P' s') (hs : P'.isSome = P.isSome) (hI : s.heap.get? I = none) : CS g n A (plus N I) D cenv nms ρ P' acc s' := by
  have hM : ∀ a, plus N I a → N a ∨ s.heap.get? a = none := by
    rintro a (q | rfl)
    · exact .inl q
    · exact .inr hI
  refine ⟨pr, c.fr.grow c.pr e hM, fun h => c.dap (hs ▸ h), ?_⟩
  (refine el11 (c.acc) ?_; intro vs h1 h2)
  exact (mk11 vs (h1.at fun o ho => e.keep _ _ (fun q => c.dap q.1 q.2) ho) (h2.mono (fun a o na ho => e.keep a o (fun q => na (c.pr.x0 a q)) ho) hM))
theorem in_body (hL : EvOK g n L) (hT : EvTOK g n L) (ok : g.OK) {elt e₂ : X} {c : Option X} {t₁ t₂ : Tgt} {k₂ : IT} {te₁ ie₁ te₂ ie₂ le : PySem.Expr} {ifs : List PySem.Expr} {scope : Scope} {p : Pos} (hc : CorC nms g.fname csc c ifs) (he : CorE nms g.fname csc elt le)
    (hi₂ : CorIt nms g.fname csc k₂ e₂ ie₂) (ht₁ : tgtOk nms csc t₁ te₁ = true) (ht₂ : tgtOk nms csc t₂ te₂ = true) (k : CK g N D cenv csc nms ρ') (hv : VisIn csc nms ρ []) (ha : Apart nms (tIdx t₁ ++ tIdx t₂))
    {x : PV} {P₁ : Reg} {a : List PV} {P₂ : Reg} (h : compIn L elt c t₁ t₂ k₂ e₂ ρ x P₁ = some (a, P₂)) {v : Value} {s : Shared} {acc : List PV} (cs : CS g n A N D cenv nms ρ P₁ acc s) (hz : acc.length + a.length < 65536)
    (rv : Rl g.ap g.C N s.heap v x) {Q : Shared → Prop} (hQ : ∀ s', Ext (XS g P₁ cenv.locals D) s s' → CS g n A N D cenv nms ρ P₂ (acc ++ a) s' → P₂.isSome = P₁.isSome → Q s') :
    wpAny (model g.prog g.w) A (PySem.assign te₁ cenv v) (fun _ s₂ => wpAny (model g.prog g.w) A (testsOf [] cenv) (fun ok s₃ => if ok = true then wpAny (model g.prog g.w) A (inTail (.ListComp le [⟨te₁, ie₁, [], 0⟩, ⟨te₂, ie₂, ifs, 0⟩] scope p) ie₂ (.ref D) cenv) (fun _ => Q) NoE s₃ else Q s₃) NoE s₂) NoE s := by
  refine bd_el h fun ρ₁ hb h => ifS_el h fun src P₃ h3 h => bd_el h fun items h4 h => ?_
  · · · have ha1 : Apart nms (tIdx t₁) := (List.pairwise_append.mp ha).1
        refine CS.assign ok k cs ht₁ rv hb hv (by simpa using ha1) fun s₁ x₁ c₁ v₁ => ?_
        refine wpAny_tests_nil ?_
        rw [if_pos rfl]
        unfold inTail
        refine wpAny_bind (mono_ (it_start hL ok hi₂ h3 h4 k.sk c₁.fr c₁.pr (Q := fun i s₂ => wpAny (model g.prog g.w) A (runOwn (.compStart (.ListComp le [⟨te₁, ie₁, [], 0⟩, ⟨te₂, ie₂, ifs, 0⟩] scope p) 1 i (.ref D) cenv) cenv >>= fun _ => pure ()) (fun _ => Q) NoE s₂)
          fun I s₂ x₂ pr₂ h₂ hI hit => ?_) fun xv s' hx => ?_)
        · have hNI : ¬ N I := c₁.pr.ma.not hI
          have c₂ := c₁.ev' x₂ pr₂ h₂ hI
          have hap : P₃.isSome = true → N g.ap := fun q => cs.pr.mr (h₂ ▸ q)
          have hmk : AOK n (A.mark none) := pr₂.a.mark
          have loop : codeAny (model g.prog g.w) (A.mark none) (.compLoop (.ListComp le [⟨te₁, ie₁, [], 0⟩, ⟨te₂, ie₂, ifs, 0⟩] scope p) 1 (.ref I) (.ref D) cenv)
              (fun r s' => match r with | .ok f => (fun _ s' => wpAny (model g.prog g.w) A (pure () : Sem Unit) (fun _ => Q) NoE s') f s' | .error e => cameBackBy (model g.prog g.w) A cenv NoE e s') s₂ := by
            refine comp_loop (f := compElt L elt c t₂ ρ₁) (ρ := ρ₁) turn22 rfl rfl rfl k hNI (fun hf v s acc cs hz rv Q hQ => elt_body hL hT ok hc he ht₂ k.up v₁ (by simpa using ha) hf cs hz rv hQ) h hz hit (c₂.wkA hmk) hap fun s' x' c' h' => ?_
            refine wpAny_pure (hQ s' ?_ ((c'.wkA c₁.pr.a).less fun i p e => bindT_less ht₁ hb hv (by simpa using ha1) i p e) (h'.trans h₂))
            have x12 : Ext (XS g P₁ cenv.locals D) s s₂ := (XS.c x₁).tr (XS.of x₂)
            refine x12.trans x' (fun _ q => q) fun b o q hb => ?_
            rcases q with q | rfl
            · exact (XS_congr h₂).mp q
            · exfalso
              have := pr₂.ma
              cases e : s₁.heap.get? b with
              | none =>
                by_cases hq : b = cenv.locals
                · (refine el10 (c₁.pr.ma b (hq ▸ k.nC)) ?_; intro o' ho')
                  rw [e] at ho'; cases ho'
                · rw [x₁.keep b o hq hb] at e; cases e
              | some o' => rw [hI] at e; cases e
          exact wpAny_bind (wpAny_runOwn (compStart_1 loop (iter_self hit loop)))
        · refine wpAny_bind (wpAny_standAt (wpAny_bind (wpAny_of_eq (fold_it hi₂ xv) (wpAny_bind (wpAny_holding (mono_ hx fun i s'' h' => ?_))))))
          exact h'
end
end Mine
end
section
open PySem PySem.W PyProof.Rows
set_option Elab.async false
set_option maxRecDepth 100000
namespace Mine
section
variable {g : G} {n : Nat} {L : Lv} {A : Around} {M M' : Addr → Prop} {P P' P₁ P₂ : Reg} {s s' s₁ : Shared} {env : Env} {nms : List Str} {sc csc : Sc} {ρ ρ' ρ₁ ρ₂ : Vw} {N : Addr → Prop} {D I : Addr} {cenv : Env} {acc : List PV} {srt : List PV → Option (List PV)}
theorem comp_use (hL : EvOK g n L) (ok : g.OK) {use : Option (Value → Sem Unit)} {Qf : Value → Shared → Prop} {pos : Pos} {le te ie : PySem.Expr} {ifs : List PySem.Expr} {rest : List Comprehension} {scope : Scope} {p : Pos} {hide : List Nat} {it : IT} {e₁ : X} {src : PV} {items r : List PV} {x : X}
    (hkind : scope.kind = .function) (hs : scopeOk sc scope.names = true) (hh : hideOk nms scope.names hide = true) (hi : CorIt nms g.fname sc it e₁ ie) (ea : L.ev e₁ ρ P = some (src, P₁)) (ei : iterItems it src = some items)
    (sk : ScOK sc env) (fr : FrOK g M s.heap env nms ρ) (pr : Pre g n A M P s)
    (hloop : ∀ {N : Addr → Prop} {D I : Addr} {cenv : Env} {s₄ : Shared} {R : Result → Shared → Prop}, CK g N D cenv scope.names nms (hideAll hide ρ) → VisIn scope.names nms (hideAll hide ρ) [] → ¬ N I → ItAt g.ap g.C s₄.heap I (plus N I) items →
      CS g n A (plus N I) D cenv nms (hideAll hide ρ) P₁ [] s₄ → (P₁.isSome = true → N g.ap) →
      (∀ s', Ext (fun a => XS g P₁ cenv.locals D a ∨ a = I) s₄ s' → CS g n A N D cenv nms (hideAll hide ρ) P' r s' → P'.isSome = P₁.isSome → R (.ok .next) s') →
      codeAny (model g.prog g.w) A (.compLoop (.ListComp le (⟨te, ie, ifs, 0⟩ :: rest) scope p) 0 (.ref I) (.ref D) cenv) R s₄)
    (fin : ∀ C D s', s.heap.get? C = none → ¬ M C → g.B C = none → C ≠ D → (∃ m, s'.heap.Ns C m) → FrOK g (plus M C) s'.heap env nms ρ → PostE g (plus M C) P P' s x (.list r) (.ref D) s' → compPost (model g.prog g.w) A NoE use Qf (.ref D) C (.ok .next) s') :
    wpAny (model g.prog g.w) A (comprehension (.ListComp le (⟨te, ie, ifs, 0⟩ :: rest) scope p) scope env pos (newList []) false (eval ie env) use) Qf NoE s := by
  (refine el11 (comp_env hkind hs hh sk fr) ?_; intro cl hclos hcomp)
  have hcell : ∀ y ∈ scope.names, y.2 ≠ .cell := fun y hy e => by
    (refine el01 (scopeOk_at (x := y.1) (k := y.2) hs hy) ?_; intro h1 _)
    rw [e] at h1; rcases h1 with h1 | h1 | h1 <;> cases h1
  have hnames : ∀ y ∈ scope.names, y.2 = .local → scope.names.lookup y.1 = some .local := fun y hy e => by
    (refine el02 (scopeOk_at (x := y.1) (k := y.2) hs hy) ?_; intro _ h1 _)
    rw [e] at h1
    generalize scope.names.lookup y.1 = q at h1 ⊢
    cases q with
    | none => cases h1
    | some q => cases q <;> first | rfl | cases h1
  refine wpAny_comprehension_free (use := use) rfl (fold_it hi) hclos hkind hnames ?_
  refine it_start hL ok hi ea ei sk fr pr fun I s₂ x₂ pr₂ h₂ hI hit₂ => ?_
  refine wpAny_newObj_type (wpAny_newFunctionEnv hcell (by intro y hy; simp at hy) (fun h₁ hns₁ hsb₁ => ?_) hkind)
  dsimp only at hns₁ hsb₁ ⊢
  generalize hH2 : s₂.heap.push { cls := .type "list", dict := none, data := .seq ([] : List Value).toArray } = H2 at hns₁ hsb₁ ⊢
  have hC : H2.objs.size = s₂.heap.objs.size + 1 := by rw [← hH2, Heap.size_push]
  generalize hDe : s₂.heap.objs.size = D at hC
  generalize hCe : H2.objs.size = C at hns₁ hsb₁ hC
  have hD₂ : s₂.heap.get? D = none := hDe ▸ get_size _
  have hDC : D ≠ C := by rw [hC]; exact Nat.ne_of_lt (Nat.lt_succ_self _)
  have hC₂ : s₂.heap.get? C = none := by
    cases e : s₂.heap.get? C with
    | none => rfl
    | some o => have := Heap.lt_size e; rw [hC, hDe] at this; exact absurd this (Nat.not_lt.mpr (Nat.le_succ D))
  have below : ∀ b, b < s₂.heap.objs.size → b ≠ C ∧ b ≠ D := fun b hb => by rw [hDe] at hb; exact ⟨by rw [hC]; exact Nat.ne_of_lt (Nat.lt_succ_of_lt hb), Nat.ne_of_lt hb⟩
  have old : ∀ b o, s₂.heap.get? b = some o → h₁.get? b = some o := fun b o e => hsb₁.extBut b o (below b (Heap.lt_size e)).1 (Heap.get?_push_of_some _ (hH2 ▸ Heap.get?_push_of_some _ e))
  have hacc : h₁.PlainList D #[] := ⟨_, hsb₁.extBut _ _ hDC (Heap.get?_push_of_some _ (hH2 ▸ hDe ▸ Heap.get?_push_size _ rfl))⟩
  have none0 : ∀ a, s₂.heap.get? a = none → s.heap.get? a = none := fun a h => pr.none ok x₂ h₂ pr₂.reg h
  have hID : I ≠ D ∧ I ≠ C := by
    (refine el10 (pr₂.ma I (.inr rfl)) ?_; intro o ho)
    have := below I (Heap.lt_size ho)
    exact ⟨this.2, this.1⟩
  let N : Addr → Prop := plus (plus M D) C
  have loop : ∀ s₄ : Shared, s₄ = { s₂ with heap := h₁, toks := s₂.toks + ([] : List (Str × Value)).length } →
      codeAny (model g.prog g.w) A (.compLoop (.ListComp le (⟨te, ie, ifs, 0⟩ :: rest) scope p) 0 (.ref I) (.ref D) (compEnvC scope cl C env)) (compPost (model g.prog g.w) A NoE use Qf (.ref D) C) s₄ := by
    rintro s₄ rfl
    have e0 : Ext0 s₂ { s₂ with heap := h₁, toks := s₂.toks + ([] : List (Str × Value)).length } := Ext0.of s₂ old
    have x₄ := x₂.tr0 e0
    have hM : ∀ a, plus N I a → M a ∨ s.heap.get? a = none := by
      rintro a (((q | rfl) | rfl) | rfl)
      · exact .inl q
      · exact .inr (none0 _ hD₂)
      · exact .inr (none0 _ hC₂)
      · exact .inr hI
    have hNI : ¬ N I := by
      rintro ((q | q) | q)
      · exact pr.ma.not hI q
      · exact hID.1 q
      · exact hID.2 q
    have hap : P₁.isSome = true → N g.ap := fun q => .inl (.inl (pr.mr (h₂ ▸ q)))
    have hns : (compEnvC scope cl C env).locals = C := rfl
    have hmN : ∀ a, plus N I a → ∃ o, h₁.get? a = some o := by
      rintro a (((q | rfl) | rfl) | rfl)
      · (refine el10 (pr₂.ma a (.inl q)) ?_; intro o ho); exact ⟨o, old _ _ ho⟩
      · (refine el11 (IsList_plain hacc) ?_; intro o ho _); exact ⟨o, ho⟩
      · (refine el31 hns₁ ?_; try clear hns₁; intro o _ _ ho _); exact ⟨o, ho⟩
      · (refine el10 (pr₂.ma a (.inr rfl)) ?_; intro o ho); exact ⟨o, old _ _ ho⟩
    have hBN : ∀ a, plus N I a → g.B a = Option.none := by
      rintro a (((q | rfl) | rfl) | rfl)
      · exact pr.mb a q
      · exact pr₂.free hD₂
      · exact pr₂.free hC₂
      · exact pr₂.mb a (.inr rfl)
    have pr₄ : Pre g n A (plus N I) P₁ { s₂ with heap := h₁, toks := s₂.toks + ([] : List (Str × Value)).length } :=
      pr₂.mv e0 (fun _ q => q.elim) (fun _ q => q) hBN hmN fun q => .inl (hap q)
    have fr₄ : FrOK g (plus N I) h₁ env nms ρ := fr.grow pr x₄ hM
    have dap : P₁.isSome = true → D ≠ g.ap := fun q e => by
      (refine el11 (pr₂.reg.is q) ?_; intro o ho _)
      rw [← e, hD₂] at ho; cases ho
    have k : CK g N D (compEnvC scope cl C env) scope.names nms (hideAll hide ρ) := by
      refine ⟨.inr rfl, .inl (.inr rfl), hDC, (hcomp C).1, fun i y h1 h2 => ?_⟩
      cases e : lk (hideAll hide ρ) i with
      | none => rfl
      | some q =>
        exfalso
        (refine el01 (lk_hide e) ?_; intro k1 _)
        have hi : i < nms.length := (List.getElem?_eq_some_iff.mp h1).1
        have := List.all_eq_true.mp hh i (List.mem_range.mpr hi)
        rw [h1] at this
        simp only [Bool.or_eq_true, Bool.not_eq_true', beq_eq_false_iff_ne, List.contains_iff_mem] at this
        exact this.elim (fun e => e h2) k1
    refine hloop k (fun j y h1 h2 _ => k.hid j y h1 h2) hNI (hit₂.mono (fun o ho => old _ _ ho) (fun a o _ ho => old _ _ ho) ?_) ⟨pr₄, (hcomp C).2 fr₄ hns₁, dap, _, hacc, .nil⟩ hap fun s' x' c' h' => ?_
    · rintro a (((q | rfl) | rfl) | rfl)
      · exact .inl (.inl q)
      · exact .inr hD₂
      · exact .inr hC₂
      · exact .inl (.inr rfl)
    · (refine el11 (c'.fr.ns) ?_; intro m' hn' _)
      (refine el11 (c'.acc) ?_; intro vs hpl h2)
      have hrl : RlAll g.ap g.C (plus M C) s'.heap vs.toList r := h2.mono (fun a o na ho => ho) fun a q => q.elim (fun q => .inl (.inl (.inl q))) fun q => .inl (.inr q)
      have hMD : ¬ plus M C D := fun q => q.elim (pr.ma.not (none0 _ hD₂)) hDC
      have xa : Ext (XR g P) s s' := x₄.trans x' (fun _ q => q) fun b o q hb => by
        rcases q with (q | q | q) | q
        · exact (XR_congr h₂).mp q
        · rw [q, hns, none0 _ hC₂] at hb; cases hb
        · rw [q, none0 _ hD₂] at hb; cases hb
        · rw [q, hI] at hb; cases hb
      have hfr : FrOK g (plus M C) s'.heap env nms ρ := fr.grow pr xa fun a q => q.elim .inl fun q => .inr (q ▸ none0 _ hC₂)
      exact fin C D s' (none0 _ hC₂) (pr.ma.not (none0 _ hC₂)) (hBN C (.inl (.inr rfl))) hDC.symm ⟨m', hn'⟩ hfr ⟨xa, .list hMD hpl.isList hrl, c'.pr.reg, h'.trans h₂, fun _ _ => (mk12 D rfl (none0 _ hD₂) (mk11 vs hpl hrl))⟩
  subst hDe
  have lp := loop _ rfl
  have hit₄ : ItAt g.ap g.C h₁ I (plus M I) items := hit₂.mono (fun o ho => old _ _ ho) (fun a o _ ho => old _ _ ho) fun a q => .inl q
  subst hCe
  exact codeAny_compStart_list lp (iter_self (s := { s₂ with heap := h₁, toks := s₂.toks + ([] : List (Str × Value)).length }) hit₄ lp)
@[elab_as_elim] theorem lc_eq {le le' : PySem.Expr} {gs gs' : List Comprehension} {sc sc' : Scope} {p p' : Pos} {motive : PySem.Expr → List Comprehension → Scope → Pos → Prop} (q : PySem.Expr.ListComp le gs sc p = .ListComp le' gs' sc' p') (k : motive le' gs' sc' p') : motive le gs sc p := by
  cases q; exact k
theorem comp_any (hL : EvOK g n L) (hT : EvTOK g n L) (ok : g.OK) {use : Option (Value → Sem Unit)} {Qf : Value → Shared → Prop} {pos p : Pos} {x : X} {le : PySem.Expr} {gens : List Comprehension} {scope : Scope} {v : PV}
    (hc : CorE nms g.fname sc x (.ListComp le gens scope p)) (h : stepEv L srt x ρ P = some (v, P')) (sk : ScOK sc env) (fr : FrOK g M s.heap env nms ρ) (pr : Pre g n A M P s)
    (fin : ∀ C D s', s.heap.get? C = none → ¬ M C → g.B C = none → C ≠ D → (∃ m, s'.heap.Ns C m) → FrOK g (plus M C) s'.heap env nms ρ → PostE g (plus M C) P P' s x v (.ref D) s' → compPost (model g.prog g.w) A NoE use Qf (.ref D) C (.ok .next) s') :
    wpAny (model g.prog g.w) A (comprehension (.ListComp le gens scope p) scope env pos (newList []) (firstAsync gens) (firstIter gens env) use) Qf NoE s := by
  have hlc := hc.lc
  revert hc h fin
  refine lcX_el hlc ?_ ?_ <;> clear hlc x
  · intro elt t it e₀ c hide hc h fin
    (refine el40 (hc.inv) ?_; clear hc; intro _ te ie ifs zr0; refine el24 zr0 ?_; clear zr0; intro _ _ q hkind hs hh zr1; refine el04 zr1 ?_; clear zr1; intro hsep ht hi hc he)
    refine lc_eq q ?_
    delta stepEv at h
    refine ifS_el h fun src P₁ ea h => bd_el h fun items ei h => ifS_el h fun r P₂ e1 h => if_el h fun hz h => ?_
    · · · cases h
          exact comp_use hL ok hkind hs hh hi ea ei sk fr pr (fun k v0 hNI hit cs hap hR =>
            comp_loop turn1 rfl rfl rfl k hNI (fun hf v s acc cs hz rv Q hQ => elt_body hL hT ok hc he ht k.up v0 (by simpa using apart_of hsep) hf cs hz rv hQ) e1 (by simpa using small_lt hz) hit cs hap hR) fin
  · intro elt t₁ it₁ e₁ t₂ it₂ e₂ c hide hc h fin
    (refine el40 (hc.inv) ?_; clear hc; intro _ te₁ ie₁ te₂ zr0; refine el44 zr0 ?_; clear zr0; intro ie₂ ifs _ _ q hkind hs hh zr1; refine el04 zr1 ?_; clear zr1; intro hsep ht₁ ht₂ hi₁ zr2; refine el02 zr2 ?_; clear zr2; intro hi₂ hc he)
    refine lc_eq q ?_
    delta stepEv at h
    refine ifS_el h fun src P₁ ea h => bd_el h fun items ei h => ifS_el h fun r P₂ e1 h => if_el h fun hz h => ?_
    · · · cases h
          exact comp_use hL ok hkind hs hh hi₁ ea ei sk fr pr (fun k v0 hNI hit cs hap hR =>
            comp_loop turn21 rfl rfl rfl k hNI (fun hf v s acc cs hz rv Q hQ => in_body hL hT ok hc he hi₂ ht₁ ht₂ k.up v0 (apart_of hsep) hf cs hz rv hQ) e1 (by simpa using small_lt hz) hit cs hap hR) fin
theorem ev_comp (hL : EvOK g n L) (hT : EvTOK g n L) (ok : g.OK) {p : Pos} {x : X} {le : PySem.Expr} {gens : List Comprehension} {scope : Scope} {v : PV}
    (hc : CorE nms g.fname sc x (.ListComp le gens scope p)) (h : stepEv L srt x ρ P = some (v, P')) (sk : ScOK sc env) (fr : FrOK g M s.heap env nms ρ) (pr : Pre g n A M P s) :
    wpAny (model g.prog g.w) A (eval (.ListComp le gens scope p) env) (PostE g M P P' s x v) NoE s := by
  rw [eval_ListComp]
  refine comp_any hL hT ok hc h sk fr pr fun C D s' hC hMC hBC hCD hns _ q => ?_
  (refine el10 hns ?_; try clear hns; intro m' hn')
  refine (mk11 m' hn' (fun h'' hs'' => ?_))
  have x'' : Ext (fun a => a = C) s' { s' with heap := h'' } := Ext.sameBut (tk := s'.toks) s' hs''
  have dn : ∀ {v : Value} {l : PV}, Rl g.ap g.C (plus M C) s'.heap v l → Rl g.ap g.C M h'' v l := fun r => r.mono (fun a o na ho => x''.keep a o (fun q => na (.inr q)) ho) fun a q => .inl (.inl q)
  have hCap : P'.isSome = true → C ≠ g.ap := fun hP e => hMC (e ▸ pr.mr (q.same ▸ hP))
  refine ⟨q.ext.trans x'' (fun _ q => q) fun b o e hb => ?_, dn q.rl, q.reg.mv x'' (fun a e => e ▸ hBC) (fun hP e => hCap hP e.symm), q.same, fun hf hl => ?_⟩
  · rw [e, hC] at hb; cases hb
  · (refine el12 (q.fresh hf hl) ?_; intro a ea h1 h2)
    cases ea
    refine (mk12 D rfl h1 ?_)
    cases v with
    | list l =>
      (refine el11 h2 ?_; try clear h2; intro vs h3 h4)
      exact (mk11 vs (h3.at fun o ho => x''.keep _ _ hCD.symm ho) (h4.mono (fun a o na ho => x''.keep a o (fun q => na (.inr q)) ho) fun a q => .inl (.inl q)))
    | dict d =>
      have r := dn q.rl
      exact r.dictAt
    | _ => exact ff_ hl
end
end Mine
end
section
open PySem PySem.W PyProof.Rows
set_option Elab.async false
set_option maxRecDepth 100000
namespace Mine
inductive MP (ap C : Addr) (M : Addr → Prop) (h : Heap) : List (Value × Value) → List Nat → List (List Int) → Prop
  | nil : MP ap C M h [] [] []
  | cons {k : Nat} {t : Tok} {v : Value} {l : List Int} {r : List (Value × Value)} {ks : List Nat} {ls : List (List Int)} : k < stN → Rl ap C M h v (.list (l.map .int)) → MP ap C M h r ks ls → MP ap C M h ((.str (st k) t, v) :: r) (k :: ks) (l :: ls)
section
variable {ap C : Addr} {M : Addr → Prop} {h : Heap}
theorem MP.ext {s s' : Shared} {X : Addr → Prop} (x : Ext X s s') (hX : ∀ a, X a → M a) {ps : List (Value × Value)} {ks : List Nat} {ls : List (List Int)} (m : MP ap C M s.heap ps ks ls) : MP ap C M s'.heap ps ks ls := by
  induction m with
  | nil => exact .nil
  | cons hk r m ih => exact .cons hk (r.ext x hX) ih
theorem MP.keys {ps : List (Value × Value)} {ks : List Nat} {ls : List (List Int)} (m : MP ap C M h ps ks ls) : allStrKeys ps = true ∧ (strPairs ps).map (·.1) = ks.map st ∧ ∀ k ∈ ks, k < stN := by
  induction m with
  | nil => exact ⟨rfl, rfl, fun _ h => nomatch h⟩
  | cons hk r m ih =>
    (refine el02 ih ?_; intro h1 h2 h3)
    refine ⟨h1, ?_, ?_⟩
    · simp only [strPairs, List.map_cons, h2]
    · intro k hk'
      rcases List.mem_cons.mp hk' with rfl | hk'
      · exact hk
      · exact h3 k hk'
theorem st_eq {i j : Nat} (hi : i < stN) (hj : j < stN) (e : st i = st j) : i = j := by
  have := st_inj i hi j hj
  rw [e, beq_self_eq_true] at this
  exact Nat.eq_of_beq_eq_true this.symm
theorem nodup_st : ∀ {ks : List Nat}, (∀ k ∈ ks, k < stN) → ks.Nodup → (ks.map st).Nodup
  | [], _, _ => List.nodup_nil
  | k :: ks, h, hn => by
    rw [List.map_cons]
    rw [List.nodup_cons] at hn ⊢
    refine ⟨fun q => ?_, nodup_st (fun j hj => h j (.tail _ hj)) hn.2⟩
    (refine el11 (List.mem_map.mp q) ?_; intro j hj e)
    have := st_eq (h j (.tail _ hj)) (h k (.head _)) e
    exact hn.1 (this ▸ hj)
theorem MP.at {ps : List (Value × Value)} {ks : List Nat} {ls : List (List Int)} (m : MP ap C M h ps ks ls) : ∀ {i : Nat} {l : List Int}, i < stN → menuAt ks ls i = some l → ∃ v, valueAt (strPairs ps) (st i) = some v ∧ Rl ap C M h v (.list (l.map .int)) := by
  induction m with
  | nil => exact fun _ e => ns_ e
  | @cons k t v l' r ks ls hk rv m ih =>
    intro i l hi e
    replace e : (if Nat.beq k i = true then some l' else menuAt ks ls i) = some l := e
    by_cases q : k = i
    · subst q
      rw [show Nat.beq k k = true from Nat.beq_refl k, if_pos rfl] at e
      exact so_el e (mk11 v (by simp [strPairs, valueAt]) rv)
    · have hb : ¬ Nat.beq k i = true := fun hb => q (Nat.eq_of_beq_eq_true hb)
      rw [if_neg hb] at e
      (refine el11 (ih hi e) ?_; intro v' h1 h2)
      refine (mk11 v' ?_ h2)
      have : ¬ st k = st i := fun e => q (st_eq hk hi e)
      simpa [strPairs, valueAt, List.find?_cons, this] using h1
end
section
variable {g : G} {n : Nat} {L : Lv} {A : Around} {M M' : Addr → Prop} {P P' P₁ P₂ : Reg} {s s' s₁ : Shared} {env : Env} {nms : List Str} {sc csc : Sc} {ρ ρ' ρ₁ ρ₂ : Vw} {srt : List PV → Option (List PV)}
theorem ints_rl {ap C ap' C' : Addr} {M M' : Addr → Prop} {h h' : Heap} : ∀ {l : List Int} {vs : List Value}, RlAll ap C M h vs (l.map .int) → RlAll ap' C' M' h' vs (l.map .int)
  | [], _, r => r.nil_inv ▸ .nil
  | i :: l, _, r => RlAll.cons_el (motive := fun vs => RlAll ap' C' M' h' vs ((i :: l).map .int)) (l := l.map .int) r fun v vs x r => .cons (Rl.int_el (motive := fun v => Rl ap' C' M' h' v (.int i)) x fun t => .int _ _) (ints_rl r)
theorem ints_spliced {pos : Pos} : ∀ {is : List Int} {es : List PySem.Expr}, intLits is es = true → ∀ {s : Shared} {Q : List Value → Shared → Prop}, (∀ vs tk, RlAll g.ap g.C M s.heap vs (is.map .int) → Q vs { s with toks := tk }) → wpAny (model g.prog g.w) A (spliced (backTo pos (starEach es env))) Q NoE s
  | [], es, hi, s, Q, h => by rw [nil_ hi]; exact Calls.spliced_nil (h [] s.toks .nil)
  | i :: is, es, hi, s, Q, h => by
    refine onCons_el hi fun e es hi => onConst_el hi fun c k p hi => onInt_el hi fun j hi => ?_
    obtain rfl := eq_of_beq (all2 hi).1
    show wpAny _ _ (spliced (backTo pos ((false, eval _ env) :: starEach es env))) _ _ _
    rw [back_cons]
    refine Calls.spliced_cons (wpAny_Constant_int (ints_spliced (all2 hi).2 fun vs tk r => ?_))
    exact h _ _ (.cons (.int _ _) r)
theorem menuOk_nil {vals : List (List Int)} {ks : List (Option PySem.Expr)} {vs : List PySem.Expr} (h : menuOk [] vals ks vs = true) : vals = [] ∧ ks = [] ∧ vs = [] := ⟨nil_ (all3 h).1, nil_ (all3 h).2.1, nil_ (all3 h).2.2⟩
@[elab_as_elim] theorem menuOk_cons {k : Nat} {keys : List Nat} {motive : List (List Int) → List (Option PySem.Expr) → List PySem.Expr → Prop} {vals : List (List Int)} {ks : List (Option PySem.Expr)} {vs : List PySem.Expr} (h : menuOk (k :: keys) vals ks vs = true)
    (kk : ∀ v vals c p ks l p' vs, k < stN → intLits v l = true → menuOk keys vals ks vs = true → motive (v :: vals) (some (.Constant (.str (st k)) c p) :: ks) (.List l p' :: vs)) : motive vals ks vs :=
  onCons_el (motive := fun vals => motive vals ks vs) h fun v vals h => onCons_el (motive := fun ks => motive (v :: vals) ks vs) h fun e0 ks h => onCons_el (motive := fun vs => motive (v :: vals) (e0 :: ks) vs) h fun s0 vs h =>
    onSm_el (motive := fun e0 => motive (v :: vals) (e0 :: ks) (s0 :: vs)) h fun e0 h => onConst_el (motive := fun e0 => motive (v :: vals) (some e0 :: ks) (s0 :: vs)) h fun c cc p h => onStr_el (motive := fun c => motive (v :: vals) (some (.Constant c cc p) :: ks) (s0 :: vs)) h fun x h =>
    onList_el (motive := fun s0 => motive (v :: vals) (some (.Constant (.str x) cc p) :: ks) (s0 :: vs)) h fun l p' h => by
      rw [eq_of_beq (all4 h).2.1]
      exact kk _ _ _ _ _ _ _ _ (Nat.le_of_ble_eq_true (all4 h).1) (all4 h).2.2.1 (all4 h).2.2.2
theorem menu_pairs {pos : Pos} : ∀ {keys : List Nat} {vals : List (List Int)} {ks : List (Option PySem.Expr)} {vs : List PySem.Expr}, menuOk keys vals ks vs = true → ∀ {s : Shared}, MA M s.heap → ∀ {Q : List (Value × Value) → Shared → Prop},
    (∀ ps s', Ext0 s s' → MP g.ap g.C M s'.heap ps keys vals → Q ps s') → (∀ v ∈ vals, v.length < 65536) → wpAny (model g.prog g.w) A (evalPairs (pairTrees ks vs env pos)) Q NoE s := by
  intro keys
  induction keys with
  | nil =>
    intro vals ks vs h s hM Q hQ hz
    (refine el02 (menuOk_nil h) ?_; intro zq0 zq1 zq2; subst zq0; subst zq1; subst zq2)
    exact pairTrees_nil_walk (hQ _ _ (Ext.refl ..) .nil)
  | cons k keys ih =>
    intro vals ks vs h s hM Q hQ hz
    revert hQ hz
    refine menuOk_cons h fun v vals' kk p ks' l p' vs' h1 h3 h4 hQ hz => ?_
    · refine pairTrees_cons_walk (wpAny_Constant_str (wpAny_List (ints_spliced (M := M) h3 fun us tk r => ⟨?_, ?_⟩)))
      · have := r.length
        rw [List.length_map] at this
        rw [this, sizeLine_eq]
        have := hz v (.head _)
        lia
      · have e1 : Ext0 s { s with toks := tk } := Ext0.tok ..
        have hM' : MA M ({ s with toks := tk } : Shared).heap := hM
        have e2 := push_list (s := { s with toks := tk }) (ap := g.ap) (C := g.C) hM' r tk
        refine ih h4 (fun a q => ?_) (fun ps s' e m => ?_) fun v hv => hz v (.tail _ hv)
        · (refine el10 (hM a q) ?_; intro o ho)
          exact ⟨o, e2.1.all _ _ ho⟩
        · exact hQ _ _ ((e1.tr e2.1).tr e) (.cons h1 (e2.2.ext0 e) m)
theorem menuOk_len : ∀ {keys : List Nat} {vals : List (List Int)} {ks : List (Option PySem.Expr)} {vs : List PySem.Expr}, menuOk keys vals ks vs = true → ks.all (·.isSome) = true ∧ ks.length = vs.length ∧ ks.length = keys.length := by
  intro keys
  induction keys with
  | nil =>
    intro vals ks vs h
    (refine el02 (menuOk_nil h) ?_; intro zq0 zq1 zq2; subst zq0; subst zq1; subst zq2)
    exact ⟨rfl, rfl, rfl⟩
  | cons k keys ih =>
    intro vals ks vs h
    refine menuOk_cons h fun v vals' kk p ks' l p' vs' h1 h3 h4 => ?_
    · (refine el02 (ih h4) ?_; intro h1 h2 h3)
      exact ⟨by simpa using h1, by simpa using h2, by simpa using h3⟩
theorem ev_menu (hL : EvOK g n L) (ok : g.OK) {keys : List Nat} {vals : List (List Int)} {i : X} {ks : List (Option PySem.Expr)} {vs : List PySem.Expr} {ie : PySem.Expr} {p p' : Pos} {v : PV} (hsl : noSlice ie = true) (hm : menuOk keys vals ks vs = true) (hf : menuFit keys vals = true) (hi : CorE nms g.fname sc i ie)
    (h : stepEv L srt (.menu keys vals i) ρ P = some (v, P')) (sk : ScOK sc env) (fr : FrOK g M s.heap env nms ρ) (pr : Pre g n A M P s) :
    wpAny (model g.prog g.w) A (eval (.Subscript (.Dict ks vs p') ie p) env) (PostE g M P P' s (.menu keys vals i) v) NoE s := by
  (refine el11 (op1_some h) ?_; intro y e1 e2)
  simp only [menuFit, Bool.and_eq_true, decide_eq_true_eq] at hf
  (refine el01 hf ?_; try clear hf; intro hf hzv')
  have hzv : ∀ v ∈ vals, v.length < 65536 := fun v hv => of_decide_eq_true (List.all_eq_true.mp hzv' v hv)
  clear hzv'
  (refine el02 (menuOk_len hm) ?_; intro l1 l2 l3)
  refine Subscript_ (wpAny_Dict_walk (knd := strKind g.prog g.w) l1 l2 (fun e => ?_) (by lia) ?_)
  · rw [e] at l3; simp at l3; lia
  have e0 : Ext0 s { s with heap := s.heap.push { cls := .type "dict", data := .dict #[] } } := Ext0.push s _ s.toks
  have ho : (s.heap.push { cls := .type "dict", data := .dict #[] }).get? s.heap.objs.size = some ({ cls := .type "dict", data := .dict #[] } : Obj) := Heap.get?_push_size _ rfl
  have hMp : MA M (s.heap.push { cls := .type "dict", data := .dict #[] }) := fun a q => by
    (refine el10 (pr.ma a q) ?_; intro o ho)
    exact ⟨o, e0.all _ _ ho⟩
  refine menu_pairs hm hMp (fun ps s₁ x₁ m => ?_) hzv
  (refine el02 (m.keys) ?_; intro m1 m2 m3)
  have hD₁ : s₁.heap.DictOf (strKind g.prog g.w) s.heap.objs.size [] := (mk34 _ (#[]) 0 (x₁.all _ _ ho) ⟨rfl, rfl, rfl⟩ rfl (by intro e he; simp at he) (mk01 .nil List.nodup_nil))
  refine display_done_str m1 (by rw [m2]; exact nodup_st m3 hf.1.1) hD₁ fun h' hD' hs' => ?_
  have hk : ∀ b o, b ≠ s.heap.objs.size → s₁.heap.get? b = some o → h'.get? b = some o := fun b o hb e => (hs'.2 b hb).trans e
  generalize hDa : s.heap.objs.size = D at hD' hs' hk
  have hDn : s.heap.get? D = none := hDa ▸ get_size _
  have x₂ : Ext (fun a => a = D) s₁ { s₁ with heap := h', toks := s₁.toks + ps.length } := Ext.sameBut s₁ hs'
  have x02 : Ext0 s { s₁ with heap := h', toks := s₁.toks + ps.length } := (e0.tr x₁).trans x₂ (fun _ q => q) fun a o q hb => by rw [q, hDn] at hb; cases hb
  have m' : MP g.ap g.C M h' ps keys vals := by
    have hMD : ¬ M D := pr.ma.not hDn
    have keepR : ∀ {v : Value} {l : List Int}, Rl g.ap g.C M s₁.heap v (.list (l.map .int)) → Rl g.ap g.C M h' v (.list (l.map .int)) := fun {v l} r => r.list_el fun a vs ha hl hr => by
      have hne : a ≠ D := by
        rintro rfl
        (refine el12 hl ?_; try clear hl; intro o ho' hc _)
        rw [← hDa, x₁.all _ _ ho] at ho'; cases ho'
        simp at hc
      exact .list ha (hl.at fun o ho => hk _ o hne ho) (ints_rl hr)
    clear hDa hD' hs' x₂ x02 hD₁ m1 m2 m3 hm hf l1 l2 l3 hzv h e1 e2
    induction m with
    | nil => exact .nil
    | cons a b _ ih => exact .cons a (keepR b) ih
  have pr₂ := pr.next0 ok x02
  have fr₂ := fr.next0 x02
  revert e1
  refine PV.onS_el e2 (fun e => ns_ e) fun k e2 e1 => ?_
  refine one_ hL hi e1 sk fr₂ pr₂ ok fun u s₃ x₃ pr₃ fr₃ r₃ h₃ => ?_
  · (refine el11 (Option.map_eq_some_iff.mp e2) ?_; intro l h1 zq0; subst zq0)
    refine r₃.sym_el fun t hk' => ?_
    · have hDap : ¬ XR g P D := fun q => by
        (refine el11 (pr.reg.is q.1) ?_; intro o ho _)
        rw [← q.2, hDn] at ho; cases ho
      have hD₃ : s₃.heap.DictOf (strKind g.prog g.w) D (strPairs ps) := by
        (refine el31 hD' ?_; try clear hD'; intro o es ep q1 q2)
        exact (mk31 o es ep (x₃.keep _ _ hDap q1) q2)
      (refine el11 (MP.at (m'.ext (s := { s₁ with heap := h', toks := s₁.toks + ps.length }) x₃ pr₂.x0) hk' h1) ?_; intro u h3 h4)
      refine tail_any hD₃.typeIs slot_dict_getitem.lookup (wpAny_getItem_of (knd := strKind g.prog g.w) (strKind_is g.prog g.w _ _) hD₃.mapOf h3 ?_) (noSlice_sub hsl _ _)
      exact PostE.on pr₃ (x02.tr x₃) h₃ ⟨Ext0.tok .., h4.ext0 (Ext0.tok ..)⟩ rfl
end
end Mine
end
section
open PySem PySem.W PyProof.Rows
set_option Elab.async false
set_option maxRecDepth 100000
namespace Mine
section
variable {g : G} {n : Nat} {L : Lv} {A : Around} {M M' : Addr → Prop} {P P' P₁ P₂ : Reg} {s s' s₁ : Shared} {env : Env} {nms : List Str} {sc csc : Sc} {ρ ρ' ρ₁ ρ₂ : Vw} {srt : List PV → Option (List PV)}
theorem ev_step (hL : EvOK g n L) (hT : EvTOK g n L) (hF : FnOK g n L) (ok : g.OK) (hS : SortOK g srt) : EvOK g (n + 1) (⟨stepEv L srt, L.evT, L.ex, L.fn⟩ : Lv) := by
  intro x e sc nms hc ρ P P' v h env A M s sk fr pr
  have pr' := pr.pred
  simp only at h
  have hi := hc.inv
  cases x with
  | none => (refine el20 hi ?_; try clear hi; intro k p zq0; subst zq0); cases h; exact wpAny_Constant_none (ev_lit pr' rfl _ .none)
  | bool => (refine el20 hi ?_; try clear hi; intro k p zq0; subst zq0); cases h; exact wpAny_Constant_bool (ev_lit pr' rfl _ (.bool _))
  | int => (refine el20 hi ?_; try clear hi; intro k p zq0; subst zq0); cases h; exact wpAny_Constant_int (ev_lit pr' rfl _ (.int _ _))
  | sym j =>
    (refine el20 hi ?_; try clear hi; intro k p zq0; subst zq0)
    exact if_el h fun hk h => sp_el h (wpAny_Constant_str (ev_lit pr' rfl _ (.sym _ _ hk)))
  | neg1 => (refine el30 hi ?_; try clear hi; intro k p p' zq0; subst zq0); cases h; exact UnaryOp_ (wpAny_Constant_int (neg_int (ev_lit (s := s) pr' rfl _ (.int _ _))))
  | var i =>
    (refine el23 hi ?_; try clear hi; intro y p zq0 hx hv hn; subst zq0)
    (refine el11 (Option.map_eq_some_iff.mp h) ?_; intro q h1 h2)
    cases h2
    simp only [isV, Bool.or_eq_true, beq_iff_eq] at hv
    refine load_var fr hx h1 (by rw [← sk y]; exact hv) hn fun v r => ?_
    exact PostE.of_res pr' ⟨Ext.refl .., r⟩ rfl
  | bin op a b => (refine el32 hi ?_; try clear hi; intro l r p zq0 ha hb; subst zq0); exact ev_bin hL ok ha hb h sk fr pr'
  | not a => exact ns_ h
  | and a b => (refine el32 hi ?_; try clear hi; intro l r p zq0 ha hb; subst zq0); exact ev_and hL ok ha hb h sk fr pr'
  | or a b => (refine el32 hi ?_; try clear hi; intro l r p zq0 ha hb; subst zq0); exact ev_or hL ok ha hb h sk fr pr'
  | cmp op a b => (refine el33 hi ?_; try clear hi; intro l r p zq0 hm ha hb; subst zq0); exact ev_cmp hL ok hm ha hb h sk fr pr'
  | isNone a => (refine el41 hi ?_; try clear hi; intro l k p' p zq0 ha; subst zq0); exact ev_isNone hL ok ha h sk fr pr'
  | notNone a => (refine el41 hi ?_; try clear hi; intro l k p' p zq0 ha; subst zq0); exact ev_notNone hL ok ha h sk fr pr'
  | ife t a b => (refine el43 hi ?_; try clear hi; intro te ae be p zq0 ht ha hb; subst zq0); exact ev_ife hL hT ok ht ha hb h sk fr pr'
  | call f as => (refine el42 hi ?_; try clear hi; intro e' es p p' zq0 hg hs; subst zq0); exact ev_call hL hF ok hg hs h sk fr pr'
  | len a =>
    (refine el32 hi ?_; try clear hi; intro l p p' zq0 hg ha; subst zq0)
    (refine el11 (op1_some h) ?_; intro y e1 e2)
    exact call_b1 hL ok hg ha e1 sk fr pr' ok.nLen rfl fun v s₁ pr₁ r₁ => op_len e2 r₁
  | toInt a =>
    (refine el32 hi ?_; try clear hi; intro l p p' zq0 hg ha; subst zq0)
    (refine el11 (op1_some h) ?_; intro y e1 e2)
    exact call_t1 hL ok hg ha e1 sk fr pr' ok.nInt rfl fun v s₁ pr₁ r₁ => op_int e2 r₁
  | abs a =>
    (refine el32 hi ?_; try clear hi; intro l p p' zq0 hg ha; subst zq0)
    (refine el11 (op1_some h) ?_; intro y e1 e2)
    exact call_b1 hL ok hg ha e1 sk fr pr' ok.nAbs rfl fun v s₁ pr₁ r₁ => op_abs e2 r₁
  | tupleOf a =>
    (refine el32 hi ?_; try clear hi; intro l p p' zq0 hg ha; subst zq0)
    (refine el11 (op1_some h) ?_; intro y e1 e2)
    exact call_t1 hL ok hg ha e1 sk fr pr' ok.nTuple rfl fun v s₁ pr₁ r₁ => op_tuple pr₁.ma e2 r₁
  | sorted a => (refine el32 hi ?_; try clear hi; intro l p p' zq0 hg ha; subst zq0); exact ev_sorted hL ok hS hg ha h sk fr pr'
  | prim as => (refine el42 hi ?_; try clear hi; intro e' es p p' zq0 hg hs; subst zq0); exact ev_prim hL ok hg hs h sk fr pr
  | attr a j => (refine el40 hi ?_; try clear hi; intro i y m p zr2; refine el13 zr2 ?_; clear zr2; intro p' zq0 zq1 hn ha; subst zq0; subst zq1); exact ev_attr hL ok hn ha h sk fr pr'
  | sub a i => (refine el33 hi ?_; try clear hi; intro v' s' p zq0 hs ha hb; subst zq0); exact ev_sub hL ok hs ha hb h sk fr pr'
  | strAt cs i => (refine el42 hi ?_; try clear hi; intro s' k p p' zq0 hs hb; subst zq0); exact ev_strAt hL ok hs hb h sk fr pr'
  | sliceTo a u => (refine el42 hi ?_; try clear hi; intro v' ue p p' zq0 ha hb; subst zq0); exact ev_sliceTo hL ok ha hb h sk fr pr'
  | sliceFrom1 a => (refine el40 hi ?_; try clear hi; intro v' k p p' zr1; refine el11 zr1 ?_; clear zr1; intro p'' zq0 ha; subst zq0); exact ev_sliceFrom1 hL ok ha h sk fr pr'
  | tup l => (refine el31 hi ?_; try clear hi; intro es k p zq0 hs; subst zq0); exact ev_tup hL ok hs h sk fr pr'
  | list l => (refine el21 hi ?_; try clear hi; intro es p zq0 hs; subst zq0); exact ev_list hL ok hs h sk fr pr'
  | dict0 => (refine el10 hi ?_; try clear hi; intro p zq0; subst zq0); exact ev_dict0 ok h pr'
  | get d k v' => (refine el40 hi ?_; try clear hi; intro i y ke ve zr2; refine el34 zr2 ?_; clear zr2; intro p0 p1 p zq0 zq1 hl hi zr3; refine el01 zr3 ?_; clear zr3; intro hk hv; subst zq0; subst zq1); exact ev_get hL ok hl hi hk hv h sk fr pr'
  | menu keys vals i => (refine el40 hi ?_; try clear hi; intro ks vs s' p zr1; refine el14 zr1 ?_; clear zr1; intro p' zq0 hs hm hf hi; subst zq0); exact ev_menu hL ok hs hm hf hi h sk fr pr'
  | comp1 => (refine el40 hi ?_; try clear hi; intro le te ie ifs zr1; refine el21 zr1 ?_; clear zr1; intro scope p zq0 _; subst zq0); exact ev_comp hL hT ok hc h sk fr pr'
  | comp2 => (refine el40 hi ?_; try clear hi; intro le te₁ ie₁ te₂ zr1; refine el41 zr1 ?_; clear zr1; intro ie₂ ifs scope p zq0 _; subst zq0); exact ev_comp hL hT ok hc h sk fr pr'
end
end Mine
end
section
open PySem PySem.W PyProof.Rows
set_option Elab.async false
set_option maxRecDepth 100000
namespace Mine
noncomputable def MO (Mb : Addr → Prop) (ow : Nat → Option Addr) : Addr → Prop := fun b => Mb b ∨ ∃ i, ow i = some b
noncomputable def LC (env : Env) : Addr → Prop := fun b => b = env.locals ∨ ∃ x, env.cells.lookup x = some b
noncomputable def Wr (g : G) (env : Env) (ow : Nat → Option Addr) (P : Reg) : Addr → Prop := fun b => XR g P b ∨ LC env b ∨ ∃ i, ow i = some b
noncomputable def VarAt (h : Heap) (env : Env) (x : Str) (v : Value) : Prop :=
  (vk (env.kindOf x) = 1 → ∃ m, h.Ns env.locals m ∧ m x = some v) ∧ (vk (env.kindOf x) = 2 → ∃ c, env.cells.lookup x = some c ∧ h.IsCell c (some v))
inductive SlotOK (g : G) (M : Addr → Prop) (h : Heap) (env : Env) (x : Str) : Slot → Option Addr → Prop
  | un : SlotOK g M h env x .un none
  | fz {v : Value} {p : PV} : VarAt h env x v → Rl g.ap g.C M h v p → SlotOK g M h env x (.fz p) none
  | ow {a : Addr} {p : PV} : VarAt h env x (.ref a) → (p.isList || p.isDict) = true → Own g.prog g.w g.ap g.C M h a p → SlotOK g M h env x (.ow p) (some a)
structure FS (Mb : Addr → Prop) (env : Env) (nms : List Str) (nv0 : Nat) : Prop where
  kind : env.scope.kind = .function
  glob : env.globals = mainGlobals
  bu : env.builtins = builtinsNs
  mL : Mb env.locals
  cells : ∀ x, vk (env.kindOf x) = 2 → env.kindOf x = some .cell ∧ ∃ c, env.cells.lookup x = some c
  mC : ∀ x c, env.cells.lookup x = some c → Mb c
  inj : ∀ x y c, env.cells.lookup x = some c → env.cells.lookup y = some c → x = y
  sep : ∀ i j x, i < nv0 → j < nv0 → nms[i]? = some x → nms[j]? = some x → i = j
  nlen : nv0 ≤ nms.length
structure SO (g : G) (n : Nat) (A : Around) (Mb : Addr → Prop) (env : Env) (nms : List Str) (nv0 : Nat) (ow : Nat → Option Addr) (σ : St) (s : Shared) : Prop where
  pr : Pre g n A (MO Mb ow) σ.reg s
  map : σ.reg.isSome = true → Mb g.ap
  ns : ∃ m, s.heap.Ns env.locals m
  cellAt : ∀ x c, env.cells.lookup x = some c → ∃ v, s.heap.IsCell c v
  slots : ∀ i x, i < nv0 → nms[i]? = some x → SlotOK g (MO Mb ow) s.heap env x (lkS σ.loc i) (ow i)
  hi : ∀ i, nv0 ≤ i → lkS σ.loc i = .un ∧ ow i = none
  len : nv0 ≤ σ.loc.length
  oMb : ∀ i a, ow i = some a → ¬ Mb a
  oInj : ∀ i j a, ow i = some a → ow j = some a → i = j
section
variable {g : G} {n : Nat} {L : Lv} {A : Around} {M M' Mb : Addr → Prop} {P P' P₁ P₂ : Reg} {s s' s₁ : Shared} {env : Env} {nms : List Str} {sc csc : Sc} {ρ ρ' ρ₁ ρ₂ : Vw} {srt : List PV → Option (List PV)} {nv0 : Nat} {ow : Nat → Option Addr} {σ : St}
theorem Ns_eq {h : Heap} {a : Addr} {m m' : Str → Option Value} (x : h.Ns a m) (y : h.Ns a m') : m = m' := by
  (refine el33 x ?_; try clear x; intro o es ep ho hd _ hm)
  (refine el33 y ?_; try clear y; intro o' es' ep' ho' hd' _ hm')
  rw [ho] at ho'; cases ho'
  rw [hd] at hd'; cases hd'
  funext z
  rw [← hm z, hm' z]
theorem Own.mono {h h' : Heap} {a : Addr} {p : PV} (o : Own g.prog g.w g.ap g.C M h a p) (hk : ∀ a o, ¬ M a → h.get? a = some o → h'.get? a = some o) (ha : ∀ o, h.get? a = some o → h'.get? a = some o) (hM : ∀ a, M' a → M a ∨ h.get? a = none) : Own g.prog g.w g.ap g.C M' h' a p := by
  cases p with
  | list l =>
    (refine el11 o ?_; try clear o; intro vs h1 h2)
    exact (mk11 vs (h1.at ha) (h2.mono hk hM))
  | dict d =>
    (refine el12 o ?_; try clear o; intro xs zp0 h2 h3; refine el34 zp0 ?_; clear zp0; intro ob es ep q1 q2 q3 q4 zr1; refine el01 zr1 ?_; clear zr1; intro q5 q6)
    have h4 : ∀ x ∈ xs, Rl g.ap g.C M' h' (.ref x.2.1) (encK x.1) := fun x hx => (h3 x hx).mono hk hM
    exact (mk12 xs (mk34 ob es ep (ha _ q1) q2 q3 q4 (mk01 (fun x hx => isDK_of (h4 x hx)) q6)) h2 h4)
  | _ => cases o
theorem Own.obj {h : Heap} {a : Addr} {p : PV} (o : Own g.prog g.w g.ap g.C M h a p) : ∃ ob, h.get? a = some ob ∧ ob.cls ≠ .type "tuple" ∧ (∀ v, ob.data ≠ .cell v) := by
  cases p with
  | list l => (refine el11 o ?_; try clear o; intro vs zp0 _; refine el10 zp0 ?_; clear zp0; intro k h1); exact (mk12 _ h1 (by simp) (by simp))
  | dict d =>
    (refine el11 o ?_; try clear o; intro xs zp0 _; refine el33 zp0 ?_; clear zp0; intro ob es ep q1 q2 q3 _)
    exact (mk12 ob q1 (by rw [q2.1]; simp) (fun v => by rw [q3]; simp))
  | _ => cases o
theorem flat_encK (k : DK) : (encK k).flat = true := by
  have : ∀ l : List Int, flatL (l.map .int) = true := fun l => by
    induction l with
    | nil => rfl
    | cons i l ih => exact ih
  exact (show (flatL (k.2.2.1.map .int) && true) = true by rw [this]; rfl)
theorem Own.up {h : Heap} {a : Addr} {p : PV} (o : Own g.prog g.w g.ap g.C M h a p) (hf : p.ownable = true) (hM : ∀ a, M' a → ¬ M a → ∃ o, h.get? a = some o ∧ o.cls ≠ .type "tuple") : Own g.prog g.w g.ap g.C M' h a p := by
  cases p with
  | list l =>
    (refine el11 o ?_; try clear o; intro vs h1 h2)
    exact (mk11 vs h1 (RlAll.up hM hf h2))
  | dict d =>
    (refine el12 o ?_; try clear o; intro xs q h2 h3)
    exact (mk12 xs q h2 (fun x hx => Rl.up hM (flat_encK _) (h3 x hx)))
  | _ => cases o
theorem VarAt.mv {X : Addr → Prop} {x : Str} {v : Value} (r : VarAt s.heap env x v) (e : Ext X s s') (hL : ¬ X env.locals) (hC : ∀ c, env.cells.lookup x = some c → ¬ X c) : VarAt s'.heap env x v := by
  refine ⟨fun q => ?_, fun q => ?_⟩
  · (refine el11 (r.1 q) ?_; intro m zp0 h2; refine el31 zp0 ?_; clear zp0; intro o es ep ho h1)
    exact (mk11 m (mk31 o es ep (e.keep _ _ hL ho) h1) h2)
  · (refine el11 (r.2 q) ?_; intro c hc zr0; refine el11 zr0 ?_; clear zr0; intro o ho h1)
    exact (mk11 c hc (mk11 o (e.keep _ _ (hC c hc) ho) h1))
theorem SlotOK.mv {X : Addr → Prop} {x : Str} {sl : Slot} {o : Option Addr} (r : SlotOK g M s.heap env x sl o) (e : Ext X s s') (hX : ∀ a, X a → M a) (hL : ¬ X env.locals) (hC : ∀ c, env.cells.lookup x = some c → ¬ X c) (hO : ∀ a, o = some a → ¬ X a) (hM : ∀ a, M' a → M a ∨ s.heap.get? a = none) :
    SlotOK g M' s'.heap env x sl o := by
  have hk : ∀ a o, ¬ M a → s.heap.get? a = some o → s'.heap.get? a = some o := fun a o n h => e.keep a o (fun q => n (hX a q)) h
  cases r with
  | un => exact .un
  | fz h1 h2 => exact .fz (h1.mv e hL hC) (h2.mono hk hM)
  | ow h1 h2 h3 => exact .ow (h1.mv e hL hC) h2 (h3.mono hk (fun o ho => e.keep _ _ (hO _ rfl) ho) hM)
theorem SO.ap (S : SO g n A Mb env nms nv0 ow σ s) {i : Nat} {a : Addr} (h : ow i = some a) (hr : σ.reg.isSome = true) : a ≠ g.ap := fun e => S.oMb i a h (e ▸ S.map hr)
theorem SO.slot (S : SO g n A Mb env nms nv0 ow σ s) {i : Nat} {a : Addr} (h : ow i = some a) (F : FS Mb env nms nv0) : ∃ x p, i < nv0 ∧ nms[i]? = some x ∧ lkS σ.loc i = .ow p ∧ VarAt s.heap env x (.ref a) ∧ (p.isList || p.isDict) = true ∧ Own g.prog g.w g.ap g.C (MO Mb ow) s.heap a p := by
  by_cases hi : i < nv0
  · have hl : i < nms.length := Nat.lt_of_lt_of_le hi F.nlen
    have hx : nms[i]? = some nms[i] := List.getElem?_eq_getElem hl
    have q := S.slots i _ hi hx
    generalize hsl : lkS σ.loc i = sl at q
    rw [h] at q
    cases q with
    | ow h1 h2 h3 => exact (mk24 _ _ hi hx rfl h1 (mk01 h2 h3))
  · have := (S.hi i (Nat.le_of_not_lt hi)).2
    rw [h] at this; cases this
theorem RegOK.notL {h : Heap} (r : RegOK g.ap g.C g.B h P) (hr : P.isSome = true) {m : Str → Option Value} (hn : h.Ns env.locals m) : env.locals ≠ g.ap := by
  (refine el11 (r.is hr) ?_; intro o ho zr0; refine el20 zr0 ?_; clear zr0; intro vs k hd)
  (refine el32 hn ?_; try clear hn; intro o' es ep ho' hd' _)
  intro e
  rw [e, ho] at ho'; cases ho'
  rw [hd] at hd'; cases hd'
theorem RegOK.notC {h : Heap} (r : RegOK g.ap g.C g.B h P) (hr : P.isSome = true) {c : Addr} {v : Option Value} (hn : h.IsCell c v) : c ≠ g.ap := by
  (refine el11 (r.is hr) ?_; intro o ho zr0; refine el20 zr0 ?_; clear zr0; intro vs k hd)
  (refine el11 hn ?_; try clear hn; intro o' ho' hd')
  intro e
  rw [e, ho] at ho'; cases ho'
  rw [hd] at hd'; cases hd'
theorem SO.lc (S : SO g n A Mb env nms nv0 ow σ s) : ∀ b, LC env b → ¬ XR g σ.reg b := by
  rintro b (rfl | ⟨x, hx⟩) q
  · (refine el10 (S.ns) ?_; intro m hn)
    exact S.pr.reg.notL q.1 hn q.2
  · (refine el10 (S.cellAt x b hx) ?_; intro v hv)
    exact S.pr.reg.notC q.1 hv q.2
theorem SO.ev (S : SO g n A Mb env nms nv0 ow σ s) {Mb' : Addr → Prop} {A' : Around} {n' : Nat} (hM : ∀ b, Mb' b → Mb b ∨ s.heap.get? b = none) (hM' : ∀ b, Mb b → Mb' b) (e : Ext (XR g σ.reg) s s') (pr : Pre g n' A' (MO Mb' ow) P' s') (hs : P'.isSome = σ.reg.isSome) (F : FS Mb env nms nv0) :
    SO g n' A' Mb' env nms nv0 ow ⟨σ.loc, P'⟩ s' where
  pr := pr
  map := fun h => hM' _ (S.map (hs ▸ h))
  ns := by
    (refine el41 (S.ns) ?_; intro m o es ep ho h1)
    exact (mk41 m o es ep (e.keep _ _ (S.lc _ (.inl rfl)) ho) h1)
  cellAt := fun x c hx => by
    (refine el21 (S.cellAt x c hx) ?_; intro v o ho h1)
    exact (mk21 v o (e.keep _ _ (S.lc _ (.inr ⟨x, hx⟩)) ho) h1)
  slots := fun i x h1 h2 => (S.slots i x h1 h2).mv e S.pr.x0 (S.lc _ (.inl rfl)) (fun c hc => S.lc _ (.inr ⟨x, hc⟩)) (fun a ha q => S.ap ha q.1 q.2) fun b hb => by
    rcases hb with hb | hb
    · exact (hM b hb).imp .inl id
    · exact .inl (.inr hb)
  hi := S.hi
  len := S.len
  oMb := fun i a h q => by
    (refine el24 (S.slot h F) ?_; intro x p _ _ _ _ zr0; refine el01 zr0 ?_; clear zr0; intro _ ho)
    (refine el11 (ho.obj) ?_; intro ob hb _)
    exact (hM a q).elim (S.oMb i a h) fun e => by rw [hb] at e; cases e
  oInj := S.oInj
theorem Pre.sub (pr : Pre g n A M P s) (h : ∀ a, M' a → M a) (hap : P.isSome = true → M' g.ap) : Pre g n A M' P s := ⟨pr.a, fun a q => pr.ma a (h a q), fun a q => pr.mb a (h a q), hap, pr.reg, pr.kb⟩
theorem Pre.add (pr : Pre g n A M P s) (h : ∀ a, M' a → M a ∨ (g.B a = Option.none ∧ ∃ o, s.heap.get? a = some o)) (hap : ∀ a, M a → M' a) : Pre g n A M' P s :=
  ⟨pr.a, fun a q => (h a q).elim (pr.ma a) And.right, fun a q => (h a q).elim (pr.mb a) And.left, fun q => hap _ (pr.mr q), pr.reg, pr.kb⟩
theorem lk_view {f : Slot → Option PV} {l : List Slot} {i : Nat} {p : PV} (h : lk (l.map f) i = some p) : f (lkS l i) = some p := by
  unfold lk lkS at *
  simp only [List.getD, List.getElem?_map] at h ⊢
  cases e : l[i]? with
  | none => rw [e] at h; simp at h
  | some sl => rw [e] at h; simpa using h
theorem SO.frF (S : SO g n A Mb env nms nv0 ow σ s) (F : FS Mb env nms nv0) : FrOK g (MO Mb ow) s.heap env nms (viewF σ.loc) where
  kind := F.kind
  glob := F.glob
  bu := F.bu
  cells := fun x h => (F.cells x h).2
  ns := by
    (refine el10 (S.ns) ?_; intro m hn)
    refine (mk11 m hn (fun i x p h1 h2 => ?_))
    have h3 := lk_view h2
    by_cases hi : i < nv0
    · have q := S.slots i x hi h1
      generalize lkS σ.loc i = sl at q h3
      generalize ow i = o at q
      cases q with
      | un => cases h3
      | fz k1 k2 =>
        cases h3
        refine ⟨fun q => ?_, fun q => ?_⟩
        · (refine el11 (k1.1 q) ?_; intro m' e1 e2)
          rw [Ns_eq hn e1]; exact (mk11 _ e2 k2)
        · (refine el11 (k1.2 q) ?_; intro c e1 e2)
          exact (mk22 c _ e1 e2 k2)
      | ow => cases h3
    · rw [(S.hi i (Nat.le_of_not_lt hi)).1] at h3; cases h3
theorem SO.prB (S : SO g n A Mb env nms nv0 ow σ s) : Pre g n A Mb σ.reg s := S.pr.sub (fun _ q => .inl q) S.map
theorem SO.frA (S : SO g n A Mb env nms nv0 ow σ s) (ok : g.OK) (F : FS Mb env nms nv0) : FrOK g Mb s.heap env nms (viewA σ.loc) where
  kind := F.kind
  glob := F.glob
  bu := F.bu
  cells := fun x h => (F.cells x h).2
  ns := by
    (refine el10 (S.ns) ?_; intro m hn)
    refine (mk11 m hn (fun i x p h1 h2 => ?_))
    have h3 := lk_view h2
    by_cases hi : i < nv0
    · have q := S.slots i x hi h1
      have key : ∀ {v : Value}, VarAt s.heap env x v → Rl g.ap g.C Mb s.heap v p → (vk (env.kindOf x) = 1 → ∃ v, m x = some v ∧ Rl g.ap g.C Mb s.heap v p) ∧ (vk (env.kindOf x) = 2 → ∃ c v, env.cells.lookup x = some c ∧ s.heap.IsCell c (some v) ∧ Rl g.ap g.C Mb s.heap v p) := by
        intro v k1 k2
        refine ⟨fun q => ?_, fun q => ?_⟩
        · (refine el11 (k1.1 q) ?_; intro m' e1 e2)
          rw [Ns_eq hn e1]; exact (mk11 _ e2 k2)
        · (refine el11 (k1.2 q) ?_; intro c e1 e2)
          exact (mk22 c _ e1 e2 k2)
      have ho := fun a h => S.oMb i a h
      have hB := fun a (h : ow i = some a) => S.pr.mb a (.inr ⟨i, h⟩)
      generalize lkS σ.loc i = sl at q h3
      generalize ow i = o at q ho hB
      cases q with
      | un => cases h3
      | fz k1 k2 =>
        cases h3
        exact key k1 (k2.mono (fun _ _ _ e => e) fun _ q => .inl (.inl q))
      | @ow a p k1 k2 k3 =>
        cases h3
        have hsys : (a == sysModules) = false := by
          (refine el10 (ok.sysm) ?_; intro o ho')
          rw [beq_eq_false_iff_ne]
          rintro rfl
          rw [hB _ rfl] at ho'; cases ho'
        exact key k1 (Own.rl k2 (ho a rfl) hsys (k3.mono (fun _ _ _ e => e) (fun _ e => e) fun _ q => .inl (.inl q)))
    · rw [(S.hi i (Nat.le_of_not_lt hi)).1] at h3; cases h3
end
end Mine
end
section
open PySem PySem.W PyProof.Rows
set_option Elab.async false
set_option maxRecDepth 100000
namespace Mine
noncomputable def upd (ow : Nat → Option Addr) (i : Nat) (o : Option Addr) : Nat → Option Addr := fun j => if j = i then o else ow j
section
variable {g : G} {n : Nat} {L : Lv} {A : Around} {M M' Mb : Addr → Prop} {P P' P₁ P₂ : Reg} {s s' s₁ : Shared} {env : Env} {nms : List Str} {sc csc : Sc} {ρ ρ' ρ₁ ρ₂ : Vw} {srt : List PV → Option (List PV)} {nv0 : Nat} {ow : Nat → Option Addr} {σ : St}
theorem lkS_set {l : List Slot} {i j : Nat} {sl : Slot} (h : i < l.length) : lkS (l.set i sl) j = if j = i then sl else lkS l j := by
  unfold lkS
  simp only [List.getD, List.getElem?_set]
  by_cases e : i = j
  · subst e; simp [h]
  · have e' : ¬ j = i := fun q => e q.symm
    simp [e, e']
theorem SO.evA (S : SO g n A Mb env nms nv0 ow σ s) (F : FS Mb env nms nv0) (ok : g.OK) (hL : EvOK g n L) {x : X} {e : PySem.Expr} (hc : CorE nms g.fname sc x e) (sk : ScOK sc env) {p : PV} (h : L.ev x (viewA σ.loc) σ.reg = some (p, P)) {Q : Value → Shared → Prop}
    (k : ∀ v s', Ext (XR g σ.reg) s s' → SO g n A Mb env nms nv0 ow ⟨σ.loc, P⟩ s' → Rl g.ap g.C Mb s'.heap v p → P.isSome = σ.reg.isSome → Q v s') : wpAny (model g.prog g.w) A (eval e env) Q NoE s :=
  mono_ (hL hc h sk (S.frA ok F) S.prB) fun v s' q => k v s' q.ext (S.ev (fun _ q => .inl q) (fun _ q => q) q.ext (S.pr.next ok q.ext q.reg q.same) q.same F) q.rl q.same
theorem SO.evF (S : SO g n A Mb env nms nv0 ow σ s) (F : FS Mb env nms nv0) (ok : g.OK) (hL : EvOK g n L) {x : X} {e : PySem.Expr} (hc : CorE nms g.fname sc x e) (sk : ScOK sc env) {p : PV} (h : L.ev x (viewF σ.loc) σ.reg = some (p, P)) {Q : Value → Shared → Prop}
    (k : ∀ v s', PostE g (MO Mb ow) σ.reg P s x p v s' → SO g n A Mb env nms nv0 ow ⟨σ.loc, P⟩ s' → Q v s') : wpAny (model g.prog g.w) A (eval e env) Q NoE s :=
  mono_ (hL hc h sk (S.frF F) S.pr) fun v s' q => k v s' q (S.ev (fun _ q => .inl q) (fun _ q => q) q.ext (S.pr.next ok q.ext q.reg q.same) q.same F)
theorem SO.evT (S : SO g n A Mb env nms nv0 ow σ s) (F : FS Mb env nms nv0) (ok : g.OK) (hT : EvTOK g n L) {x : X} {e : PySem.Expr} (hc : CorE nms g.fname sc x e) (sk : ScOK sc env) {b : Bool} (h : L.evT x (viewA σ.loc) σ.reg = some (b, P)) {Q : Bool → Shared → Prop}
    (k : ∀ s', Ext (XR g σ.reg) s s' → SO g n A Mb env nms nv0 ow ⟨σ.loc, P⟩ s' → P.isSome = σ.reg.isSome → Q b s') : wpAny (model g.prog g.w) A (isTrue e env (eval e env)) Q NoE s :=
  mono_ (hT hc h sk (S.frA ok F) S.prB) fun v s' q => by
    obtain ⟨rfl, q1, q2, q3⟩ := q
    exact k s' q1 (S.ev (fun _ q => .inl q) (fun _ q => q) q1 (S.pr.next ok q1 q2 q3) q3 F) q3
theorem SO.grown (S : SO g n A Mb env nms nv0 ow σ s) (F : FS Mb env nms nv0) : ∀ a, MO Mb ow a → ¬ Mb a → ∃ o, s.heap.get? a = some o ∧ o.cls ≠ .type "tuple" := fun a h hn => by
  rcases h with h | ⟨i, h⟩
  · exact absurd h hn
  · (refine el24 (S.slot h F) ?_; intro x p _ _ _ _ zr0; refine el01 zr0 ?_; clear zr0; intro _ ho)
    (refine el12 (ho.obj) ?_; intro ob h1 h2 _)
    exact (mk11 ob h1 h2)
theorem SO.up (S : SO g n A Mb env nms nv0 ow σ s) (F : FS Mb env nms nv0) {v : Value} {p : PV} (r : Rl g.ap g.C Mb s.heap v p) (hf : p.flat = true) : Rl g.ap g.C (MO Mb ow) s.heap v p := Rl.up (S.grown F) hf r
theorem SO.stored (S : SO g n A Mb env nms nv0 ow σ s) (F : FS Mb env nms nv0) {X : Addr → Prop} (e : Ext X s s') (hX : ∀ a, X a → LC env a) (he : ∀ a, X a → ∃ o, s'.heap.get? a = some o) (hns : ∃ m, s'.heap.Ns env.locals m) (hcell : ∀ x c, env.cells.lookup x = some c → ∃ v, s'.heap.IsCell c v)
    {i : Nat} {x : Str} (hi : i < nv0) (hx : nms[i]? = some x) (hvar : ∀ y v, y ≠ x → VarAt s.heap env y v → VarAt s'.heap env y v) : SO g n A Mb env nms nv0 (upd ow i none) ⟨σ.loc.set i .un, σ.reg⟩ s' := by
  have hXM : ∀ a, X a → Mb a := fun a q => by
    rcases hX a q with rfl | ⟨y, hy⟩
    · exact F.mL
    · exact F.mC y a hy
  have hsub : ∀ a, MO Mb (upd ow i none) a → MO Mb ow a := by
    rintro a (q | ⟨j, q⟩)
    · exact .inl q
    · unfold upd at q
      split at q
      · cases q
      · exact .inr ⟨j, q⟩
  refine ⟨?_, S.map, hns, hcell, fun j y h1 h2 => ?_, fun j h1 => ?_, by simpa using S.len, fun j a h => ?_, fun j k a h1 h2 => ?_⟩
  · exact (S.pr.upd e (fun a q => .inl (hXM a q)) he fun hr q => S.lc _ (hX _ q) ⟨hr, rfl⟩).sub hsub fun q => .inl (S.map q)
  · simp only [lkS_set (Nat.lt_of_lt_of_le hi S.len), upd]
    by_cases hj : j = i
    · rw [if_pos hj, if_pos hj]; exact .un
    · rw [if_neg hj, if_neg hj]
      have q := S.slots j y h1 h2
      have hyx : y ≠ x := fun e => hj (F.sep j i x h1 hi (e ▸ h2) hx)
      have hk : ∀ a o, ¬ MO Mb ow a → s.heap.get? a = some o → s'.heap.get? a = some o := fun a o n h => e.keep a o (fun q => n (.inl (hXM a q))) h
      have hoa := fun a h => S.oMb j a h
      generalize lkS σ.loc j = sl at q
      generalize ow j = o at q hoa
      cases q with
      | un => exact .un
      | fz k1 k2 => exact .fz (hvar _ _ hyx k1) (k2.mono hk fun a q => .inl (hsub a q))
      | ow k1 k2 k3 => exact .ow (hvar _ _ hyx k1) k2 (k3.mono hk (fun o ho => e.keep _ _ (fun q => hoa _ rfl (hXM _ q)) ho) fun a q => .inl (hsub a q))
  · have : ¬ j = i := fun e => by lia
    simp only [lkS_set (Nat.lt_of_lt_of_le hi S.len), upd, if_neg this]
    exact S.hi j h1
  · unfold upd at h
    split at h
    · cases h
    · exact S.oMb j a h
  · unfold upd at h1 h2
    split at h1
    · cases h1
    · split at h2
      · cases h2
      · exact S.oInj j k a h1 h2
theorem SO.store (S : SO g n A Mb env nms nv0 ow σ s) (F : FS Mb env nms nv0) {i : Nat} {x : Str} {v : Value} (hi : i < nv0) (hx : nms[i]? = some x) (hv : vk (env.kindOf x) = 1 ∨ vk (env.kindOf x) = 2) {Q : Unit → Shared → Prop}
    (k : ∀ s', Ext (LC env) s s' → SO g n A Mb env nms nv0 (upd ow i none) ⟨σ.loc.set i .un, σ.reg⟩ s' → VarAt s'.heap env x v → Q () s') : wpAny (model g.prog g.w) A (storeName env x v) Q NoE s := by
  have hLc : ∀ y c, env.cells.lookup y = some c → c ≠ env.locals := fun y c hc e => by
    (refine el42 (S.ns) ?_; intro m o es ep ho hd _)
    (refine el21 (S.cellAt y c hc) ?_; intro v o' ho' hd')
    rw [e, ho] at ho'; cases ho'
    rw [hd] at hd'; cases hd'
  rcases hv with hv | hv
  · (refine el10 (S.ns) ?_; intro m hn)
    have hk := local_of hv
    refine wpAny_storeName_local hk hn (fun h' hn' hs' => ?_) (by rw [F.kind]; rfl)
    have e : Ext (fun a => a = env.locals) s { s with heap := h', toks := s.toks + 1 } := Ext.sameBut s hs'
    refine k _ (e.wk fun a q => .inl q) (S.stored F e (fun a q => .inl q) (fun a q => ?_) ⟨_, hn'⟩ (fun y c hc => ?_) hi hx fun y u hy r => ?_) ⟨fun _ => (mk11 _ hn' (if_pos rfl)), fun q => by rw [hk] at q; cases q⟩
    · (refine el31 hn' ?_; try clear hn'; intro o _ _ ho _)
      exact ⟨o, q ▸ ho⟩
    · (refine el21 (S.cellAt y c hc) ?_; intro u o ho hd)
      exact (mk21 u o (e.keep _ _ (hLc y c hc) ho) hd)
    · refine ⟨fun q => ?_, fun q => ?_⟩
      · (refine el11 (r.1 q) ?_; intro m' h1 h2)
        refine ⟨_, hn', ?_⟩
        rw [if_neg hy, Ns_eq hn h1]; exact h2
      · (refine el11 (r.2 q) ?_; intro c hc zr0; refine el11 zr0 ?_; clear zr0; intro o ho hd)
        exact (mk11 c hc (mk11 o (e.keep _ _ (hLc y c hc) ho) hd))
  · (refine el01 (F.cells x hv) ?_; intro hk zr0; refine el10 zr0 ?_; clear zr0; intro c hc)
    (refine el10 (S.cellAt x c hc) ?_; intro u hu)
    refine wpAny_storeName_cell F.kind hk hc hu fun h' hc' hs' => ?_
    have e : Ext (fun a => a = c) s { s with heap := h' } := Ext.sameBut (tk := s.toks) s hs'
    refine k _ (e.wk fun a q => .inr ⟨x, q ▸ hc⟩) (S.stored F e (fun a q => .inr ⟨x, q ▸ hc⟩) (fun a q => ?_) ?_ (fun y d hd => ?_) hi hx fun y u hy r => ?_) ⟨fun q => by (rw [hk] at q; cases q), fun _ => (mk11 c hc hc')⟩
    · (refine el11 hc' ?_; try clear hc'; intro o ho _)
      exact ⟨o, q ▸ ho⟩
    · (refine el41 (S.ns) ?_; intro m o es ep ho h1)
      exact (mk41 m o es ep (e.keep _ _ (hLc x c hc).symm ho) h1)
    · by_cases h : d = c
      · exact ⟨_, h ▸ hc'⟩
      · (refine el21 (S.cellAt y d hd) ?_; intro u o ho hd')
        exact (mk21 u o (e.keep _ _ h ho) hd')
    · refine r.mv e (hLc x c hc).symm fun d hd q => ?_
      exact hy (F.inj y x c (q ▸ hd) hc)
theorem SO.putF {i : Nat} (S : SO g n A Mb env nms nv0 (upd ow i none) ⟨σ.loc.set i .un, σ.reg⟩ s) {x : Str} {v : Value} {p : PV} (hi : i < nv0) (hl : nv0 ≤ σ.loc.length) (hx : nms[i]? = some x) (hv : VarAt s.heap env x v) (r : Rl g.ap g.C (MO Mb (upd ow i none)) s.heap v p) :
    SO g n A Mb env nms nv0 (upd ow i none) ⟨σ.loc.set i (.fz p), σ.reg⟩ s := by
  have hil := Nat.lt_of_lt_of_le hi hl
  refine ⟨S.pr, S.map, S.ns, S.cellAt, fun j y h1 h2 => ?_, fun j h1 => ?_, by simpa using hl, S.oMb, S.oInj⟩
  · have q := S.slots j y h1 h2
    simp only [lkS_set hil] at q ⊢
    by_cases hj : j = i
    · subst hj
      rw [hx] at h2; cases h2
      rw [if_pos rfl]
      simp only [upd, if_true]
      exact .fz hv r
    · rw [if_neg hj] at q ⊢; exact q
  · have q := S.hi j h1
    have : ¬ j = i := fun e => by lia
    simp only [lkS_set hil, if_neg this] at q ⊢
    exact q
theorem MO_sub_own {i : Nat} {a b : Addr} (h : MO Mb (upd ow i (some a)) b) : MO (plus Mb a) (upd ow i none) b := by
  rcases h with h | ⟨j, h⟩
  · exact .inl (.inl h)
  · unfold upd at h
    split at h
    · cases h; exact .inl (.inr rfl)
    · rename_i hj
      exact .inr ⟨j, by unfold upd; rw [if_neg hj]; exact h⟩
theorem SO.putO {i : Nat} {x : Str} {a : Addr} {p : PV} (S : SO g n A (plus Mb a) env nms nv0 (upd ow i none) ⟨σ.loc.set i .un, σ.reg⟩ s) (hi : i < nv0) (hl : nv0 ≤ σ.loc.length) (hx : nms[i]? = some x) (hv : VarAt s.heap env x (.ref a)) (ha : ¬ Mb a) (hp : (p.isList || p.isDict) = true)
    (hmap : σ.reg.isSome = true → Mb g.ap) (o : Own g.prog g.w g.ap g.C (MO (plus Mb a) (upd ow i none)) s.heap a p) : SO g n A Mb env nms nv0 (upd ow i (some a)) ⟨σ.loc.set i (.ow p), σ.reg⟩ s := by
  have hil := Nat.lt_of_lt_of_le hi hl
  have hsub : ∀ b, MO Mb (upd ow i (some a)) b → MO (plus Mb a) (upd ow i none) b := fun b h => MO_sub_own h
  refine ⟨S.pr.sub hsub fun q => .inl (hmap q), hmap, S.ns, S.cellAt, fun j y h1 h2 => ?_, fun j h1 => ?_, by simpa using hl, fun j b h => ?_, fun j k b h1 h2 => ?_⟩
  · have q := S.slots j y h1 h2
    simp only [lkS_set hil] at q ⊢
    by_cases hj : j = i
    · subst hj
      rw [hx] at h2; cases h2
      rw [if_pos rfl]
      simp only [upd, if_true]
      exact .ow hv hp (o.mono (fun _ _ _ e => e) (fun _ e => e) fun b q => .inl (hsub b q))
    · rw [if_neg hj] at q ⊢
      simp only [upd, if_neg hj] at q ⊢
      generalize lkS σ.loc j = sl at q
      generalize ow j = oo at q
      cases q with
      | un => exact .un
      | fz k1 k2 => exact .fz k1 (k2.mono (fun _ _ _ e => e) fun b q => .inl (hsub b q))
      | ow k1 k2 k3 => exact .ow k1 k2 (k3.mono (fun _ _ _ e => e) (fun _ e => e) fun b q => .inl (hsub b q))
  · have q := S.hi j h1
    have : ¬ j = i := fun e => by lia
    simp only [lkS_set hil, if_neg this, upd] at q ⊢
    exact q
  · unfold upd at h
    split at h
    · cases h; exact ha
    · rename_i hj
      exact fun q => S.oMb j b (by unfold upd; rw [if_neg hj]; exact h) (.inl q)
  · have key : ∀ j b, ¬ j = i → ow j = some b → b ≠ a := fun j b hj h e => S.oMb j b (by unfold upd; rw [if_neg hj]; exact h) (.inr e)
    unfold upd at h1 h2
    split at h1
    · rename_i hj
      cases h1
      split at h2
      · rename_i hk; rw [hj, hk]
      · rename_i hk; exact absurd rfl (key k a hk h2)
    · rename_i hj
      split at h2
      · rename_i hk; cases h2; exact absurd rfl (key j a hj h1)
      · rename_i hk
        exact S.oInj j k b (by unfold upd; rw [if_neg hj]; exact h1) (by unfold upd; rw [if_neg hk]; exact h2)
end
end Mine
end
section
open PySem PySem.W PyProof.Rows
set_option Elab.async false
set_option maxRecDepth 100000
namespace Mine
noncomputable def CompOK (g : G) (n : Nat) (L : Lv) : Prop := ∀ {x : X} {le : PySem.Expr} {gens : List Comprehension} {scope : Scope} {p : Pos} {sc : Sc} {nms : List Str}, CorE nms g.fname sc x (.ListComp le gens scope p) → ∀ {ρ : Vw} {P P' : Reg} {v : PV}, L.ev x ρ P = some (v, P') →
  ∀ {env : Env} {A : Around} {M : Addr → Prop} {s : Shared}, ScOK sc env → FrOK g M s.heap env nms ρ → Pre g n A M P s → ∀ {use : Option (Value → Sem Unit)} {Qf : Value → Shared → Prop} {pos : Pos},
    (∀ C D s', s.heap.get? C = none → ¬ M C → g.B C = none → C ≠ D → (∃ m, s'.heap.Ns C m) → FrOK g (plus M C) s'.heap env nms ρ → PostE g (plus M C) P P' s x v (.ref D) s' → compPost (model g.prog g.w) A NoE use Qf (.ref D) C (.ok .next) s') →
    wpAny (model g.prog g.w) A (comprehension (.ListComp le gens scope p) scope env pos (newList []) (firstAsync gens) (firstIter gens env) use) Qf NoE s
inductive FlOK (g : G) (Mb : Addr → Prop) (s : Shared) : Fl → Flow → Prop
  | nx : FlOK g Mb s .nx .next
  | br : FlOK g Mb s .br .brk
  | ct : FlOK g Mb s .ct .cont
  | rt {p : PV} {v : Value} : Rl g.ap g.C Mb s.heap v p → FlOK g Mb s (.rt p) (.ret v)
noncomputable def PostS (g : G) (n : Nat) (A : Around) (Mb : Addr → Prop) (env : Env) (nms : List Str) (nv0 : Nat) (ow : Nat → Option Addr) (P : Reg) (s : Shared) (fl : Fl) (σ' : St) (f : Flow) (s' : Shared) : Prop :=
  ∃ ow', SO g n A Mb env nms nv0 ow' σ' s' ∧ Ext (Wr g env ow P) s s' ∧ (∀ b, (∃ i, ow' i = some b) → (∃ i, ow i = some b) ∨ s.heap.get? b = none) ∧ σ'.reg.isSome = P.isSome ∧ (∀ b, (∃ i, ow i = some b) → ∃ o, s'.heap.get? b = some o) ∧ FlOK g Mb s' fl f
noncomputable def Wr2 (g : G) (env : Env) (ow ow' : Nat → Option Addr) (P : Reg) : Addr → Prop := fun b => XR g P b ∨ LC env b ∨ ∃ i, ow i = some b ∧ ow' i = some b
section
variable {g : G} {n : Nat} {L : Lv} {A : Around} {M M' Mb Mb' : Addr → Prop} {P P' P₁ P₂ : Reg} {s s' s₁ : Shared} {env : Env} {nms : List Str} {sc csc : Sc} {ρ ρ' ρ₁ ρ₂ : Vw} {srt : List PV → Option (List PV)} {nv0 : Nat} {ow : Nat → Option Addr} {σ : St}
theorem comp_step (hL : EvOK g n L) (hT : EvTOK g n L) (ok : g.OK) : CompOK g (n + 1) (⟨stepEv L srt, L.evT, L.ex, L.fn⟩ : Lv) := fun hc _ _ _ _ h _ _ _ _ sk fr pr _ _ _ fin => comp_any hL hT ok hc h sk fr pr.pred fin
theorem swaps_plain {v t : PySem.Expr} {l : Nat} (h : isComp v = false) : swapsWith v (some t) l env = pure false := by
  cases v <;> first | rfl | cases h
theorem FS.wk (F : FS Mb env nms nv0) (h : ∀ a, Mb a → Mb' a) : FS Mb' env nms nv0 := ⟨F.kind, F.glob, F.bu, h _ F.mL, F.cells, fun x c q => h _ (F.mC x c q), F.inj, F.sep, F.nlen⟩
theorem SO.drop (S : SO g n A Mb' env nms nv0 ow σ s) (F : FS Mb env nms nv0) (h : ∀ a, Mb a → Mb' a) (hap : σ.reg.isSome = true → Mb g.ap) (e : Ext (fun b => Mb' b ∧ ¬ Mb b) s s') : SO g n A Mb env nms nv0 ow σ s' := by
  have hX : ∀ a, (Mb' a ∧ ¬ Mb a) → MO Mb' ow a := fun a q => .inl q.1
  have hL : ¬ (Mb' env.locals ∧ ¬ Mb env.locals) := fun q => q.2 F.mL
  have hC : ∀ x c, env.cells.lookup x = some c → ¬ (Mb' c ∧ ¬ Mb c) := fun x c hc q => q.2 (F.mC x c hc)
  have hO : ∀ i a, ow i = some a → ¬ (Mb' a ∧ ¬ Mb a) := fun i a h q => S.oMb i a h q.1
  refine ⟨S.pr.mv e (fun a q => S.pr.mb a (hX a q)) (fun hr q => q.2 (hap hr)) (fun a q => S.pr.mb a (q.imp (h a) id)) (fun a q => ?_) (fun q => .inl (hap q)), hap, ?_, fun x c hc => ?_, fun i x h1 h2 => ?_, S.hi, S.len, fun i a q r => S.oMb i a q (h a r), S.oInj⟩
  · (refine el10 (S.pr.ma a (q.imp (h a) id)) ?_; intro o ho)
    refine ⟨o, e.keep _ _ (fun r => ?_) ho⟩
    rcases q with q | ⟨i, q⟩
    · exact r.2 q
    · exact hO i a q r
  · (refine el41 (S.ns) ?_; intro m o es ep ho h1)
    exact (mk41 m o es ep (e.keep _ _ hL ho) h1)
  · (refine el21 (S.cellAt x c hc) ?_; intro v o ho h1)
    exact (mk21 v o (e.keep _ _ (hC x c hc) ho) h1)
  · exact (S.slots i x h1 h2).mv e hX hL (hC x) (hO i) fun a q => .inl (q.imp (h a) id)
theorem MO_plus {a b : Addr} : MO (plus Mb a) ow b ↔ MO Mb ow b ∨ b = a := by
  constructor
  · rintro ((h | h) | h)
    · exact .inl (.inl h)
    · exact .inr h
    · exact .inl (.inr h)
  · rintro ((h | h) | h)
    · exact .inl (.inl h)
    · exact .inr h
    · exact .inl (.inr h)
theorem PostE.congr {x : X} {p : PV} {v : Value} (q : PostE g M P P' s x p v s') (h : ∀ a, M a ↔ M' a) : PostE g M' P P' s x p v s' := by
  have : M = M' := funext fun a => propext (h a)
  exact this ▸ q
theorem assign_road (S : SO g n A Mb env nms nv0 ow σ s) (F : FS Mb env nms nv0) (ok : g.OK) (hL : EvOK g n L) (hC : CompOK g n L) {x : X} {e : PySem.Expr} (hc : CorE nms g.fname sc x e) (sk : ScOK sc env) {p : PV} (h : L.ev x (viewF σ.loc) σ.reg = some (p, P)) {xn : Str} {p' pp : Pos} {Q : Flow → Shared → Prop}
    (k : ∀ (Mb' : Addr → Prop) v s', (∀ b, Mb b → Mb' b) → (∀ b, Mb' b → Mb b ∨ s.heap.get? b = none) → (∀ b, Mb' b → g.B b = none ∧ ∃ o, s'.heap.get? b = some o) → PostE g (MO Mb' ow) σ.reg P s x p v s' →
      wpAny (model g.prog g.w) A (storeName env xn v) (fun _ s₂ => (∀ b o, Mb' b → ¬ Mb b → s'.heap.get? b = some o → s₂.heap.get? b = some o) ∧ ∀ s₃, Ext (fun b => Mb' b ∧ ¬ Mb b) s₂ s₃ → Q .next s₃) NoE s') :
    wpAny (model g.prog g.w) A (exec (.Assign [.Name xn p'] e pp) env) Q NoE s := by
  have normal : swapsWith e (some (.Name xn p')) pp.line env = pure false → wpAny (model g.prog g.w) A (exec (.Assign [.Name xn p'] e pp) env) Q NoE s := fun hs =>
    wpAny_Assign_Name (S.evF F ok hL hc sk h fun v s₁ q S₁ => mono_ (k Mb v s₁ (fun _ q => q) (fun _ q => .inl q) (fun b hb => ⟨S.pr.mb b (.inl hb), S₁.pr.ma b (.inl hb)⟩) q) fun _ s₂ q₂ => q₂.2 s₂ (Ext.refl ..)) hs
  by_cases hcomp : isComp e = false
  · exact normal (swaps_plain hcomp)
  · have : ∃ le gens scope cp, e = .ListComp le gens scope cp := by
      have hp := hc.plain
      cases e <;> first | exact (mk40 _ _ _ _ rfl) | exact absurd rfl hcomp | exact ff_ hp
    (refine el40 this ?_; try clear this; intro le gens scope cp zq0; subst zq0)
    (refine el10 (⟨_, rfl⟩ : ∃ b, swapsWith (.ListComp le gens scope cp) (some (.Name xn p')) pp.line env = pure b) ?_; intro b hb)
    cases b with
    | false => exact normal hb
    | true =>
      rw [exec_Assign_Name_used _ _ _ _ hb]
      refine wpAny_bind (wpAny_standAt (wpAny_bind ?_))
      show wpAny _ A (comprehension (.ListComp le gens scope cp) scope env _ (newList []) (firstAsync gens) (firstIter gens env) (some (assign (.Name xn p') env)) >>= fun _ => pure ()) _ _ s
      refine wpAny_bind (mono_ (hC hc h sk (S.frF F) S.pr (Qf := fun _ s' => Q .next s') fun C D s' hC0 hMC hBC hCD hns hfr q => ?_) fun _ s' hq => wpAny_pure (wpAny_pure hq))
      have q' : PostE g (MO (plus Mb C) ow) σ.reg P s x p (.ref D) s' := q.congr fun a => MO_plus.symm
      have hex : ∀ b, plus Mb C b → g.B b = none ∧ ∃ o, s'.heap.get? b = some o := by
        rintro b (hb | rfl)
        · exact ⟨S.pr.mb b (.inl hb), (S.pr.next ok q.ext (q'.reg) q.same).ma b (.inl hb)⟩
        · (refine el41 hns ?_; try clear hns; intro m o _ _ ho _)
          exact (mk01 hBC (mk10 o ho))
      show wpAny _ A (assign (.Name xn p') env (.ref D)) _ _ s'
      refine wpAny_assign_Name (mono_ (k (plus Mb C) (.ref D) s' (fun _ q => .inl q) (fun b hb => hb.imp id fun (e : b = C) => e ▸ hC0) hex q') fun _ s₂ q₂ => ?_)
      have hMbC : ¬ Mb C := fun q => hMC (.inl q)
      (refine el41 hns ?_; try clear hns; intro m o es ep ho hd)
      refine (mk11 m (mk31 o es ep (q₂.1 C o (.inr rfl) hMbC ho) hd) (fun h'' hs'' => q₂.2 _ ?_))
      exact (Ext.sameBut (tk := s₂.toks) s₂ hs'').wk fun a e => ⟨.inr e, e ▸ hMbC⟩
theorem varAt_spec {i : Nat} {x : Str} (h : varAt nms nv0 sc i x = true) (sk : ScOK sc env) : i < nv0 ∧ nms[i]? = some x ∧ (vk (env.kindOf x) = 1 ∨ vk (env.kindOf x) = 2) ∧ okName x = true := by
  simp only [varAt, Bool.and_eq_true, beq_iff_eq, isV, Bool.or_eq_true] at h
  (refine el01 h ?_; try clear h; intro zp0 h4; refine el01 zp0 ?_; clear zp0; intro zp1 h3; refine el01 zp1 ?_; clear zp1; intro h1 h2)
  rw [← sk x]
  exact (mk03 (Nat.le_of_ble_eq_true h1) h2 h3 h4)
theorem LC_sub (F : FS Mb env nms nv0) {a : Addr} (h : LC env a) : Mb a := by
  rcases h with rfl | ⟨x, hx⟩
  · exact F.mL
  · exact F.mC x a hx
theorem W2.xr {ow' : Nat → Option Addr} {s₁ s₂ : Shared} (e : Ext (XR g P) s₁ s₂) : Ext (Wr2 g env ow ow' P) s₁ s₂ := e.wk fun _ q => .inl q
theorem W2.lc {ow' : Nat → Option Addr} {s₁ s₂ : Shared} (e : Ext (LC env) s₁ s₂) : Ext (Wr2 g env ow ow' P) s₁ s₂ := e.wk fun _ q => .inr (.inl q)
theorem W2.own {ow' : Nat → Option Addr} {s₁ s₂ : Shared} {i : Nat} {a : Addr} (h : ow i = some a) (h' : ow' i = some a) (e : Ext (fun b => b = a) s₁ s₂) : Ext (Wr2 g env ow ow' P) s₁ s₂ := e.wk fun _ q => .inr (.inr (mk11 i (q ▸ h) (q ▸ h')))
theorem post_mk {ow' : Nat → Option Addr} {σ' : St} {fl : Fl} {f : Flow} (S : SO g n A Mb env nms nv0 ow σ s) (F : FS Mb env nms nv0) (S' : SO g n A Mb env nms nv0 ow' σ' s') (e : Ext (Wr2 g env ow ow' σ.reg) s s')
    (hw : ∀ b, (∃ i, ow' i = some b) → (∃ i, ow i = some b) ∨ s.heap.get? b = none) (hs : σ'.reg.isSome = σ.reg.isSome) (hf : FlOK g Mb s' fl f) : PostS g n A Mb env nms nv0 ow σ.reg s fl σ' f s' := by
  refine (mk14 ow' S' (e.wk fun b q => q.imp id fun q => q.imp id fun ⟨i, q, _⟩ => ⟨i, q⟩) hw hs (mk01 (fun b hb => ?_) hf))
  by_cases hq : Wr2 g env ow ow' σ.reg b
  · rcases hq with q | (rfl | ⟨x, hx⟩) | ⟨i, _, q⟩
    · (refine el11 (S'.pr.reg.is (hs ▸ q.1)) ?_; intro o ho _)
      exact ⟨o, q.2 ▸ ho⟩
    · (refine el41 (S'.ns) ?_; intro m o _ _ ho _)
      exact ⟨o, ho⟩
    · (refine el21 (S'.cellAt x b hx) ?_; intro v o ho _)
      exact ⟨o, ho⟩
    · (refine el24 (S'.slot q F) ?_; intro x p _ _ _ _ zr0; refine el01 zr0 ?_; clear zr0; intro _ ho)
      (refine el11 (ho.obj) ?_; intro ob hob _)
      exact ⟨ob, hob⟩
  · (refine el10 hb ?_; try clear hb; intro i hi)
    (refine el24 (S.slot hi F) ?_; intro x p _ _ _ _ zr0; refine el01 zr0 ?_; clear zr0; intro _ ho)
    (refine el11 (ho.obj) ?_; intro ob hob _)
    exact ⟨ob, e.keep b ob hq hob⟩
theorem upd_sub {i : Nat} {b : Addr} (h : ∃ j, upd ow i none j = some b) : ∃ j, ow j = some b := by
  (refine el10 h ?_; try clear h; intro j h)
  unfold upd at h
  split at h
  · cases h
  · exact ⟨j, h⟩
theorem MO_upd {i : Nat} {b : Addr} (h : MO Mb (upd ow i none) b) : MO Mb ow b := h.imp id upd_sub
theorem SO.storeF (S : SO g n A Mb env nms nv0 ow σ s) (F : FS Mb env nms nv0) {i : Nat} {x : Str} {v : Value} {p : PV} (hi : i < nv0) (hx : nms[i]? = some x) (hv : vk (env.kindOf x) = 1 ∨ vk (env.kindOf x) = 2) (r : Rl g.ap g.C (MO Mb ow) s.heap v p) {Q : Unit → Shared → Prop}
    (k : ∀ s', Ext (LC env) s s' → SO g n A Mb env nms nv0 (upd ow i none) ⟨σ.loc.set i (.fz p), σ.reg⟩ s' → Q () s') : wpAny (model g.prog g.w) A (storeName env x v) Q NoE s :=
  S.store F hi hx hv fun s' e S' hva => k s' e (S'.putF hi S.len hx hva ((r.ext e fun a q => .inl (LC_sub F q)).mono (fun _ _ _ e => e) fun a q => .inl (MO_upd q)))
end
end Mine
end
section
open PySem PySem.W PyProof.Rows
set_option Elab.async false
set_option maxRecDepth 100000
namespace Mine
section
variable {g : G} {n : Nat} {L : Lv} {A : Around} {M M' Mb Mb' : Addr → Prop} {P P' P₁ P₂ : Reg} {s s' s₁ : Shared} {env : Env} {nms : List Str} {sc csc : Sc} {ρ ρ' ρ₁ ρ₂ : Vw} {srt : List PV → Option (List PV)} {nv0 : Nat} {ow : Nat → Option Addr} {σ : St}
theorem Ext.step {X Y Z : Addr → Prop} {a b c : Shared} (x : Ext X a b) (y : Ext Y b c) (hX : ∀ p, X p → Z p) (hY : ∀ p, Y p → Z p ∨ a.heap.get? p = none) : Ext Z a c :=
  x.trans y hX fun p o q e => (hY p q).elim id fun e' => by rw [e'] at e; cases e
theorem Rl.notM {ap C : Addr} {h : Heap} {a : Addr} {p : PV} (r : Rl ap C M h (.ref a) p) (hp : (p.isList || p.isDict) = true) : ¬ M a := by
  cases r with
  | list ha => exact ha
  | dict ha => exact ha
  | _ => exact ff_ hp
theorem ownable_lst {p : PV} (h : p.ownable = true) : (p.isList || p.isDict) = true := by
  cases p <;> first | rfl | cases h
theorem st_asg (S : SO g n A Mb env nms nv0 ow σ s) (F : FS Mb env nms nv0) (ok : g.OK) (hL : EvOK g n L) (sk : ScOK sc env) {i : Nat} {e : X} {x : Str} {v : PySem.Expr} {p p' : Pos} {fl : Fl} {σ' : St} (hv : varAt nms nv0 sc i x = true) (hco : isComp v = false) (ce : CorE nms g.fname sc e v)
    (h : stepEx L (.asg i e) σ = some (fl, σ')) : wpAny (model g.prog g.w) A (exec (.Assign [.Name x p'] v p) env) (PostS g n A Mb env nms nv0 ow σ.reg s fl σ') NoE s := by
  delta stepEx at h
  refine ifS_el h fun q P e1 h => if_el h fun hf h => sp_el h ?_
  · · (refine el03 (varAt_spec hv sk) ?_; intro hi hx hk hn)
      exact wpAny_Assign_Name (S.evA F ok hL ce sk e1 fun v s₁ x₁ S₁ r₁ h₁ => S₁.storeF F hi hx hk (S₁.up F r₁ hf) fun s₂ x₂ S₂ => post_mk S F S₂ ((W2.xr x₁).tr (W2.lc x₂)) (fun b q => .inl (upd_sub q)) h₁ .nx) (swaps_plain hco)
theorem road_pre (S : SO g n A Mb env nms nv0 ow σ s) (ok : g.OK) (h1 : ∀ b, Mb b → Mb' b) (h3 : ∀ b, Mb' b → g.B b = none ∧ ∃ o, s'.heap.get? b = some o) (e : Ext (XR g σ.reg) s s') (r : RegOK g.ap g.C g.B s'.heap P) (hs : P.isSome = σ.reg.isSome) : Pre g n A (MO Mb' ow) P s' :=
  (S.pr.next ok e r hs).add (fun a q => q.elim (fun q => .inr (h3 a q)) fun q => .inl (.inr q)) fun a q => q.imp (h1 a) id
theorem st_asgF (S : SO g n A Mb env nms nv0 ow σ s) (F : FS Mb env nms nv0) (ok : g.OK) (hL : EvOK g n L) (hC : CompOK g n L) (sk : ScOK sc env) {i : Nat} {e : X} {x : Str} {v : PySem.Expr} {p p' : Pos} {fl : Fl} {σ' : St} (hv : varAt nms nv0 sc i x = true) (ce : CorE nms g.fname sc e v)
    (h : stepEx L (.asgF i e) σ = some (fl, σ')) : wpAny (model g.prog g.w) A (exec (.Assign [.Name x p'] v p) env) (PostS g n A Mb env nms nv0 ow σ.reg s fl σ') NoE s := by
  delta stepEx at h
  refine ifS_el h fun q P e1 h => sp_el h ?_
  · (refine el03 (varAt_spec hv sk) ?_; intro hi hx hk hn)
    refine assign_road S F ok hL hC ce sk e1 fun Mb' v s' h1 h2 h3 q => ?_
    have S' : SO g n A Mb' env nms nv0 ow ⟨σ.loc, P⟩ s' := S.ev h2 h1 q.ext (road_pre S ok h1 h3 q.ext q.reg q.same) q.same F
    refine S'.storeF (F.wk h1) hi hx hk q.rl fun s₂ x₂ S₂ => ⟨fun b o hb hnb ho => x₂.keep b o (fun q => hnb (LC_sub F q)) ho, fun s₃ x₃ => ?_⟩
    refine post_mk S F (S₂.drop F h1 (fun hr => S.map (q.same ▸ hr)) x₃) ?_ (fun b q => .inl (upd_sub q)) q.same .nx
    exact ((W2.xr q.ext).tr (W2.lc x₂)).step x₃ (fun _ q => q) fun b hb => (h2 b hb.1).elim (fun q => absurd q hb.2) .inr
theorem st_own (S : SO g n A Mb env nms nv0 ow σ s) (F : FS Mb env nms nv0) (ok : g.OK) (hL : EvOK g n L) (hC : CompOK g n L) (sk : ScOK sc env) {i : Nat} {e : X} {x : Str} {v : PySem.Expr} {p p' : Pos} {fl : Fl} {σ' : St} (hv : varAt nms nv0 sc i x = true) (ce : CorE nms g.fname sc e v)
    (h : stepEx L (.own i e) σ = some (fl, σ')) : wpAny (model g.prog g.w) A (exec (.Assign [.Name x p'] v p) env) (PostS g n A Mb env nms nv0 ow σ.reg s fl σ') NoE s := by
  delta stepEx at h
  refine if_el h fun hff h => ifS_el h fun pv P e1 h => if_el h fun hown h => sp_el h ?_
  · · · (refine el03 (varAt_spec hv sk) ?_; intro hi hx hk hn)
        refine assign_road S F ok hL hC ce sk e1 fun Mb' v s' h1 h2 h3 q => ?_
        have hl := ownable_lst hown
        (refine el12 (q.fresh hff hl) ?_; intro a zq0 hnone ho; subst zq0)
        have hna := q.rl.notM hl
        (refine el12 (ho.obj) ?_; intro ob hob hobt _)
        have hBa : g.B a = none := S.pr.free hnone
        have h3' : ∀ b, plus Mb' a b → g.B b = none ∧ ∃ o, s'.heap.get? b = some o := by
          rintro b (hb | rfl)
          · exact h3 b hb
          · exact (mk01 hBa (mk10 ob hob))
        have h1' : ∀ b, Mb b → plus Mb' a b := fun b q => .inl (h1 b q)
        have S' : SO g n A (plus Mb' a) env nms nv0 ow ⟨σ.loc, P⟩ s' := S.ev (fun b hb => hb.elim (h2 b) fun (e : b = a) => .inr (e ▸ hnone)) h1' q.ext (road_pre S ok h1' h3' q.ext q.reg q.same) q.same F
        refine S'.store (F.wk h1') hi hx hk fun s₂ x₂ S₂ va => ⟨fun b o hb hnb ho => x₂.keep b o (fun q => hnb (LC_sub F q)) ho, fun s₃ x₃ => ?_⟩
        have haL : ¬ LC env a := fun q => hna (.inl (h1 a (LC_sub F q)))
        have o₁ : Own g.prog g.w g.ap g.C (MO (plus Mb' a) ow) s'.heap a pv := ho.up hown fun b hb hnb => by
          rcases MO_plus.mp hb with hb | rfl
          · exact absurd hb hnb
          · exact (mk11 ob hob hobt)
        have o₂ : Own g.prog g.w g.ap g.C (MO (plus Mb' a) (upd ow i none)) s₂.heap a pv := o₁.mono (fun b o nb hb => x₂.keep b o (fun q => nb (.inl (h1' b (LC_sub F q)))) hb) (fun o hb => x₂.keep a o haL hb) fun b hb => .inl (MO_upd hb)
        have S₃ : SO g n A Mb' env nms nv0 (upd ow i (some a)) ⟨σ.loc.set i (.ow pv), P⟩ s₂ := SO.putO (σ := ⟨σ.loc, P⟩) S₂ hi S.len hx va (fun q => hna (.inl q)) hl (fun hr => h1 _ (S.map (q.same ▸ hr))) o₂
        refine post_mk S F (S₃.drop F h1 (fun hr => S.map (q.same ▸ hr)) x₃) ?_ ?_ q.same .nx
        · exact ((W2.xr q.ext).tr (W2.lc x₂)).step x₃ (fun _ q => q) fun b hb => (h2 b hb.1).elim (fun q => absurd q hb.2) .inr
        · rintro b ⟨j, hj⟩
          unfold upd at hj
          split at hj
          · cases hj; exact .inr hnone
          · exact .inl ⟨j, hj⟩
theorem s_names {is : List Nat} {es : List PySem.Expr} (h : ((is.zip es).all fun p => varE nms nv0 sc p.1 p.2) = true) {i : Nat} {e : PySem.Expr} {is' : List Nat} {es' : List PySem.Expr} (h1 : is = i :: is') (h2 : es = e :: es') : ∃ x p, e = .Name x p ∧ varAt nms nv0 sc i x = true := by
  subst h1 h2
  rw [List.zip_cons_cons, List.all_cons, Bool.and_eq_true] at h
  exact onName_el (motive := fun e => ∃ x p, e = .Name x p ∧ varAt nms nv0 sc i x = true) h.1 fun x p h => (mk21 x p rfl h)
theorem stgt_of {t : Tgt} {te : PySem.Expr} (h : sTgtOk nms nv0 sc t te = true) :
    (∃ i x p, t = .one i ∧ te = .Name x p ∧ varAt nms nv0 sc i x = true) ∨ ∃ is es k p, t = .many is ∧ te = .Tuple es k p ∧ is.length = es.length ∧ ((is.zip es).all fun p => varE nms nv0 sc p.1 p.2) = true := by
  cases t with
  | one i => exact .inl (onName_el (motive := fun te => ∃ j x p, Tgt.one i = .one j ∧ te = .Name x p ∧ varAt nms nv0 sc j x = true) h fun x p h => (mk32 i x p rfl rfl h))
  | many is => exact .inr (onTuple_el (motive := fun te => ∃ js es k p, Tgt.many is = .many js ∧ te = .Tuple es k p ∧ js.length = es.length ∧ ((js.zip es).all fun p => varE nms nv0 sc p.1 p.2) = true) h fun es k p h => (mk43 is es k p rfl rfl (eq_of_beq (all3 h).1) ((all3 h).2.2)))
theorem s_each_length : ∀ {is : List Nat} {es : List PySem.Expr}, is.length = es.length → ((is.zip es).all fun p => varE nms nv0 sc p.1 p.2) = true → (assignEach es env).length = es.length ∧ (assignEach es env).findIdx? (·.1) = none
  | [], [], _, _ => ⟨rfl, rfl⟩
  | [], _ :: _, h, _ => by cases h
  | _ :: _, [], h, _ => by cases h
  | i :: is, e :: es, hl, hz => by
    (refine el21 (s_names hz rfl rfl) ?_; intro x px zq0 hx; subst zq0)
    rw [List.zip_cons_cons, List.all_cons, Bool.and_eq_true] at hz
    have ih := s_each_length (is := is) (es := es) (by simpa using hl) hz.2
    refine ⟨?_, ?_⟩
    · show ((false, _) :: assignEach es env).length = _
      rw [List.length_cons, List.length_cons, ih.1]
    · show ((false, _) :: assignEach es env).findIdx? (·.1) = _
      rw [List.findIdx?_cons]
      simp [ih.2]
theorem setAllS_length : ∀ {is : List Nat} {ps : List PV} {l l' : List Slot}, setAllS is ps l = some l' → is.length = ps.length
  | [], [], _, _, _ => rfl
  | [], _ :: _, _, _, h => by cases h
  | _ :: _, [], _, _, h => by cases h
  | i :: is, p :: ps, l, l', h => by rw [List.length_cons, List.length_cons, setAllS_length (l := l.set i (.fz p)) h]
theorem SO.storeAll (F : FS Mb env nms nv0) (sk : ScOK sc env) : ∀ {is : List Nat} {es : List PySem.Expr} {ps : List PV} {vs : List Value} {loc loc' : List Slot} {reg : Reg} {s : Shared} {ow : Nat → Option Addr}, SO g n A Mb env nms nv0 ow ⟨loc, reg⟩ s → is.length = es.length → ((is.zip es).all fun p => varE nms nv0 sc p.1 p.2) = true → setAllS is ps loc = some loc' → RlAll g.ap g.C (MO Mb ow) s.heap vs ps → ∀ {Q : Unit → Shared → Prop},
    (∀ s' ow', Ext (LC env) s s' → SO g n A Mb env nms nv0 ow' ⟨loc', reg⟩ s' → (∀ b, (∃ j, ow' j = some b) → ∃ j, ow j = some b) → Q () s') → wpAny (model g.prog g.w) A (assignInOrder ((assignEach es env).map (·.2)) vs) Q NoE s
  | [], es, ps, vs, loc, loc', reg, s, ow, S, hl, _, hset, r, Q, h => by
    cases es with
    | nil =>
      cases ps with
      | nil =>
        cases hset
        cases r
        exact wpAny_pure (h s ow (Ext.refl ..) S fun _ q => q)
      | cons => cases hset
    | cons => cases hl
  | i :: is, [], ps, vs, loc, loc', reg, s, ow, S, hl, _, hset, r, Q, h => by cases hl
  | i :: is, e :: es, ps, vs, loc, loc', reg, s, ow, S, hl, hz, hset, r, Q, h => by
    (refine el21 (s_names hz rfl rfl) ?_; intro x px zq0 hx; subst zq0)
    (refine el03 (varAt_spec hx sk) ?_; intro k1 k2 k3 k4)
    cases ps with
    | nil => cases hset
    | cons p ps =>
      revert h
      refine RlAll.cons_el r fun v vs r1 r2 h => ?_
      show wpAny _ _ (holding vs (assign (.Name x px) env v) >>= fun _ => assignInOrder ((assignEach es env).map (·.2)) vs) _ _ _
      refine wpAny_bind (wpAny_holding (wpAny_assign_Name (S.storeF F k1 k2 k3 r1 fun s₁ x₁ S₁ => ?_)))
      rw [List.zip_cons_cons, List.all_cons, Bool.and_eq_true] at hz
      refine SO.storeAll F sk S₁ (by simpa using hl) hz.2 hset ((r2.ext x₁ fun a q => .inl (LC_sub F q)).mono (fun _ _ _ e => e) fun a q => .inl (MO_upd q)) fun s₂ ow₂ x₂ S₂ hw => ?_
      exact h s₂ ow₂ (x₁.tr x₂) S₂ fun b q => upd_sub (hw b q)
theorem SO.assignT (S : SO g n A Mb env nms nv0 ow σ s) (F : FS Mb env nms nv0) (ok : g.OK) (sk : ScOK sc env) {t : Tgt} {te : PySem.Expr} {p : PV} {v : Value} {loc : List Slot} {Q : Unit → Shared → Prop} (ht : sTgtOk nms nv0 sc t te = true) (rv : Rl g.ap g.C (MO Mb ow) s.heap v p) (hb : bindS t p σ.loc = some loc)
    (h : ∀ s' ow', Ext (LC env) s s' → SO g n A Mb env nms nv0 ow' ⟨loc, σ.reg⟩ s' → (∀ b, (∃ j, ow' j = some b) → ∃ j, ow j = some b) → Q () s') : wpAny (model g.prog g.w) A (PySem.assign te env v) Q NoE s := by
  rcases stgt_of ht with ⟨i, x, px, rfl, rfl, hq⟩ | ⟨is, es, kk, px, rfl, rfl, hq⟩
  · cases hb
    (refine el03 (varAt_spec hq sk) ?_; intro k1 k2 k3 k4)
    exact wpAny_assign_Name (S.storeF F k1 k2 k3 rv fun s₁ x₁ S₁ => h s₁ _ x₁ S₁ fun b q => upd_sub q)
  · (refine el11 (PV.onT_el (motive := fun p => ∃ l, p = .tup l ∧ setAllS is l σ.loc = some loc) hb (fun h => ns_ h) fun l h => mk11 l rfl h) ?_; intro l zq0 hb; subst zq0)
    (refine el24 (tup_of rv) ?_; intro a vs zq0 hna ho hl hz; subst zq0)
    have hlen := setAllS_length hb
    have he := s_each_length (env := env) (nms := nms) (sc := sc) (nv0 := nv0) hq.1 hq.2
    refine wpAny_assign_Tuple S.pr.a.1 ho (by rw [he.1, hz, ← hlen, hq.1]) he.2 fun h' hs => ?_
    have e0 : Ext0 s { s with heap := h' } := Ext0.fresh (tk := s.toks) s (get_size _) hs
    have S' : SO g n A Mb env nms nv0 ow ⟨σ.loc, σ.reg⟩ { s with heap := h' } := S.ev (fun _ q => .inl q) (fun _ q => q) (e0.wk fun _ q => q.elim) (S.pr.next0 ok e0) rfl F
    exact SO.storeAll F sk S' hq.1 hq.2 hb (hl.ext0 e0) fun s₂ ow₂ x₂ S₂ hw => h s₂ ow₂ (e0.tr x₂) S₂ hw
theorem sole_plain {t v : PySem.Expr} {l : Nat} (h : isComp v = false) : swapsWithSole [t] v l env = pure false := by
  cases v <;> first | rfl | cases h
theorem swapped_none {es : List PySem.Expr} {k : Nat} {p : Pos} {v : PySem.Expr} (h : isTuple v = false) : swappedStores [.Tuple es k p] v env = pure none := by
  cases v <;> first | rfl | cases h
theorem st_unp (S : SO g n A Mb env nms nv0 ow σ s) (F : FS Mb env nms nv0) (ok : g.OK) (hL : EvOK g n L) (sk : ScOK sc env) {is : List Nat} {e : X} {es : List PySem.Expr} {k : Nat} {v : PySem.Expr} {p p' : Pos} {fl : Fl} {σ' : St} (ht : sTgtOk nms nv0 sc (.many is) (.Tuple es k p') = true) (hco : isComp v = false) (htu : isTuple v = false) (ce : CorE nms g.fname sc e v)
    (h : stepEx L (.unp is e) σ = some (fl, σ')) : wpAny (model g.prog g.w) A (exec (.Assign [.Tuple es k p'] v p) env) (PostS g n A Mb env nms nv0 ow σ.reg s fl σ') NoE s := by
  delta stepEx at h
  refine ifS_el h fun p P e1 h => ?_
  revert e1
  refine PV.onT_el h (fun h => ns_ h) fun l h e1 => ?_
  · (refine el11 (Option.map_eq_some_iff.mp h) ?_; intro loc hb h2)
    cases h2
    refine Assign_Tuple (S.evF F ok hL ce sk e1 fun v s₁ q S₁ => ?_) (sole_plain hco) (swapped_none htu)
    exact S₁.assignT F ok sk (p := .tup l) ht q.rl hb fun s₂ ow₂ x₂ S₂ hw => post_mk S F S₂ ((W2.xr q.ext).tr (W2.lc x₂)) (fun b q => .inl (hw b q)) q.same .nx
theorem st_ret (S : SO g n A Mb env nms nv0 ow σ s) (F : FS Mb env nms nv0) (ok : g.OK) (hL : EvOK g n L) (sk : ScOK sc env) {e : X} {v : PySem.Expr} {p : Pos} {fl : Fl} {σ' : St} (ce : CorE nms g.fname sc e v)
    (h : stepEx L (.ret e) σ = some (fl, σ')) : wpAny (model g.prog g.w) A (exec (.Return (some v) p) env) (PostS g n A Mb env nms nv0 ow σ.reg s fl σ') NoE s := by
  delta stepEx at h
  refine ifS_el h fun q P e1 h => sp_el h ?_
  · exact wpAny_Return_some (S.evA F ok hL ce sk e1 fun v s₁ x₁ S₁ r₁ h₁ => post_mk S F S₁ (W2.xr x₁) (fun b q => .inl q) h₁ (.rt r₁))
end
end Mine
end
section
open PySem PySem.W PyProof.Rows
set_option Elab.async false
set_option maxRecDepth 100000
namespace Mine
section
variable {prog : Program} {w : World} {A : Around} {s : Shared} {E : Value → Shared → Prop}
theorem noInpl_list : fillsInplaceSlot (.type "list") "add" (Operator.Add == .Add) = pure false := by
  unfold fillsInplaceSlot
  show (typeLookup (.type "list") (dunderI "add") >>= fun fi => pure (fi.isSome && !isSeqSlot fi)) = pure false
  rw [PySem.F.slot_list_iadd.lookup]
  rw [pure_bind]
  have : isSeqSlot (some (Value.builtin "list.__iadd__")) = true := by decide +kernel
  rw [this]; rfl
theorem seqI_list : seqSlot? (.type "list") (dunderI "add") = pure (some (.builtin "list.__iadd__")) := PySem.seqSlot_of PySem.F.slot_list_iadd.lookup (by decide +kernel)
theorem iadd_lists {l b : Addr} {items items2 : Array Value} {Q : Value → Shared → Prop} (hl : s.heap.PlainList l items) (hb : s.heap.PlainList b items2) (hz : items.size < 65536) (hz2 : items2.size < 65536)
    (hQ : ∀ h', h'.PlainList l (items ++ items2) → Heap.SameBut l s.heap h' → Q (.ref l) { s with heap := h' }) : wpAny (model prog w) A (inplaceOp .Add (.ref l) (.ref b)) Q E s := by
  (refine el10 (id hl) ?_; intro n ho)
  (refine el10 (id hb) ?_; intro n2 ho2)
  have ha : s.TypeIs (.ref l) "list" := (mk11 _ ho rfl)
  have hbt : s.TypeIs (.ref b) "list" := (mk11 _ ho2 rfl)
  unfold inplaceOp
  refine wpAny_holding ?_
  refine wpAny_bind (wpAny_typeOf ha (wpAny_bind (wpAny_of_eq noInpl_list ?_)))
  show wpAny _ A (if false = true then _ else _) Q E s
  rw [if_neg Bool.false_ne_true]
  refine wpAny_bind (wpAny_binaryOp1_none (nm := "add") ha hbt noFill_list_add ?_)
  refine wpAny_bind (wpAny_of_eq seqI_list ?_)
  refine wpAny_bind (wpAny_rule ?_)
  refine call_meets PySem.F.slot_list_iadd ha PySem.F.entry_list_iadd (PySem.F.args_list_iadd_2 _ _) (AutoSeq1.list___iadd___list_list_0 l items n b items2 n2 ?_ (by rw [sizeLine_eq]; lia) (by rw [sizeLine_eq]; lia)) ⟨ho, ho2, ?_⟩
  · have : Builtin.List.listTooLong (items.size + items2.size) = false := by
      unfold Builtin.List.listTooLong
      rw [decide_eq_false_iff_not, sizeLine_eq]
      lia
    rw [this]; simp
  · refine hQ _ ?_ (Heap.SameBut.update ..)
    have hm : ∃ n', Obj.mapSeq (· ++ items2) { cls := .type "list", data := .seq items n } = ({ cls := .type "list", data := .seq (items ++ items2) n' } : Obj) := ⟨_, rfl⟩
    (refine el10 hm ?_; try clear hm; intro n' hd')
    exact ⟨n', by rw [Heap.get?_update_self _ ho (by rw [hd']; rfl), hd']⟩
theorem ifloordiv_840 {a : Int} {t u : Tok} {Q : Value → Shared → Prop} (h : Q (.int (a.fdiv 840) s.toks) { s with toks := s.toks + 1 }) : wpAny (model prog w) A (inplaceOp .FloorDiv (.int a t) (.int 840 u)) Q E s := by
  refine PySem.AutoIntOps.ifloordiv_1 (by decide) ?_ h
  unfold Builtin.divisionGoesByPylong
  have h1 : Nat.log2 840 = 9 := by decide +kernel
  simp [h1]
end
section
variable {g : G} {n : Nat} {L : Lv} {A : Around} {M M' Mb Mb' : Addr → Prop} {P P' P₁ P₂ : Reg} {s s' s₁ : Shared} {env : Env} {nms : List Str} {sc csc : Sc} {ρ ρ' ρ₁ ρ₂ : Vw} {srt : List PV → Option (List PV)} {nv0 : Nat} {ow : Nat → Option Addr} {σ : St}
theorem load_at {x : Str} {v : Value} {Q : Value → Shared → Prop} (F : FS Mb env nms nv0) (hv : VarAt s.heap env x v) (hk : vk (env.kindOf x) = 1 ∨ vk (env.kindOf x) = 2) (h : Q v s) : wpAny (model g.prog g.w) A (loadName env x) Q NoE s := by
  rcases hk with hk | hk
  · (refine el11 (hv.1 hk) ?_; intro m h1 h2)
    exact wpAny_loadName_local F.kind (local_of hk) h1 h2 h
  · (refine el11 (hv.2 hk) ?_; intro c h1 h2)
    exact wpAny_loadName_cell F.kind (F.cells x hk).1 h1 h2 h
theorem name_at {x : Str} {p : Pos} {v : Value} {Q : Value → Shared → Prop} (F : FS Mb env nms nv0) (hv : VarAt s.heap env x v) (hk : vk (env.kindOf x) = 1 ∨ vk (env.kindOf x) = 2) (hn : okName x = true) (h : Q v s) : wpAny (model g.prog g.w) A (eval (.Name x p) env) Q NoE s := by
  simp only [okName, Bool.and_eq_true, Bool.not_eq_true'] at hn
  exact wpAny_Name (load_at F hv hk h) hn.1
theorem SO.owned (S : SO g n A Mb env nms nv0 ow σ s) {i : Nat} {x : Str} {p : PV} (hi : i < nv0) (hx : nms[i]? = some x) (h : lkS σ.loc i = .ow p) : ∃ a, ow i = some a ∧ VarAt s.heap env x (.ref a) ∧ (p.isList || p.isDict) = true ∧ Own g.prog g.w g.ap g.C (MO Mb ow) s.heap a p := by
  have q := S.slots i x hi hx
  rw [h] at q
  generalize hw : ow i = o at q
  cases q with
  | ow h1 h2 h3 => exact (mk13 _ rfl h1 h2 h3)
theorem SO.frozen (S : SO g n A Mb env nms nv0 ow σ s) {i : Nat} {x : Str} {p : PV} (hi : i < nv0) (hx : nms[i]? = some x) (h : lkS σ.loc i = .fz p) : ∃ v, VarAt s.heap env x v ∧ Rl g.ap g.C (MO Mb ow) s.heap v p := by
  have q := S.slots i x hi hx
  rw [h] at q
  generalize hw : ow i = o at q
  cases q with
  | fz h1 h2 => exact (mk11 _ h1 h2)
theorem SO.setOwn (S : SO g n A Mb env nms nv0 ow σ s) (F : FS Mb env nms nv0) {i : Nat} {a : Addr} {p : PV} (hw : ow i = some a) (e : Ext (fun b => b = a) s s') (o : Own g.prog g.w g.ap g.C (MO Mb ow) s'.heap a p) (hp : (p.isList || p.isDict) = true) : SO g n A Mb env nms nv0 ow ⟨σ.loc.set i (.ow p), σ.reg⟩ s' := by
  (refine el24 (S.slot hw F) ?_; intro x p₀ hi hx hsl hva zr0; refine el01 zr0 ?_; clear zr0; intro _ ho)
  have hna := S.oMb i a hw
  have hX : ∀ b, b = a → MO Mb ow b := fun b q => .inr ⟨i, q ▸ hw⟩
  have hil := Nat.lt_of_lt_of_le hi S.len
  (refine el12 (ho.obj) ?_; intro ob hob _ hoc)
  (refine el12 (o.obj) ?_; intro ob' hob' _ _)
  have hLa : ¬ env.locals = a := fun q => hna (q ▸ F.mL)
  have hCa : ∀ x c, env.cells.lookup x = some c → ¬ c = a := fun x c hc q => hna (q ▸ F.mC x c hc)
  refine ⟨S.pr.upd e hX (fun b q => ⟨ob', q ▸ hob'⟩) (fun hr q => S.ap hw hr q.symm), S.map, ?_, fun x c hc => ?_, fun j y h1 h2 => ?_, fun j h1 => ?_, by simpa using S.len, S.oMb, S.oInj⟩
  · (refine el41 (S.ns) ?_; intro m o es ep ho h1)
    exact (mk41 m o es ep (e.keep _ _ hLa ho) h1)
  · (refine el21 (S.cellAt x c hc) ?_; intro v o ho h1)
    exact (mk21 v o (e.keep _ _ (hCa x c hc) ho) h1)
  · simp only [lkS_set hil]
    by_cases hj : j = i
    · subst hj
      rw [hx] at h2; cases h2
      rw [if_pos rfl, hw]
      exact .ow (hva.mv e hLa (hCa x)) hp o
    · rw [if_neg hj]
      exact (S.slots j y h1 h2).mv e hX hLa (hCa y) (fun b hb q => hj (S.oInj j i b hb (q ▸ hw))) fun b q => .inl q
  · have : ¬ j = i := fun e => by lia
    simp only [lkS_set hil, if_neg this]
    exact S.hi j h1
theorem SO.setPool (S : SO g n A Mb env nms nv0 ow σ s) (F : FS Mb env nms nv0) {l : List PV} (hr : σ.reg.isSome = true) (e : Ext (fun b => b = g.ap) s s') (r : RegOK g.ap g.C g.B s'.heap (some l)) : SO g n A Mb env nms nv0 ow ⟨σ.loc, some l⟩ s' ∧ Ext (XR g σ.reg) s s' := by
  have e' : Ext (XR g σ.reg) s s' := e.wk fun b q => ⟨hr, q⟩
  have hb := S.map hr
  (refine el11 (r.is rfl) ?_; intro o ho _)
  have pr : Pre g n A (MO Mb ow) (some l) s' := by
    refine ⟨S.pr.a, fun a q => ?_, S.pr.mb, fun _ => .inl hb, r, fun a o h => e.keep a o (fun q => ?_) (S.pr.kb a o h)⟩
    · by_cases h : a = g.ap
      · exact ⟨o, h ▸ ho⟩
      · (refine el10 (S.pr.ma a q) ?_; intro o' ho')
        exact ⟨o', e.keep a o' h ho'⟩
    · rw [q, S.pr.mb _ (.inl hb)] at h; cases h
  exact ⟨S.ev (fun _ q => .inl q) (fun _ q => q) e' pr (by rw [hr]; rfl) F, e'⟩
end
end Mine
end
section
open PySem PySem.W PyProof.Rows
set_option Elab.async false
set_option maxRecDepth 100000
namespace Mine
section
variable {g : G} {n : Nat} {L : Lv} {A : Around} {M M' Mb Mb' : Addr → Prop} {P P' P₁ P₂ : Reg} {s s' s₁ : Shared} {env : Env} {nms : List Str} {sc csc : Sc} {ρ ρ' ρ₁ ρ₂ : Vw} {srt : List PV → Option (List PV)} {nv0 : Nat} {ow : Nat → Option Addr} {σ : St}
theorem not_interactive (F : FS Mb env nms nv0) : interactive env = false := by unfold interactive; rw [F.kind]; rfl
theorem SO.park (S : SO g n A Mb env nms nv0 ow σ s) (F : FS Mb env nms nv0) {i : Nat} {a : Addr} (hw : ow i = some a) : SO g n A (plus Mb a) env nms nv0 (upd ow i none) ⟨σ.loc.set i .un, σ.reg⟩ s := by
  (refine el24 (S.slot hw F) ?_; intro x p₀ hi hx hsl hva zr0; refine el01 zr0 ?_; clear zr0; intro _ ho)
  have hil := Nat.lt_of_lt_of_le hi S.len
  have he : MO (plus Mb a) (upd ow i none) = MO Mb ow := by
    funext b
    refine propext ⟨fun h => ?_, fun h => ?_⟩
    · rcases h with (h | h) | h
      · exact .inl h
      · exact .inr ⟨i, h ▸ hw⟩
      · exact .inr (upd_sub h)
    · rcases h with h | ⟨j, h⟩
      · exact .inl (.inl h)
      · by_cases hj : j = i
        · subst hj; rw [hw] at h; cases h; exact .inl (.inr rfl)
        · exact .inr ⟨j, by unfold upd; rw [if_neg hj]; exact h⟩
  refine ⟨by rw [he]; exact S.pr, fun h => .inl (S.map h), S.ns, S.cellAt, fun j y h1 h2 => ?_, fun j h1 => ?_, by simpa using S.len, fun j b h q => ?_, fun j k b h1 h2 => ?_⟩
  · rw [he]
    simp only [lkS_set hil, upd]
    by_cases hj : j = i
    · rw [if_pos hj, if_pos hj]; exact .un
    · rw [if_neg hj, if_neg hj]; exact S.slots j y h1 h2
  · have : ¬ j = i := fun e => by lia
    simp only [lkS_set hil, upd, if_neg this]
    exact S.hi j h1
  · unfold upd at h
    split at h
    · cases h
    · rename_i hj
      rcases q with q | q
      · exact S.oMb j b h q
      · exact hj (S.oInj j i b h (q ▸ hw))
  · unfold upd at h1 h2
    split at h1
    · cases h1
    · split at h2
      · cases h2
      · exact S.oInj j k b h1 h2
theorem Own.ext {X : Addr → Prop} {a : Addr} {p : PV} (o : Own g.prog g.w g.ap g.C M s.heap a p) (e : Ext X s s') (hX : ∀ b, X b → M b) (ha : ¬ X a) : Own g.prog g.w g.ap g.C M s'.heap a p :=
  o.mono (fun b ob nb hb => e.keep b ob (fun q => nb (hX b q)) hb) (fun ob hb => e.keep a ob ha hb) fun b q => .inl q
theorem SO.restore (S : SO g n A Mb env nms nv0 ow σ s) (F : FS Mb env nms nv0) {i : Nat} {x : Str} {a : Addr} {p : PV} (hi : i < nv0) (hx : nms[i]? = some x) (hv : vk (env.kindOf x) = 1 ∨ vk (env.kindOf x) = 2) (hw : ow i = some a) (hsl : lkS σ.loc i = .ow p) {Q : Unit → Shared → Prop}
    (k : ∀ s' ow', Ext (LC env) s s' → SO g n A Mb env nms nv0 ow' σ s' → (∀ b, (∃ j, ow' j = some b) → ∃ j, ow j = some b) → ow' i = some a → Q () s') : wpAny (model g.prog g.w) A (storeName env x (.ref a)) Q NoE s := by
  (refine el13 (S.owned hi hx hsl) ?_; intro a' hw' hva hp ho)
  rw [hw] at hw'; cases hw'
  have hna := S.oMb i a hw
  have haL : ¬ LC env a := fun q => hna (LC_sub F q)
  have S₁ := S.park F hw
  refine S₁.store (F.wk fun b q => .inl q) hi hx hv fun s' e S₂ va => ?_
  have he : ∀ b, MO (plus Mb a) (upd (upd ow i none) i none) b → MO Mb ow b := fun b h => by
    rcases MO_upd h with (h | h) | h
    · exact .inl h
    · exact .inr ⟨i, h ▸ hw⟩
    · exact .inr (upd_sub h)
  have o₂ : Own g.prog g.w g.ap g.C (MO (plus Mb a) (upd (upd ow i none) i none)) s'.heap a p := (ho.ext e (fun b q => .inl (LC_sub F q)) haL).mono (fun _ _ _ e => e) (fun _ e => e) fun b q => .inl (he b q)
  have S₃ := SO.putO (σ := ⟨σ.loc.set i .un, σ.reg⟩) (ow := upd ow i none) S₂ hi (by simpa using S.len) hx va hna hp S.map o₂
  have hloc : (σ.loc.set i .un).set i (.ow p) = σ.loc := by
    rw [List.set_set]
    have hil := Nat.lt_of_lt_of_le hi S.len
    have : σ.loc[i] = .ow p := by
      have := hsl
      unfold lkS at this
      rw [List.getD_eq_getElem?_getD, List.getElem?_eq_getElem hil] at this
      simpa using this
    rw [← this, List.set_getElem_self]
  simp only [hloc] at S₃
  refine k s' _ e S₃ (fun b hb => ?_) (by simp [upd])
  (refine el10 hb ?_; try clear hb; intro j hj)
  unfold upd at hj
  split at hj
  · cases hj; exact ⟨i, hw⟩
  · exact ⟨j, hj⟩
theorem st_setIt (S : SO g n A Mb env nms nv0 ow σ s) (F : FS Mb env nms nv0) (ok : g.OK) (hL : EvOK g n L) (sk : ScOK sc env) {i : Nat} {idx e : X} {x : Str} {ie v : PySem.Expr} {p p' p'' : Pos} {fl : Fl} {σ' : St} (hv : varAt nms nv0 sc i x = true) (hco : isComp v = false) (ci : CorE nms g.fname sc idx ie) (ce : CorE nms g.fname sc e v)
    (h : stepEx L (.setIt i idx e) σ = some (fl, σ')) : wpAny (model g.prog g.w) A (exec (.Assign [.Subscript (.Name x p'') ie p'] v p) env) (PostS g n A Mb env nms nv0 ow σ.reg s fl σ') NoE s := by
  delta stepEx at h
  (refine el03 (varAt_spec hv sk) ?_; intro hi hx hk hn)
  refine ifS_el h fun pv P₁ e1 h => if_el h fun hf h => ifS_el h fun pj P₂ e2 h => ?_
  refine wpAny_Assign_Subscript (S.evA F ok hL ce sk e1 fun v₁ s₁ x₁ S₁ r₁ h₁ => ?_) (swaps_plain hco)
  clear e1
  refine Slot.any_el h (fun q hsl h => ?_) (fun q hsl h => ?_)
  · revert hsl
    refine PV.onL_el h (fun h => ?_) fun l h hsl => ?_
    · -- an owned dict
      refine PV.onD_el h (fun h => ns_ h) fun d h hsl => bd_el h fun key hkey h => ?_
      revert r₁ hf
      refine PV.onI_el h (fun h => ns_ h) fun j h hf r₁ => if_el h fun hc h => sp_el h ?_
      (refine el13 (S₁.owned hi hx hsl) ?_; intro a hw hva _ _)
      refine name_at F hva hk hn ?_
      refine S₁.evA F ok hL ci sk e2 fun jv s₂ x₂ S₂ r₂ h₂ => ?_
      (refine el13 (S₂.owned hi hx hsl) ?_; intro a' hw' _ _ zr0; refine el12 zr0 ?_; clear zr0; intro xs hD hX' hR)
      rw [hw] at hw'; cases hw'
      (refine el12 (r₂.key (prog := g.prog) (w := g.w) hkey) ?_; intro b zq0 _ rk; subst zq0)
      have rkM := S₂.up F rk (flat_encK key)
      have hroom := S.pr.a.room
      refine r₁.int_el fun t => ?_
      refine wpAny_setItem_heap (knd := dkKind g.prog g.w) (by show A.units + 1 + 8 < cLine; lia) (isDK_of rk) hD (fun h' hD' hs' => ?_) (by rw [hX'.length, sizeLine_eq]; lia)
      have x₃ : Ext (fun b => b = a) s₂ { s₂ with heap := h', toks := s₂.toks + (dkKind g.prog g.w).draws key } := Ext.sameBut s₂ hs'
      have hX : ∀ b, b = a → MO Mb ow b := fun b q => .inr ⟨i, q ▸ hw⟩
      refine post_mk S F (S₂.setOwn (p := .dict (dput d key j)) F hw x₃ (mk12 _ hD' (hX'.stored key b j t) ?_) rfl) (((W2.xr x₁).tr (W2.xr (x₂.xr h₁))).tr (W2.own hw hw x₃)) (fun b q => .inl q) (h₂.trans h₁) .nx
      intro y hy
      have hb := rkM.ext x₃ hX
      have hR' : ∀ x ∈ xs, Rl g.ap g.C (MO Mb ow) h' (.ref x.2.1) (encK x.1) := fun x hx => (hR x hx).ext x₃ hX
      unfold storedH at hy
      split at hy
      · (refine el11 (List.mem_map.mp hy) ?_; intro z hz zq0; subst zq0)
        unfold putAt
        split <;> exact hR' z hz
      · rcases List.mem_append.mp hy with hy | hy
        · exact hR' y hy
        · rw [List.mem_singleton.mp hy]; exact hb
    · -- an owned list
      revert e2
      refine PV.onI_el h (fun h => ns_ h) fun j h e2 => if_el h fun hc h => sp_el h ?_
      (refine el13 (S₁.owned hi hx hsl) ?_; intro a hw hva _ _)
      refine name_at F hva hk hn ?_
      refine S₁.evA F ok hL ci sk e2 fun jv s₂ x₂ S₂ r₂ h₂ => ?_
      refine r₂.int_el fun t₂ => ?_
      (refine el13 (S₂.owned hi hx hsl) ?_; intro a' hw' _ _ zr0; refine el11 zr0 ?_; clear zr0; intro vs hpl hrl)
      rw [hw] at hw'; cases hw'
      have hz := hrl.length
      rw [Array.length_toList] at hz
      refine setItem_plain hpl hc.1 (by have := small_lt hc.2.2; lia) (by lia) fun h' hpl' hs' => ?_
      have x₃ : Ext (fun b => b = a) s₂ { s₂ with heap := h' } := Ext.sameBut (tk := s₂.toks) s₂ hs'
      have hX : ∀ b, b = a → MO Mb ow b := fun b q => .inr ⟨i, q ▸ hw⟩
      have rv := (S₂.up F (r₁.ext x₂ S₁.prB.x0) hf).ext x₃ hX
      refine post_mk S F (S₂.setOwn (p := .list (l.set j.toNat pv)) F hw x₃ (mk11 _ hpl' ?_) rfl) (((W2.xr x₁).tr (W2.xr (x₂.xr h₁))).tr (W2.own hw hw x₃)) (fun b q => .inl q) (h₂.trans h₁) .nx
      rw [Array.toList_setIfInBounds]
      exact (hrl.ext x₃ hX).set rv _
  · -- the pool
    refine if_el h fun hpool h => bd_el h fun l hP h => ?_
    subst hP
    rw [PV.pool_eq hpool] at hsl
    revert e2
    refine PV.onI_el h (fun h => ns_ h) fun j h e2 => ?_
    revert r₁ hf
    refine PV.onI_el h (fun h => ns_ h) fun w' h hf r₁ => if_el h fun hc h => sp_el h ?_
    (refine el11 (S₁.frozen hi hx hsl) ?_; intro ov hva hrv)
    rw [show ov = .ref g.ap from hrv.inv] at hva
    refine name_at F hva hk hn ?_
    refine S₁.evA F ok hL ci sk e2 fun jv s₂ x₂ S₂ r₂ h₂ => ?_
    refine r₂.int_el fun t₂ => r₁.int_el fun t => ?_
    (refine el11 (S₂.pr.reg) ?_; intro vs hpl hrl)
    have hz := hrl.length
    rw [Array.length_toList] at hz
    refine wpAny_setItem_list hpl hc.1 (by have := small_lt hc.2.2; lia) (by lia) fun h' hpl' hs' => ?_
    have x₃ : Ext (fun b => b = g.ap) s₂ { s₂ with heap := h' } := Ext.sameBut (tk := s₂.toks) s₂ hs'
    have q := S₂.setPool (l := l.set j.toNat (.int w')) F rfl x₃ (mk11 _ hpl' (by
      rw [Array.toList_setIfInBounds]
      exact (hrl.ext x₃ fun b q => q ▸ ok.ap).set (.int _ _) _))
    exact post_mk S F q.1 (((W2.xr x₁).tr (W2.xr (x₂.xr h₁))).tr (W2.xr (q.2.xr (h₂.trans h₁)))) (fun b q => .inl q) (by rw [← h₁, ← h₂]; rfl) .nx
end
end Mine
end
section
open PySem PySem.W PyProof.Rows
set_option Elab.async false
set_option maxRecDepth 100000
namespace Mine
section
variable {g : G} {n : Nat} {L : Lv} {A : Around} {M M' Mb Mb' : Addr → Prop} {P P' P₁ P₂ : Reg} {s s' s₁ : Shared} {env : Env} {nms : List Str} {sc csc : Sc} {ρ ρ' ρ₁ ρ₂ : Vw} {srt : List PV → Option (List PV)} {nv0 : Nat} {ow : Nat → Option Addr} {σ : St}
theorem SO.ev0 (S : SO g n A Mb env nms nv0 ow σ s) (F : FS Mb env nms nv0) (ok : g.OK) (e : Ext0 s s') : SO g n A Mb env nms nv0 ow σ s' :=
  S.ev (fun _ q => .inl q) (fun _ q => q) (e.wk fun _ q => q.elim) (S.pr.next0 ok e) rfl F
theorem st_augPool (S : SO g n A Mb env nms nv0 ow σ s) (F : FS Mb env nms nv0) (ok : g.OK) (sk : ScOK sc env) {i j k : Nat} {x : Str} {c1 c2 : Nat} {p p' p'' p3 p4 : Pos} {fl : Fl} {σ' : St} (hv : varAt nms nv0 sc i x = true)
    (h : stepEx L (.augPool i j k) σ = some (fl, σ')) : wpAny (model g.prog g.w) A (exec (.AugAssign (.Subscript (.Name x p'') (.Constant (.int (j : Int)) c1 p3) p') .Add (.Constant (.int (k : Int)) c2 p4) p) env) (PostS g n A Mb env nms nv0 ow σ.reg s fl σ') NoE s := by
  delta stepEx at h
  (refine el03 (varAt_spec hv sk) ?_; intro hi hx hk hn)
  refine fz_pool h fun hsl h => bd_el h fun l hreg h => if_el h fun hsm h => bd_el h fun pa hl h => ?_
  revert hl
  refine PV.onI_el h (fun h => ns_ h) fun a h hl => sp_el h ?_
  · · · have hr : σ.reg.isSome = true := by rw [hreg]; rfl
        (refine el11 (S.frozen hi hx hsl) ?_; intro ov hva hrv)
        rw [show ov = .ref g.ap from hrv.inv] at hva
        refine wpAny_AugAssign_Subscript_any (name_at F hva hk hn (wpAny_Constant_int ?_))
        have e0 : Ext0 s { s with toks := s.toks + 1 } := Ext0.tok ..
        (refine el11 (hreg ▸ S.pr.reg : RegOK g.ap g.C g.B s.heap (some l)) ?_; intro vs hpl hrl)
        (refine el11 (at_of hrl hl) ?_; intro u hu1 hu2)
        have hz := hrl.length
        rw [Array.length_toList] at hz
        have hlt : j < vs.size := by
          have := (Array.getElem?_eq_some_iff.mp hu1).1; exact this
        have hz2 := small_lt hsm
        refine wpAny_getItem_list (s := { s with toks := s.toks + 1 }) hpl (by lia) (by lia) (by simpa using hu1) ?_
        refine hu2.int_el fun tu => wpAny_Constant_int (PySem.P.iadd_int ?_)
        refine wpAny_setItem_list (s := { s with toks := s.toks + 1 + 1 + 1 }) hpl (by lia) (by lia) (by lia) fun h' hpl' hs' => ?_
        have x₃ : Ext (fun b => b = g.ap) s { s with heap := h', toks := s.toks + 1 + 1 + 1 } := Ext.sameBut s hs'
        have q := S.setPool (l := l.set j (.int (a + (k : Int)))) F hr x₃ (mk11 _ hpl' (by
          rw [Array.toList_setIfInBounds]
          exact (hrl.ext x₃ fun b q => q ▸ ok.ap).set (.int _ _) _))
        exact post_mk S F q.1 (W2.xr q.2) (fun b q => .inl q) (by rw [hr]; rfl) .nx
theorem st_augI (S : SO g n A Mb env nms nv0 ow σ s) (F : FS Mb env nms nv0) (ok : g.OK) (hL : EvOK g n L) (sk : ScOK sc env) {i : Nat} {op : Nat} {o : Operator} (ho : (op = 0 ∧ o = .Add) ∨ (op = 1 ∧ o = .FloorDiv)) {e : X} {x : Str} {v : PySem.Expr} {p p' : Pos} {fl : Fl} {σ' : St} (hv : varAt nms nv0 sc i x = true) (ce : CorE nms g.fname sc e v)
    (h : stepEx L (.augI i op e) σ = some (fl, σ')) : wpAny (model g.prog g.w) A (exec (.AugAssign (.Name x p') o v p) env) (PostS g n A Mb env nms nv0 ow σ.reg s fl σ') NoE s := by
  delta stepEx at h
  (refine el03 (varAt_spec hv sk) ?_; intro hi hx hk hn)
  refine fz_int h fun a hsl h => ifS_el h fun pb P e1 h => ?_
  revert e1
  refine PV.onI_el h (fun h => ns_ h) fun b h e1 => ?_
  · · (refine el11 (S.frozen hi hx hsl) ?_; intro ov hva hrv)
      revert hva
      refine hrv.int_el fun t hva => ?_
      refine wpAny_AugAssign_Name (load_at F hva hk (S.evA F ok hL ce sk e1 fun bv s₁ x₁ S₁ r₁ h₁ => ?_))
      refine r₁.int_el fun t₁ => ?_
      have fin : ∀ (c : Int) (t : Tok), wpAny (model g.prog g.w) A (storeName env x (.int c t)) (fun _ => PostS g n A Mb env nms nv0 ow σ.reg s .nx ⟨σ.loc.set i (.fz (.int c)), P⟩ .next) NoE { s₁ with toks := s₁.toks + 1 } := fun c t => by
        have e0 : Ext0 s₁ { s₁ with toks := s₁.toks + 1 } := Ext0.tok ..
        exact (S₁.ev0 F ok e0).storeF F hi hx hk (.int c t) fun s₂ x₂ S₂ => post_mk S F S₂ ((W2.xr x₁).tr (W2.lc (e0.tr x₂))) (fun b q => .inl (upd_sub q)) h₁ .nx
      rcases ho with ⟨rfl, rfl⟩ | ⟨rfl, rfl⟩
      · rw [if_pos rfl] at h
        exact sp_el h (PySem.P.iadd_int (fin _ _))
      · rw [if_neg (by decide)] at h
        refine if_el h fun hb h => ?_
        subst hb
        exact sp_el h (ifloordiv_840 (fin _ _))
theorem st_ext (S : SO g n A Mb env nms nv0 ow σ s) (F : FS Mb env nms nv0) (ok : g.OK) (hL : EvOK g n L) (sk : ScOK sc env) {i : Nat} {e : X} {x : Str} {v : PySem.Expr} {p p' : Pos} {fl : Fl} {σ' : St} (hv : varAt nms nv0 sc i x = true) (ce : CorE nms g.fname sc e v)
    (h : stepEx L (.ext i e) σ = some (fl, σ')) : wpAny (model g.prog g.w) A (exec (.AugAssign (.Name x p') .Add v p) env) (PostS g n A Mb env nms nv0 ow σ.reg s fl σ') NoE s := by
  delta stepEx at h
  (refine el03 (varAt_spec hv sk) ?_; intro hi hx hk hn)
  refine if_el h fun hff h => ow_list h fun l hsl h => ifS_el h fun pm P e1 h => ?_
  revert e1
  refine PV.onL_el h (fun h => ns_ h) fun m h e1 => if_el h fun hc h => sp_el h ?_
  · · · · simp only [Bool.and_eq_true] at hc
          (refine el13 (S.owned hi hx hsl) ?_; intro a hw hva _ _)
          refine wpAny_AugAssign_Name (load_at F hva hk (mono_ (hL ce e1 sk (S.frA ok F) S.prB) fun bv s₁ q => ?_))
          have S₁ : SO g n A Mb env nms nv0 ow ⟨σ.loc, P⟩ s₁ := S.ev (fun _ q => .inl q) (fun _ q => q) q.ext (S.pr.next ok q.ext q.reg q.same) q.same F
          (refine el12 (q.fresh hff rfl) ?_; intro b zq0 _ zr1; refine el11 zr1 ?_; clear zr1; intro us hus hru; subst zq0)
          (refine el13 (S₁.owned hi hx hsl) ?_; intro a' hw' _ _ zr0; refine el11 zr0 ?_; clear zr0; intro vs hpl hrl)
          obtain rfl : a = a' := Option.some.inj (hw.symm.trans hw')
          have z1 := hrl.length
          have z2 := hru.length
          rw [Array.length_toList] at z1 z2
          have y1 := small_lt hc.1.2
          have y2 := small_lt hc.2
          refine iadd_lists hpl hus (by lia) (by lia) fun h' hpl' hs' => ?_
          have x₃ : Ext (fun b => b = a) s₁ { s₁ with heap := h' } := Ext.sameBut (tk := s₁.toks) s₁ hs'
          have hX : ∀ b, b = a → MO Mb ow b := fun b q => .inr ⟨i, q ▸ hw⟩
          have hru' : RlAll g.ap g.C (MO Mb ow) s₁.heap us.toList m := RlAll.up (S₁.grown F) hc.1.1 hru
          have S₂ : SO g n A Mb env nms nv0 ow ⟨σ.loc.set i (.ow (.list (l ++ m))), P⟩ { s₁ with heap := h' } := S₁.setOwn (p := .list (l ++ m)) F hw x₃ (mk11 _ hpl' (by
            rw [Array.toList_append]
            exact (hrl.ext x₃ hX).append (hru'.ext x₃ hX))) rfl
          have hil := Nat.lt_of_lt_of_le hi S.len
          refine S₂.restore (p := .list (l ++ m)) F hi hx hk hw (by simp only [lkS_set hil, if_true]) fun s₃ ow' x₄ S₃ hsub hw' => ?_
          exact post_mk S F S₃ (((W2.xr q.ext).tr (W2.own hw hw' x₃)).tr (W2.lc x₄)) (fun b q => .inl (hsub b q)) q.same .nx
theorem meth_append {x : Str} {p0 p1 p2 p : Pos} {v : PySem.Expr} {e : X} {a : Addr} {Q : Flow → Shared → Prop} {vs : Array Value} (F : FS Mb env nms nv0) (ce : CorE nms g.fname sc e v) (hline : (p1.endLine == p2.line) = true) (hva : VarAt s.heap env x (.ref a)) (hk : vk (env.kindOf x) = 1 ∨ vk (env.kindOf x) = 2) (hn : okName x = true)
    (hpl : s.heap.PlainList a vs) (h : wpAny (model g.prog g.w) A (eval v env) (fun u s₁ => wpAny (model g.prog g.w) A (call (.builtin "list.append") [.ref a, u]) (fun _ => Q .next) NoE s₁) NoE s) :
    wpAny (model g.prog g.w) A (exec (.Expr (.Call (.Attribute (.Name x p0) "append" p1) [v] [] p2) p) env) Q NoE s := by
  refine wpAny_Expr_any ?_ (not_interactive F) rfl
  have hs : CorEs nms g.fname sc [e] [v] := .cons ce .nil
  refine meth_call hline (by simp) (plain_all hs) (name_at F hva hk hn ?_)
  (refine el10 hpl ?_; try clear hpl; intro k ho)
  refine Calls.getMethod_list_append ho rfl rfl ?_
  rw [star_cons ce]
  show wpAny _ _ (callWith p2 (.builtin "list.append") [.ref a] [(false, eval v env)] []) _ _ _
  exact Calls.callWith_builtin rfl (Calls.evalArgs_plain (Calls.spliced_cons (mono_ h fun _ _ h₁ => Calls.spliced_nil h₁)))
theorem st_app (S : SO g n A Mb env nms nv0 ow σ s) (F : FS Mb env nms nv0) (ok : g.OK) (hL : EvOK g n L) (sk : ScOK sc env) {i : Nat} {e : X} {x : Str} {v : PySem.Expr} {p p' p1 p2 : Pos} {fl : Fl} {σ' : St} (hv : varAt nms nv0 sc i x = true) (hline : (p1.endLine == p2.line) = true) (ce : CorE nms g.fname sc e v)
    (h : stepEx L (.app i e) σ = some (fl, σ')) : wpAny (model g.prog g.w) A (exec (.Expr (.Call (.Attribute (.Name x p') "append" p1) [v] [] p2) p) env) (PostS g n A Mb env nms nv0 ow σ.reg s fl σ') NoE s := by
  delta stepEx at h
  (refine el03 (varAt_spec hv sk) ?_; intro hi hx hk hn)
  refine ow_list h fun l hsl h => ifS_el h fun pv P e1 h => if_el h fun hc h => sp_el h ?_
  · · · simp only [Bool.and_eq_true] at hc
        (refine el13 (S.owned hi hx hsl) ?_; intro a hw hva _ zr0; refine el11 zr0 ?_; clear zr0; intro vs₀ hpl₀ _)
        refine meth_append F ce hline hva hk hn hpl₀ (S.evA F ok hL ce sk e1 fun u s₁ x₁ S₁ r₁ h₁ => ?_)
        (refine el13 (S₁.owned hi hx hsl) ?_; intro a' hw' _ _ zr0; refine el11 zr0 ?_; clear zr0; intro vs hpl hrl)
        obtain rfl : a = a' := Option.some.inj (hw.symm.trans hw')
        have z1 := hrl.length
        rw [Array.length_toList] at z1
        have y1 := small_lt hc.2
        refine wpAny_list_append_plain hpl (fun h' hpl' hs' => ?_) (by rw [sizeLine_eq]; lia)
        have x₃ : Ext (fun b => b = a) s₁ { s₁ with heap := h' } := Ext.sameBut (tk := s₁.toks) s₁ hs'
        have hX : ∀ b, b = a → MO Mb ow b := fun b q => .inr ⟨i, q ▸ hw⟩
        refine post_mk S F (S₁.setOwn (p := .list (l ++ [pv])) F hw x₃ (mk11 _ hpl' ?_) rfl) ((W2.xr x₁).tr (W2.own hw hw x₃)) (fun b q => .inl q) h₁ .nx
        rw [Array.toList_push]
        exact (hrl.ext x₃ hX).append (RlAll.one ((S₁.up F r₁ hc.1).ext x₃ hX))
theorem st_appF (S : SO g n A Mb env nms nv0 ow σ s) (F : FS Mb env nms nv0) (ok : g.OK) (hL : EvOK g n L) (sk : ScOK sc env) {i : Nat} {e : X} {x : Str} {v : PySem.Expr} {p p' p1 p2 : Pos} {fl : Fl} {σ' : St} (hv : varAt nms nv0 sc i x = true) (hline : (p1.endLine == p2.line) = true) (ce : CorE nms g.fname sc e v)
    (h : stepEx L (.appF i e) σ = some (fl, σ')) : wpAny (model g.prog g.w) A (exec (.Expr (.Call (.Attribute (.Name x p') "append" p1) [v] [] p2) p) env) (PostS g n A Mb env nms nv0 ow σ.reg s fl σ') NoE s := by
  delta stepEx at h
  (refine el03 (varAt_spec hv sk) ?_; intro hi hx hk hn)
  refine ow_list h fun l hsl h => ifS_el h fun pv P e1 h => if_el h fun hc h => sp_el h ?_
  · · · (refine el13 (S.owned hi hx hsl) ?_; intro a hw hva _ zr0; refine el11 zr0 ?_; clear zr0; intro vs₀ hpl₀ _)
        refine meth_append F ce hline hva hk hn hpl₀ (S.evF F ok hL ce sk e1 fun u s₁ q S₁ => ?_)
        (refine el13 (S₁.owned hi hx hsl) ?_; intro a' hw' _ _ zr0; refine el11 zr0 ?_; clear zr0; intro vs hpl hrl)
        obtain rfl : a = a' := Option.some.inj (hw.symm.trans hw')
        have z1 := hrl.length
        rw [Array.length_toList] at z1
        have y1 := small_lt hc
        refine wpAny_list_append_plain hpl (fun h' hpl' hs' => ?_) (by rw [sizeLine_eq]; lia)
        have x₃ : Ext (fun b => b = a) s₁ { s₁ with heap := h' } := Ext.sameBut (tk := s₁.toks) s₁ hs'
        have hX : ∀ b, b = a → MO Mb ow b := fun b q => .inr ⟨i, q ▸ hw⟩
        refine post_mk S F (S₁.setOwn (p := .list (l ++ [pv])) F hw x₃ (mk11 _ hpl' ?_) rfl) ((W2.xr q.ext).tr (W2.own hw hw x₃)) (fun b q => .inl q) q.same .nx
        rw [Array.toList_push]
        exact (hrl.ext x₃ hX).append (RlAll.one (q.rl.ext x₃ hX))
end
end Mine
end
section
open PySem PySem.W PyProof.Rows
set_option maxRecDepth 1000000
namespace Mine
noncomputable def nowsF : Nat → List (List Int)
  | 0 => [[]]
  | k + 1 => [] :: [0, 1, 3].flatMap fun a => (nowsF k).map fun n => a :: n
noncomputable def allDK : List DK := [-1,0,1,2].flatMap fun a => [-1,0,1,3].flatMap fun o => (nowsF 3).flatMap fun n => [0,1,3].map fun h => (a, o, n, h)
noncomputable def dist : Nat → List Int → Bool
  | 0, l => Nat.ble l.length 1
  | f + 1, l => Nat.ble l.length 1 || (dist f (l.filter fun y => Nat.testBit y.natAbs f) && dist f (l.filter fun y => !Nat.testBit y.natAbs f))
set_option maxHeartbeats 0
theorem hash_dist : dist 64 (allDK.map hashK₀) = true := by decide +kernel
end Mine
end
section
open PySem PySem.W PyProof.Rows
set_option Elab.async false
set_option maxRecDepth 100000
namespace Mine
theorem nodup1 {α : Type} {l : List α} (h : l.length ≤ 1) : l.Nodup := by
  cases l with
  | nil => exact List.nodup_nil
  | cons x r => cases r with
    | nil => exact List.nodup_cons.mpr ⟨fun h => (nomatch h), List.nodup_nil⟩
    | cons y r => exact absurd h (Nat.not_le_of_lt (Nat.succ_lt_succ (Nat.succ_pos _)))
theorem dist_spec (f : Nat) : ∀ (l : List Int), dist f l = true → l.Nodup := by
  induction f with
  | zero => exact fun l h => nodup1 (Nat.le_of_ble_eq_true h)
  | succ f ih =>
    intro l h
    replace h : (Nat.ble l.length 1 || (dist f (l.filter fun y => Nat.testBit y.natAbs f) && dist f (l.filter fun y => !Nat.testBit y.natAbs f))) = true := h
    rcases (Bool.or_eq_true _ _).mp h with h | h
    · exact nodup1 (Nat.le_of_ble_eq_true h)
    · refine (List.filter_append_perm (fun y : Int => Nat.testBit y.natAbs f) l).nodup_iff.mp (List.nodup_append.mpr ⟨ih _ (all2 h).1, ih _ (all2 h).2, fun a ha b hb e => ?_⟩)
      subst e
      have h1 := (List.mem_filter.mp ha).2
      have h2 := (List.mem_filter.mp hb).2
      rw [h1] at h2
      exact ff_ h2
theorem inj_nodup {α : Type} (f : α → Int) : ∀ {l : List α}, (l.map f).Nodup → ∀ {x y : α}, x ∈ l → y ∈ l → f x = f y → x = y
  | [], _, _, _, h, _, _ => by cases h
  | a :: l, hn, x, y, hx, hy, e => by
    rw [List.map_cons, List.nodup_cons] at hn
    rcases List.mem_cons.mp hx with ex | hx' <;> rcases List.mem_cons.mp hy with ey | hy'
    · rw [ex, ey]
    · exact absurd (List.mem_map.mpr (mk11 y hy' (by rw [← e, ex]))) hn.1
    · exact absurd (List.mem_map.mpr (mk11 x hx' (by rw [e, ey]))) hn.1
    · exact inj_nodup f hn.2 hx' hy' e
theorem now_mem : ∀ {k : Nat} {n : List Int}, n.length ≤ k → (n.all fun x => x == 0 || x == 1 || x == 3) = true → n ∈ nowsF k
  | 0, [], _, _ => .head _
  | 0, _ :: _, h, _ => nomatch h
  | _ + 1, [], _, _ => .head _
  | k + 1, a :: n, hl, h => by
    rw [List.all_cons, Bool.and_eq_true] at h
    refine .tail _ (List.mem_flatMap.mpr (mk11 a ?_ (List.mem_map.mpr (mk11 n (now_mem (Nat.le_of_succ_le_succ hl) h.2) rfl))))
    rcases (Bool.or_eq_true _ _).mp h.1 with h | h
    · rcases (Bool.or_eq_true _ _).mp h with h | h
      · exact eq_of_beq h ▸ .head _
      · exact eq_of_beq h ▸ .tail _ (.head _)
    · exact eq_of_beq h ▸ .tail _ (.tail _ (.head _))
theorem dom_mem {k : DK} (h : domK k = true) : k ∈ allDK := by
  obtain ⟨a, o, n, hd⟩ := k
  simp only [domK, Bool.and_eq_true, Bool.or_eq_true, beq_iff_eq, decide_eq_true_eq] at h
  (refine el01 h ?_; try clear h; intro zp0 h5; refine el01 zp0 ?_; clear zp0; intro zp1 h4; refine el01 zp1 ?_; clear zp1; intro zp2 h3; refine el01 zp2 ?_; clear zp2; intro h1 h2)
  have h4 := now_mem h3 h4
  refine List.mem_flatMap.mpr (mk11 a (by rcases h1 with ((rfl | rfl) | rfl) | rfl <;> decide) (List.mem_flatMap.mpr (mk11 o (by rcases h2 with ((rfl | rfl) | rfl) | rfl <;> decide) (List.mem_flatMap.mpr (mk11 n h4 (List.mem_map.mpr (mk11 hd (by rcases h5 with (rfl | rfl) | rfl <;> decide) rfl)))))))
theorem hashK_inj {k j : DK} (hk : domK k = true) (hj : domK j = true) (e : hashK k = hashK j) : k = j := by
  rw [hashK_eq, hashK_eq] at e
  exact inj_nodup hashK₀ (dist_spec _ _ hash_dist) (dom_mem hk) (dom_mem hj) e
theorem nodup_map_inj {α β : Type} {f : α → β} : ∀ {l : List α}, l.Nodup → (∀ x ∈ l, ∀ y ∈ l, f x = f y → x = y) → (l.map f).Nodup
  | [], _, _ => List.nodup_nil
  | a :: l, hn, h => by
    rw [List.nodup_cons] at hn
    rw [List.map_cons, List.nodup_cons]
    refine ⟨fun hm => ?_, nodup_map_inj hn.2 fun x hx y hy => h x (.tail _ hx) y (.tail _ hy)⟩
    (refine el11 (List.mem_map.mp hm) ?_; intro b hb e)
    have := h b (.tail _ hb) a (.head _) e
    exact hn.1 (this ▸ hb)
section
variable {prog : Program} {w : World} {A : Around} {E : Value → Shared → Prop} {s : Shared} {K : Type} [DecidableEq K] {knd : HeapKind prog w K}
theorem dictSetHashed_heap {d a : Addr} {xs : List (K × Addr × Value)} {k : K} {v : Value} {Q : Unit → Shared → Prop} (hu : knd.room A) (hkey : knd.is s.heap k a) (hm : s.heap.DictOfH knd d xs)
    (hQ : ∀ h', h'.DictOfH knd d (storedH xs k a v) → Heap.SameBut d s.heap h' → Q () { s with heap := h' }) (hsz : xs.length ≤ sizeLine) :
    wpAny (model prog w) A (dictSetHashed d (.ref a) (knd.hash k) v) Q E s := by
  (refine el34 hm ?_; try clear hm; intro o es ep ho hc hd he zr0; refine el01 zr0 ?_; clear zr0; intro his hn)
  unfold dictSetHashed
  try with_reducible refine wpAny_holding ?_
  refine wpAny_bind (wpAny_dictFind_heap hu hkey ho hd he his hn ?_ ?_)
  · intro hno
    have hnot : k ∉ xs.map (·.1) := not_mem_keys_of_get hno
    refine wpAny_bind (wpAny_rule (wpAny_updateDictKeys (hz := by have e := size_of_entries he; lia) ho hd (hQ _ (mk34 _ _ (ep + 1) (Heap.get?_update_self _ ho (Obj.isFreed_of_dict (Obj.data_mapDictKeys hd _))) (hc.mapDictKeys _) (Obj.data_mapDictKeys hd _) ?_ (mk01 ?_ ?_)) (Heap.SameBut.update ..))))
    · rw [storedH_new (atKey_none_of_get hno)]
      simp [he, entryOfKey]
    · rw [storedH_new (atKey_none_of_get hno)]
      intro x hx
      rcases List.mem_append.mp hx with hx | hx
      · exact knd.keeps (his x hx) ho hd (Heap.SameBut.update ..)
      · simp only [List.mem_singleton] at hx
        subst hx
        exact knd.keeps hkey ho hd (Heap.SameBut.update ..)
    · rw [storedH_new (atKey_none_of_get hno)]
      rw [List.map_append, List.nodup_append]
      refine ⟨hn, by simp, ?_⟩
      intro x hx y hy
      simp only [List.map_cons, List.map_nil, List.mem_singleton] at hy
      subst hy
      exact fun e => hnot (e ▸ hx)
  · intro j p hj
    refine wpAny_bind (wpAny_rule (wpAny_bind (wpAny_updateDict ho hd (wpAny_point (hQ _ (mk34 _ _ ep (Heap.get?_update_self _ ho (Obj.isFreed_of_dict (Obj.data_mapDict hd _))) (hc.mapDict _) (Obj.data_mapDict hd _) ?_ (mk01 ?_ ?_)) (Heap.SameBut.update ..))))))
    · rw [storedH_old (atKey_of_get hn hj)]
      have := modify_map_putAt (entryOfKey knd) (fun e : DictEntry => { e with val := v }) k v (fun _ _ => rfl) hn hj
      rw [← he] at this
      obtain ⟨l⟩ := es
      simpa using this
    · rw [storedH_old (atKey_of_get hn hj)]
      intro x hx
      (refine el11 (List.mem_map.mp hx) ?_; intro y hy zq0; subst zq0)
      unfold putAt
      split <;> exact knd.keeps (his y hy) ho hd (Heap.SameBut.update ..)
    · rw [storedH_old (atKey_of_get hn hj)]
      rw [keys_map_putAt]; exact hn
noncomputable def mergedH (xs ys : List (K × Addr × Value)) : List (K × Addr × Value) := ys.foldl (fun acc y => storedH acc y.1 y.2.1 y.2.2) xs
theorem storedH_len (xs : List (K × Addr × Value)) (k : K) (a : Addr) (v : Value) : (storedH xs k a v).length ≤ xs.length + 1 := by
  unfold storedH
  split <;> simp
theorem mergedH_nil (ys : List (K × Addr × Value)) (hn : (ys.map (·.1)).Nodup) : mergedH [] ys = ys := by
  have : ∀ (ys xs : List (K × Addr × Value)), ((xs ++ ys).map (·.1)).Nodup → mergedH xs ys = xs ++ ys := by
    intro ys
    induction ys with
    | nil => intro xs _; simp [mergedH]
    | cons y ys ih =>
      intro xs hn
      have hno : atKey xs y.1 = none := by
        refine atKey_none_of_get fun j p hj => ?_
        have hm : y.1 ∈ xs.map (·.1) := List.mem_map.mpr (mk11 (y.1, p) (List.mem_of_getElem? hj) rfl)
        rw [List.map_append, List.nodup_append] at hn
        exact hn.2.2 _ hm _ (by simp) rfl
      show mergedH (storedH xs y.1 y.2.1 y.2.2) ys = _
      rw [storedH_new hno, ih _ (by simpa using hn)]
      simp
  simpa using this ys [] (by simpa using hn)
theorem empty_heap {id : String} {o : Addr} {oo : Obj} {es : Array DictEntry} {ep : Nat} {Q : Array DictEntry → Shared → Prop} (ho : s.heap.get? o = some oo) (hd : oo.data = .dict es ep) (hk : ∀ e ∈ es, ∃ a ob, e.key = .ref a ∧ s.heap.get? a = some ob ∧ ob.cls = .type "tuple")
    (hh : (es.toList.map (·.hash)).Nodup) (h : Q es s) : wpAny (model prog w) A (Builtin.Dict.entriesForEmpty id o) Q E s := by
  unfold Builtin.Dict.entriesForEmpty
  refine wpAny_bind (wpAny_dictEntries ho hd ?_)
  refine wpAny_bind ?_
  rw [← Array.forIn_toList]
  refine wpAny_forIn_list _ (fun rest _ s' => s' = s ∧ ∀ e ∈ rest, e ∈ es) _ ?_ ?_ _ _ ⟨rfl, fun e he => Array.mem_toList_iff.mp he⟩
  · rintro e rest r s' ⟨rfl, hall⟩
    have hem := hall e (.head _)
    (refine el22 (hk e hem) ?_; intro a ob hka hob hcls)
    have hT : s'.TypeIs (.ref a) "tuple" := (mk11 ob hob hcls)
    rw [hka]
    refine wpAny_bind ?_
    unfold Builtin.Dict.quietEq
    refine wpAny_bind (wpAny_specialOf hT F.slot_tuple_eq.lookup (wpAny_pure ?_))
    have hq : (some (Value.builtin "tuple.__eq__") == some (Value.builtin "object.__eq__")) = false := by decide +kernel
    rw [hq]
    simp -iota only [Bool.not_false, if_true]
    have hsz : ¬ (es.filter (·.hash == e.hash)).size > 1 := by
      have key : ∀ (l : List DictEntry), (l.map (·.hash)).Nodup → ∀ x : Int, (l.filter (·.hash == x)).length ≤ 1 := by
        intro l
        induction l with
        | nil => intro _ _; simp
        | cons y l ih =>
          intro hn x
          rw [List.map_cons, List.nodup_cons] at hn
          rw [List.filter_cons]
          by_cases hyx : y.hash = x
          · have : l.filter (·.hash == x) = [] := by
              rw [List.filter_eq_nil_iff]
              intro z hz hzx
              exact hn.1 (List.mem_map.mpr (mk11 z hz (by simp at hzx; rw [hzx, hyx])))
            simp [hyx, this]
          · have := ih hn.2 x
            simpa [hyx] using this
      have := key es.toList hh e.hash
      have e2 : (es.filter (·.hash == e.hash)).size = (es.toList.filter (·.hash == e.hash)).length := by simp [← Array.length_toList]
      lia
    rw [if_neg hsz]
    exact wpAny_pure ⟨rfl, fun e' he' => hall e' (.tail _ he')⟩
  · rintro _ s' ⟨rfl, _⟩
    exact wpAny_pure h
end
end Mine
end
section
open PySem PySem.W PyProof.Rows
set_option Elab.async false
set_option maxRecDepth 100000
namespace Mine
section
variable {prog : Program} {w : World} {A : Around} {E : Value → Shared → Prop} {s : Shared}
theorem wp_ite {α : Type} {c : Prop} {_ : Decidable c} {x y : Sem α} {Q : α → Shared → Prop} (h1 : c → wpAny (model prog w) A x Q E s) (h2 : ¬ c → wpAny (model prog w) A y Q E s) : wpAny (model prog w) A (if c then x else y) Q E s := by
  by_cases h : c
  · rw [if_pos h]; exact h1 h
  · rw [if_neg h]; exact h2 h
section
variable {d o : Addr} {od oo : Obj} {esd eso : Array DictEntry} {epd epo : Nat}
noncomputable def mgStep (nm : String) (d o : Addr) (ep : Nat) (i : Nat) : Sem (ForInStep PUnit) := do
  let l' ← dictEntries o
  match l'[i]? with
    | some e => do
      holding [e.key, e.val] (dictSetHashed d e.key e.hash e.val)
      let ep' ← dictEpoch o
      if (ep' != ep) = true then do
          (unsupported (toString nm ++ toString ":source-changed-during-callback") : Sem PUnit)
          pure (ForInStep.yield PUnit.unit)
        else pure (ForInStep.yield PUnit.unit)
    | _ => do
      (unsupported "internal:dict-merge" : Sem PUnit)
      pure (ForInStep.yield PUnit.unit)
theorem mgStep_ok {nm : String} {h' : Heap} {z : DK × Addr × Value} {X : List (DK × Addr × Value)} {i : Nat} (hu : A.units + 8 < cLine) (hdo : d ≠ o) (hoo : h'.get? o = some oo) (hdo' : oo.data = .dict eso epo) (he : eso[i]? = some (entryOfKey (dkKind prog w) z))
    (hkey : (dkKind prog w).is h' z.1 z.2.1) (hd : h'.DictOfH (dkKind prog w) d X) (hX : X.length ≤ sizeLine) {Q : ForInStep PUnit → Shared → Prop}
    (hQ : ∀ h'', h''.DictOfH (dkKind prog w) d (storedH X z.1 z.2.1 z.2.2) → Heap.SameBut d h' h'' → Q (.yield ()) { s with heap := h'' }) : wpAny (model prog w) A (mgStep nm d o epo i) Q E { s with heap := h' } := by
  refine wpAny_bind (wpAny_dictEntries (s := { s with heap := h' }) hoo hdo' ?_)
  rw [he]
  refine wpAny_bind (wpAny_holding (dictSetHashed_heap (knd := dkKind prog w) (s := { s with heap := h' }) hu hkey hd (fun h'' hd'' hs'' => ?_) hX))
  refine wpAny_bind (wpAny_dictEpoch (s := { s with heap := h'' }) ((hs''.2 o (Ne.symm hdo)).trans hoo) hdo' ?_)
  exact wp_ite (fun c => absurd c (by rw [bne_self_eq_false]; exact Bool.false_ne_true)) fun _ => wpAny_pure (hQ h'' hd'' hs'')
theorem mgLoop {nm : String} (hu : A.units + 8 < cLine) (hdo : d ≠ o) (hod : s.heap.get? d = some od) (hdd : od.data = .dict esd epd) (hoo : s.heap.get? o = some oo) (hdo' : oo.data = .dict eso epo) {Q : PUnit → Shared → Prop} :
    ∀ (zs : List (DK × Addr × Value)) (i : Nat) {X : List (DK × Addr × Value)} {h' : Heap}, (∀ j, eso[i + j]? = (zs[j]?).map (entryOfKey (dkKind prog w))) → (∀ z ∈ zs, (dkKind prog w).is s.heap z.1 z.2.1) → h'.DictOfH (dkKind prog w) d X → Heap.SameBut d s.heap h' →
    X.length + zs.length ≤ 200000 → (∀ h'', h''.DictOfH (dkKind prog w) d (mergedH X zs) → Heap.SameBut d s.heap h'' → Q () { s with heap := h'' }) →
    wpAny (model prog w) A (forIn (List.range' i zs.length) PUnit.unit fun i _ => mgStep nm d o epo i) Q E { s with heap := h' }
  | [], i, X, h', _, _, hd, hs, _, hQ => wpAny_pure (hQ h' hd hs)
  | z :: zs, i, X, h', he, hz, hd, hs, hn, hQ => by
    rw [List.length_cons, List.range'_succ, List.forIn_cons]
    refine wpAny_bind (mgStep_ok hu hdo ((hs.2 o (Ne.symm hdo)).trans hoo) hdo' (he 0) ((dkKind prog w).keeps (hz z (.head _)) hod hdd hs) hd ?_ fun h'' hd'' hs'' => ?_)
    · rw [sizeLine_eq]; exact Nat.le_trans (Nat.le_add_right _ _) (Nat.le_trans hn (by decide))
    · refine mgLoop hu hdo hod hdd hoo hdo' zs (i + 1) (fun j => (congrArg (fun k => eso[k]?) (Nat.succ_add_eq_add_succ i j)).trans (he (j + 1))) (fun z h => hz z (.tail _ h)) hd'' (hs.trans hs'') (Nat.le_trans (Nat.add_le_add_right (storedH_len ..) _) ?_) hQ
      rw [Nat.add_assoc, Nat.add_comm 1]; exact hn
end
theorem mergeDict_heap {nm : String} {d o : Addr} {xs ys : List (DK × Addr × Value)} {Q : Unit → Shared → Prop} (hu : A.units + 8 < cLine) (hdo : d ≠ o) (hoS : (o == sysModules) = false)
    (hd : s.heap.DictOfH (dkKind prog w) d xs) (ho : s.heap.DictOfH (dkKind prog w) o ys) (hdom : ∀ y ∈ ys, domK y.1 = true)
    (hQ : ∀ h', h'.DictOfH (dkKind prog w) d (mergedH xs ys) → Heap.SameBut d s.heap h' → Q () { s with heap := h' })
    (hsz : xs.length + ys.length ≤ 200000) : wpAny (model prog w) A (Builtin.Dict.mergeDict nm d o) Q E s := by
  (refine el34 (id hd) ?_; intro od esd epd hod hcd hdd hed zr0; refine el01 zr0 ?_; clear zr0; intro hisd hnd)
  (refine el34 (id ho) ?_; intro oo eso epo hoo hco hdo' heo zr0; refine el01 zr0 ?_; clear zr0; intro hiso hno)
  have hlen : ys.length = eso.size := (size_of_entries heo).symm
  unfold Builtin.Dict.mergeDict
  rw [if_neg (by simpa using hdo)]
  unfold Builtin.Dict.showsAll
  rw [if_neg (by rw [hoS]; exact Bool.false_ne_true)]
  refine wpAny_bind (wpAny_pure ?_)
  refine wpAny_bind (wpAny_dictEntries hoo hdo' ?_)
  have loop : wpAny (model prog w) A (do
      let epoch ← dictEpoch o
      let l ← dictEntries o
      forIn [:l.size] PUnit.unit fun i (_ : PUnit) => mgStep nm d o epoch i
      pure ()) Q E s := by
    refine wpAny_bind (wpAny_dictEpoch hoo hdo' (wpAny_bind (wpAny_dictEntries hoo hdo' (wpAny_bind ?_))))
    rw [Std.Legacy.Range.forIn_eq_forIn_range', show ([:eso.size] : Std.Legacy.Range).size = ys.length from by rw [hlen]; exact Nat.div_one _]
    exact mgLoop hu hdo hod hdd hoo hdo' ys 0 (fun j => (congrArg (fun k => eso[k]?) (Nat.zero_add j)).trans (entry_at heo j)) hiso hd (Heap.SameBut.refl _ _) hsz fun h' hd' hs' => wpAny_pure (hQ h' hd' hs')
  dsimp only
  split
  · refine wpAny_bind (wpAny_dictEntries hod hdd ?_)
    split
    · rename_i hemp
      have hxs : xs = [] := by
        have h0 : esd = #[] := Array.isEmpty_iff.mp hemp
        have := size_of_entries hed
        rw [h0] at this
        exact List.length_eq_zero_iff.mp (by simpa using this.symm)
      subst hxs
      have hkeys : ∀ e ∈ eso, ∃ a ob, e.key = .ref a ∧ s.heap.get? a = some ob ∧ ob.cls = .type "tuple" := fun e he => by
        have : e ∈ ys.map (entryOfKey (dkKind prog w)) := heo ▸ Array.mem_toList_iff.mpr he
        (refine el11 (List.mem_map.mp this) ?_; intro y hy zq0; subst zq0)
        (refine el40 (hiso y hy) ?_; intro ob items ep' b' zr0; refine el32 zr0 ?_; clear zr0; intro ta to th h1 h2 _)
        exact (mk22 y.2.1 ob rfl h1 h2)
      have hhash : (eso.toList.map (·.hash)).Nodup := by
        rw [heo, List.map_map]
        have : (fun x => x.hash) ∘ entryOfKey (dkKind prog w) = fun y : DK × Addr × Value => hashK y.1 := rfl
        rw [this]
        have e : ys.map (fun y : DK × Addr × Value => hashK y.1) = (ys.map (·.1)).map hashK := by rw [List.map_map]; rfl
        rw [e]
        refine nodup_map_inj hno fun k hk j hj e => ?_
        (refine el11 (List.mem_map.mp hk) ?_; intro y hy zq0; subst zq0)
        (refine el11 (List.mem_map.mp hj) ?_; intro z hz zq0; subst zq0)
        exact hashK_inj (hdom y hy) (hdom z hz) e
      refine wpAny_bind (empty_heap hoo hdo' hkeys hhash ?_)
      rw [mergedH_nil ys hno] at hQ
      split
      · have hto : eso.size ≤ sizeLine + 1 := by
          rw [← hlen, sizeLine_eq]
          simp only [List.length_nil, Nat.zero_add] at hsz
          lia
        refine wpAny_bind (wpAny_updateDictKeysTo hod hdd (wpAny_pure (hQ _ (mk34 _ _ (epd + 1) (Heap.get?_update_self _ hod (Obj.isFreed_of_dict (Obj.data_mapDictKeys hdd _))) (hcd.mapDictKeys _) (Obj.data_mapDictKeys hdd _) heo (mk01 (fun y hy => (dkKind prog w).keeps (hiso y hy) hod hdd (Heap.SameBut.update ..)) hno)) (Heap.SameBut.update ..))) hto)
      · rename_i hne
        have h0 : eso = #[] := Array.isEmpty_iff.mp (by simpa using hne)
        have hm0 : ys = [] := List.length_eq_zero_iff.mp (by rw [hlen, h0]; rfl)
        subst hm0
        exact wpAny_pure (hQ _ hd (Heap.SameBut.refl _ _))
    · exact loop
  · exact loop
theorem update_heap {d o : Addr} {xs ys : List (DK × Addr × Value)} {Q : Value → Shared → Prop} (hu : A.units + 1 + 8 < cLine) (hdo : d ≠ o) (hoS : (o == sysModules) = false)
    (hd : s.heap.DictOfH (dkKind prog w) d xs) (ho : s.heap.DictOfH (dkKind prog w) o ys) (hdom : ∀ y ∈ ys, domK y.1 = true)
    (hQ : ∀ h', h'.DictOfH (dkKind prog w) d (mergedH xs ys) → Heap.SameBut d s.heap h' → Q .none { s with heap := h' })
    (hsz : xs.length + ys.length ≤ 200000) : wpAny (model prog w) A (call (.builtin "dict.update") [.ref d, .ref o]) Q E s := by
  refine call_meetsIn PySem.F.slot_dict_update hd.typeIs PySem.F.entry_dict_update (PySem.F.args_dict_update_2 _ _) (S := fun A R s => A.units + 1 + 8 < cLine ∧ s.heap.DictOfH (dkKind prog w) d xs ∧ s.heap.DictOfH (dkKind prog w) o ys ∧
      ∀ h', h'.DictOfH (dkKind prog w) d (mergedH xs ys) → Heap.SameBut d s.heap h' → R (.ok (.ret .none)) { s with heap := h' }) ?_ (mk03 hu hd ho (fun h' a b => hQ h' a b))
  refine .of_wp fun A R s ⟨hu, hd, ho, h⟩ => ?_
  unfold Builtin.«dict.update»
  refine wpAny_bind ?_
  unfold Builtin.Dict.selfAndRest
  refine wpAny_bind (wpAny_notOrdered_dict hd.typeIs ?_)
  show wpAny _ _ (pure (d, [Value.ref o])) _ _ s
  refine wpAny_pure ?_
  show wpAny _ _ (Builtin.Dict.updateFrom "dict.update" d (.ref o) [] .none) _ _ s
  unfold Builtin.Dict.updateFrom
  refine wpAny_bind (wpAny_typeOf ho.typeIs ?_)
  rw [if_neg (by decide)]
  refine wpAny_bind ?_
  unfold Builtin.Dict.merge
  refine wpAny_bind ?_
  unfold Builtin.Dict.readDirectly
  refine wpAny_bind (wpAny_isInstance ho.typeIs isSubtype_dict_dict ?_)
  simp only [Bool.not_true, Bool.false_eq_true, if_false]
  refine wpAny_bind (wpAny_specialOf ho.typeIs F.slot_dict_iter.lookup (wpAny_pure ?_))
  simp only [beq_self_eq_true, if_true]
  refine wpAny_bind (wpAny_pure ?_)
  refine mergeDict_heap hu hdo hoS hd ho hdom (fun h' hd' hs' => ?_) hsz
  show wpAny _ _ (Builtin.Dict.addKeywords d [] >>= _) _ _ _
  exact wpAny_bind (wpAny_pure (wpAny_pure (mk11 .none rfl (h h' hd' hs'))))
end
end Mine
end
section
open PySem PySem.W PyProof.Rows
set_option Elab.async false
set_option maxRecDepth 100000
namespace Mine
noncomputable def ExOK (g : G) (n : Nat) (L : Lv) : Prop := ∀ {st : S} {t : Stmt} {sc : Sc} {nms : List Str} {nv0 : Nat}, CorS nms g.fname nv0 sc st t → ∀ {σ σ' : St} {fl : Fl}, L.ex st σ = some (fl, σ') →
  ∀ {env : Env} {A : Around} {Mb : Addr → Prop} {ow : Nat → Option Addr} {s : Shared}, ScOK sc env → FS Mb env nms nv0 → SO g n A Mb env nms nv0 ow σ s → wpAny (model g.prog g.w) A (exec t env) (PostS g n A Mb env nms nv0 ow σ.reg s fl σ') NoE s
noncomputable def ExsOK (g : G) (n : Nat) (L : Lv) : Prop := ∀ {ss : List S} {ts : List Stmt} {sc : Sc} {nms : List Str} {nv0 : Nat}, CorSs nms g.fname nv0 sc ss ts → ∀ {σ σ' : St} {fl : Fl}, execs L.ex ss σ = some (fl, σ') →
  ∀ {env : Env} {A : Around} {Mb : Addr → Prop} {ow : Nat → Option Addr} {s : Shared}, ScOK sc env → FS Mb env nms nv0 → SO g n A Mb env nms nv0 ow σ s → wpAny (model g.prog g.w) A (PySem.execs ts env) (PostS g n A Mb env nms nv0 ow σ.reg s fl σ') NoE s
noncomputable def FzOK (L : Lv) : Prop := ∀ {i : Nat} {σ σ' : St} {fl : Fl}, L.ex (.freeze i) σ = some (fl, σ') → fl = .nx ∧ ∃ p, lkS σ.loc i = .ow p ∧ σ' = ⟨σ.loc.set i (.fz p), σ.reg⟩
section
variable {g : G} {n : Nat} {L : Lv} {A : Around} {M M' Mb Mb' : Addr → Prop} {P P' P₁ P₂ : Reg} {s s' s₁ : Shared} {env : Env} {nms : List Str} {sc csc : Sc} {ρ ρ' ρ₁ ρ₂ : Vw} {srt : List PV → Option (List PV)} {nv0 : Nat} {ow : Nat → Option Addr} {σ : St}
theorem DX.merge {ys : List (DK × Addr × Value)} {m : List (DK × Int)} (y : DX ys m) : ∀ {xs : List (DK × Addr × Value)} {d : List (DK × Int)}, DX xs d → DX (mergedH xs ys) (dputAll d m) := by
  induction y with
  | nil => exact fun x => x
  | @cons k b j t xs d r ih => exact fun x => ih (x.stored k b j t)
theorem mem_storedH {K : Type} [DecidableEq K] {xs : List (K × Addr × Value)} {k : K} {a : Addr} {v : Value} {y : K × Addr × Value} (h : y ∈ storedH xs k a v) : (∃ z ∈ xs, y.1 = z.1 ∧ y.2.1 = z.2.1) ∨ (y.1 = k ∧ y.2.1 = a) := by
  unfold storedH at h
  split at h
  · (refine el11 (List.mem_map.mp h) ?_; intro z hz zq0; subst zq0)
    refine .inl (mk11 z hz ?_)
    unfold putAt
    split <;> exact ⟨rfl, rfl⟩
  · rcases List.mem_append.mp h with h | h
    · exact .inl (mk12 y h rfl rfl)
    · rw [List.mem_singleton.mp h]; exact .inr ⟨rfl, rfl⟩
theorem mem_mergedH {K : Type} [DecidableEq K] : ∀ {ys xs : List (K × Addr × Value)} {y : K × Addr × Value}, y ∈ mergedH xs ys → (∃ z ∈ xs, y.1 = z.1 ∧ y.2.1 = z.2.1) ∨ ∃ z ∈ ys, y.1 = z.1 ∧ y.2.1 = z.2.1
  | [], xs, y, h => .inl (mk12 y h rfl rfl)
  | x :: ys, xs, y, h => by
    have h : y ∈ mergedH (storedH xs x.1 x.2.1 x.2.2) ys := h
    rcases mem_mergedH h with ⟨z, hz, e1, e2⟩ | ⟨z, hz, e⟩
    · rcases mem_storedH hz with ⟨u, hu, f1, f2⟩ | ⟨f1, f2⟩
      · exact .inl (mk12 u hu (e1.trans f1) (e2.trans f2))
      · exact .inr (mk12 x (.head _) (e1.trans f1) (e2.trans f2))
    · exact .inr (mk11 z (.tail _ hz) e)
theorem st_upd (S : SO g n A Mb env nms nv0 ow σ s) (F : FS Mb env nms nv0) (ok : g.OK) (hL : EvOK g n L) (sk : ScOK sc env) {i : Nat} {e : X} {x : Str} {v : PySem.Expr} {p p' p1 p2 : Pos} {fl : Fl} {σ' : St} (hv : varAt nms nv0 sc i x = true) (hline : (p1.endLine == p2.line) = true) (ce : CorE nms g.fname sc e v)
    (h : stepEx L (.upd i e) σ = some (fl, σ')) : wpAny (model g.prog g.w) A (exec (.Expr (.Call (.Attribute (.Name x p') "update" p1) [v] [] p2) p) env) (PostS g n A Mb env nms nv0 ow σ.reg s fl σ') NoE s := by
  delta stepEx at h
  (refine el03 (varAt_spec hv sk) ?_; intro hi hx hk hn)
  refine ow_dict h fun d hsl h => ifS_el h fun pm P e1 h => ?_
  revert e1
  refine PV.onD_el h (fun h => ns_ h) fun m h e1 => if_el h fun hc h => sp_el h ?_
  · · · (refine el13 (S.owned hi hx hsl) ?_; intro a hw hva _ zr1; refine el11 zr1 ?_; clear zr1; intro xs₀ zp0 _; refine el32 zp0 ?_; clear zp0; intro od es ep hod hcd _)
        refine wpAny_Expr_any ?_ (not_interactive F) rfl
        have hs : CorEs nms g.fname sc [e] [v] := .cons ce .nil
        refine meth_call hline (by simp) (plain_all hs) (name_at F hva hk hn ?_)
        refine getMethod_bi rfl hod hcd.1 hcd.2.1 PySem.F.plainAttrs_dict PySem.F.slot_dict_update PySem.F.type_dict_update ?_
        rw [star_cons ce]
        show wpAny _ _ (callWith p2 (.builtin "dict.update") [.ref a] [(false, eval v env)] []) _ _ _
        refine Calls.callWith_builtin rfl (Calls.evalArgs_plain (Calls.spliced_cons (S.evF F ok hL ce sk e1 fun u s₁ q S₁ => Calls.spliced_nil ?_)))
        have hrl := q.rl
        (refine el10 (hrl.dict_el fun b _ _ => ⟨b, rfl⟩ : ∃ b, u = .ref b) ?_; intro b zq0; subst zq0)
        have hnb := hrl.notM rfl
        (refine el12 (hrl.dictAt (prog := g.prog) (w := g.w)) ?_; intro ys hDb hXb hRb)
        have hsys : (b == sysModules) = false := el40 hrl.inv fun a _ _ _ z => el02 z fun e _ z => by cases e; exact z.1
        (refine el13 (S₁.owned hi hx hsl) ?_; intro a' hw' _ _ zr0; refine el12 zr0 ?_; clear zr0; intro xs hDa hXa hRa)
        obtain rfl : a = a' := Option.some.inj (hw.symm.trans hw')
        have hab : a ≠ b := fun e => hnb (.inr ⟨i, e ▸ hw⟩)
        have hroom := S.pr.a.room
        have hdom : ∀ y ∈ ys, domK y.1 = true := fun y hy => by
          have : y.1 ∈ m.map (·.1) := by rw [← hXb.keys]; exact List.mem_map.mpr (mk11 y hy rfl)
          (refine el11 (List.mem_map.mp this) ?_; intro z hz e)
          rw [← e]; exact List.all_eq_true.mp hc.2.2 z hz
        refine update_heap (by lia) hab hsys hDa hDb hdom (fun h' hD' hs' => ?_) (by rw [hXa.length, hXb.length]; lia)
        have x₃ : Ext (fun b => b = a) s₁ { s₁ with heap := h' } := Ext.sameBut (tk := s₁.toks) s₁ hs'
        have hX : ∀ b, b = a → MO Mb ow b := fun b q => .inr ⟨i, q ▸ hw⟩
        refine post_mk S F (S₁.setOwn (p := .dict (dputAll d m)) F hw x₃ (mk12 _ hD' (hXb.merge hXa) (fun y hy => ?_)) rfl) ((W2.xr q.ext).tr (W2.own hw hw x₃)) (fun b q => .inl q) q.same .nx
        rcases mem_mergedH hy with ⟨z, hz, e1, e2⟩ | ⟨z, hz, e1, e2⟩
        · rw [e1, e2]; exact (hRa z hz).ext x₃ hX
        · rw [e1, e2]; exact (hRb z hz).ext x₃ hX
end
end Mine
end
section
open PySem PySem.W PyProof.Rows
set_option Elab.async false
set_option maxRecDepth 100000
namespace Mine
structure Stp (g : G) (env : Env) (X : Addr → Prop) (ow : Nat → Option Addr) (P : Reg) (s : Shared) (ow₁ : Nat → Option Addr) (P₁ : Reg) (s₁ : Shared) : Prop where
  ext : Ext (fun b => Wr g env ow P b ∨ X b) s s₁
  sub : ∀ b, (∃ i, ow₁ i = some b) → (∃ i, ow i = some b) ∨ s.heap.get? b = none
  same : P₁.isSome = P.isSome
  alive : ∀ b, ¬ X b → s₁.heap.get? b = none → s.heap.get? b = none
section
variable {g : G} {n : Nat} {L : Lv} {A : Around} {M M' Mb Mb' : Addr → Prop} {P P' P₁ P₂ : Reg} {s s' s₁ s₂ : Shared} {env : Env} {nms : List Str} {sc csc : Sc} {ρ ρ' ρ₁ ρ₂ : Vw} {srt : List PV → Option (List PV)} {nv0 : Nat} {ow ow₁ ow₂ : Nat → Option Addr} {σ σ' : St} {X : Addr → Prop} {I : Addr} {fl : Fl} {f : Flow}
theorem Stp.trans (x : Stp g env X ow P s ow₁ P₁ s₁) (y : Stp g env X ow₁ P₁ s₁ ow₂ P₂ s₂) (hX : ∀ b, X b → ¬ ∃ i, ow₂ i = some b) : Stp g env X ow P s ow₂ P₂ s₂ := by
  refine ⟨x.ext.step y.ext (fun _ q => q) fun b q => ?_, fun b q => ?_, y.same.trans x.same, fun b hb q => x.alive b hb (y.alive b hb q)⟩
  · rcases q with (q | q | q) | q
    · exact .inl (.inl (.inl ((XR_congr x.same).mp q)))
    · exact .inl (.inl (.inr (.inl q)))
    · exact (x.sub b q).imp (fun q => .inl (.inr (.inr q))) id
    · exact .inl (.inr q)
  · rcases y.sub b q with h | h
    · exact x.sub b h
    · exact .inr (x.alive b (fun hb => hX b hb q) h)
theorem alive_of (S' : SO g n A Mb' env nms nv0 ow₁ σ' s') (e : Ext (fun b => Wr g env ow P b ∨ X b) s s') (hs : σ'.reg.isSome = P.isSome) (ha : ∀ b, (∃ i, ow i = some b) → ∃ o, s'.heap.get? b = some o) (b : Addr) (hb : ¬ X b) (q : s'.heap.get? b = none) : s.heap.get? b = none := by
  cases e' : s.heap.get? b with
  | none => rfl
  | some o =>
    exfalso
    by_cases hw : Wr g env ow P b ∨ X b
    · have hex : ∃ o, s'.heap.get? b = some o := by
        rcases hw with (q | (rfl | ⟨x, hx⟩) | q) | q
        · (refine el11 (S'.pr.reg.is (hs ▸ q.1)) ?_; intro o ho _)
          exact ⟨o, q.2 ▸ ho⟩
        · (refine el41 (S'.ns) ?_; intro m o _ _ ho _)
          exact ⟨o, ho⟩
        · (refine el21 (S'.cellAt x b hx) ?_; intro v o ho _)
          exact ⟨o, ho⟩
        · exact ha b q
        · exact absurd q hb
      (refine el10 hex ?_; try clear hex; intro o' ho')
      rw [q] at ho'; cases ho'
    · rw [e.keep b o hw e'] at q; cases q
theorem SO.oAlive (S : SO g n A Mb env nms nv0 ow σ s) (F : FS Mb env nms nv0) : ∀ b, (∃ i, ow i = some b) → ∃ o, s.heap.get? b = some o := fun b h => by
  (refine el10 h ?_; try clear h; intro i hi)
  (refine el24 (S.slot hi F) ?_; intro _ _ _ _ _ _ zr0; refine el01 zr0 ?_; clear zr0; intro _ ho)
  (refine el11 (ho.obj) ?_; intro ob hob _)
  exact ⟨ob, hob⟩
theorem PostS.stp (q : PostS g n A Mb env nms nv0 ow P s fl σ' f s') : ∃ ow', SO g n A Mb env nms nv0 ow' σ' s' ∧ Stp g env X ow P s ow' σ'.reg s' ∧ FlOK g Mb s' fl f := by
  (refine el14 q ?_; try clear q; intro ow' S' x hw hs zr0; refine el01 zr0 ?_; clear zr0; intro ha hf)
  exact (mk12 ow' S' ⟨x.wk fun _ q => .inl q, hw, hs, fun b hb q => alive_of (X := X) S' (x.wk fun _ q => .inl q) hs ha b hb q⟩ hf)
theorem Stp.post (S : SO g n A Mb env nms nv0 ow σ s) (S' : SO g n A Mb env nms nv0 ow₁ σ' s') (F : FS Mb env nms nv0) (x : Stp g env X ow σ.reg s ow₁ σ'.reg s') (hX : ∀ b, X b → s.heap.get? b = none) (hf : FlOK g Mb s' fl f) : PostS g n A Mb env nms nv0 ow σ.reg s fl σ' f s' := by
  refine (mk14 ow₁ S' ?_ x.sub x.same (mk01 (fun b hb => ?_) hf))
  · exact (Ext.refl (Wr g env ow σ.reg) s).step x.ext (fun _ q => q) fun b q => q.imp id (hX b)
  · (refine el10 hb ?_; try clear hb; intro i hi)
    (refine el24 (S.slot hi F) ?_; intro _ _ _ _ _ _ zr0; refine el01 zr0 ?_; clear zr0; intro _ ho)
    (refine el11 (ho.obj) ?_; intro ob hob _)
    cases e : s'.heap.get? b with
    | some o => exact ⟨o, rfl⟩
    | none =>
      exfalso
      by_cases hb : X b
      · rw [hX b hb] at hob; cases hob
      · rw [x.alive b hb e] at hob; cases hob
theorem SO.baseMv (S : SO g n A Mb env nms nv0 ow σ s) (e : Ext X s s') (hX : ∀ a, X a → Mb a) (hL : ¬ X env.locals) (hC : ∀ x c, env.cells.lookup x = some c → ¬ X c) (hap : σ.reg.isSome = true → ¬ X g.ap) (he : ∀ a, X a → ∃ o, s'.heap.get? a = some o) : SO g n A Mb env nms nv0 ow σ s' := by
  have hXM : ∀ a, X a → MO Mb ow a := fun a q => .inl (hX a q)
  refine ⟨S.pr.upd e hXM he hap, S.map, ?_, fun x c hc => ?_, fun i x h1 h2 => ?_, S.hi, S.len, S.oMb, S.oInj⟩
  · (refine el41 (S.ns) ?_; intro m o es ep ho h1)
    exact (mk41 m o es ep (e.keep _ _ hL ho) h1)
  · (refine el21 (S.cellAt x c hc) ?_; intro v o ho h1)
    exact (mk21 v o (e.keep _ _ (hC x c hc) ho) h1)
  · exact (S.slots i x h1 h2).mv e hXM hL (hC x) (fun a ha q => S.oMb i a ha (hX a q)) fun b q => .inl q
theorem execs_step (hE : ExOK g n L) (hz : FzOK L) (ok : g.OK) : ExsOK g n L := by
  intro ss
  induction ss with
  | nil =>
    intro ts sc nms nv0 hc σ σ' fl h env A Mb ow s sk F S
    cases hc
    cases h
    exact wpAny_execs_nil (post_mk S F S (Ext.refl ..) (fun _ q => .inl q) rfl .nx)
  | cons st ss ih =>
    intro ts sc nms nv0 hc σ σ' fl h env A Mb ow s sk F S
    cases hc with
    | @cons _ _ t ts h1 h2 =>
      refine wpAny_execs_cons (ifS_el h fun fl₁ σ₁ e1 h => ?_)
      cases fl₁ with
      | nx =>
        refine mono_ (hE h1 e1 sk F S) fun f s₁ q => ?_
        (refine el12 (q.stp (X := fun _ => False)) ?_; intro ow₁ S₁ x₁ hf)
        cases hf
        refine mono_ (ih h2 h sk F S₁) fun f s₂ q₂ => ?_
        (refine el12 (q₂.stp (X := fun _ => False)) ?_; intro ow₂ S₂ x₂ hf₂)
        exact (x₁.trans x₂ fun _ q => q.elim).post S S₂ F (fun _ q => q.elim) hf₂
      | br => exact sp_el h (mono_ (hE h1 e1 sk F S) fun f s₁ q => el12 (q.stp (X := fun _ => False)) fun ow₁ S₁ x₁ hf => by cases hf; exact q)
      | ct => exact sp_el h (mono_ (hE h1 e1 sk F S) fun f s₁ q => el12 (q.stp (X := fun _ => False)) fun ow₁ S₁ x₁ hf => by cases hf; exact q)
      | rt p => exact sp_el h (mono_ (hE h1 e1 sk F S) fun f s₁ q => el12 (q.stp (X := fun _ => False)) fun ow₁ S₁ x₁ hf => by cases hf; exact q)
    | @ghost i _ ts h2 =>
      refine ifS_el h fun fl₁ σ₁ e1 h => ?_
      · have hnx := (hz e1).1
        subst hnx
        (refine el01 (hz e1) ?_; intro _ zr1; refine el11 zr1 ?_; clear zr1; intro p hsl zq0; subst zq0)
        have hi : i < nv0 := by
          apply Classical.byContradiction
          intro hn
          have := (S.hi i (Nat.le_of_not_lt hn)).1
          rw [hsl] at this; cases this
        have hil : i < nms.length := Nat.lt_of_lt_of_le hi F.nlen
        have hx : nms[i]? = some nms[i] := List.getElem?_eq_getElem hil
        (refine el13 (S.owned hi hx hsl) ?_; intro a hw hva hp ho)
        have S₁ : SO g n A Mb env nms nv0 (upd ow i none) ⟨σ.loc.set i (.fz p), σ.reg⟩ s := by
          have Sp := S.park F hw
          have Sd : SO g n A Mb env nms nv0 (upd ow i none) ⟨σ.loc.set i .un, σ.reg⟩ s := Sp.drop F (fun _ q => .inl q) S.map (Ext.refl ..)
          refine SO.putF (σ := σ) Sd hi S.len hx hva ?_
          have hsys : (a == sysModules) = false := by
            (refine el10 (ok.sysm) ?_; intro o ho')
            rw [beq_eq_false_iff_ne]
            rintro rfl
            rw [S.pr.mb _ (.inr ⟨i, hw⟩)] at ho'; cases ho'
          refine Own.rl hp (fun q => ?_) hsys (ho.mono (fun _ _ _ e => e) (fun _ e => e) fun b q => .inl (MO_upd q))
          rcases q with q | ⟨j, q⟩
          · exact S.oMb i a hw q
          · unfold upd at q
            split at q
            · cases q
            · rename_i hj
              exact hj (S.oInj j i a q hw)
        refine mono_ (ih h2 h sk F S₁) fun f s₂ q₂ => ?_
        (refine el12 (q₂.stp (X := fun _ => False)) ?_; intro ow₂ S₂ x₂ hf₂)
        have x₁ : Stp g env (fun _ => False) ow σ.reg s (upd ow i none) σ.reg s := ⟨Ext.refl .., fun b q => .inl (upd_sub q), rfl, fun _ _ q => q⟩
        exact (x₁.trans x₂ fun _ q => q.elim).post S S₂ F (fun _ q => q.elim) hf₂
theorem st_ite (hX : ExsOK g n L) (hT : EvTOK g n L) (ok : g.OK) (S : SO g n A Mb env nms nv0 ow σ s) (F : FS Mb env nms nv0) (sk : ScOK sc env) {t : Mine.X} {a b : List Mine.S} {te : PySem.Expr} {ae be : List Stmt} {p : Pos} (ct : CorE nms g.fname sc t te) (ca : CorSs nms g.fname nv0 sc a ae) (cb : CorSs nms g.fname nv0 sc b be)
    (h : stepEx L (.ite t a b) σ = some (fl, σ')) : wpAny (model g.prog g.w) A (exec (.If te ae be p) env) (PostS g n A Mb env nms nv0 ow σ.reg s fl σ') NoE s := by
  delta stepEx at h
  refine wpAny_If (ifS_el h fun c P e1 h => S.evT F ok hT ct sk e1 fun s₁ x₁ S₁ h₁ => ?_)
  have y : Stp g env (fun _ => False) ow σ.reg s ow P s₁ := ⟨x₁.wk fun _ q => .inl (.inl q), fun _ q => .inl q, h₁, fun b hb q => alive_of (X := fun _ => False) S₁ (x₁.wk fun _ q => .inl (.inl q)) h₁ (S₁.oAlive F) b hb q⟩
  have fin : ∀ {f : Flow} {s₂ : Shared}, PostS g n A Mb env nms nv0 ow P s₁ fl σ' f s₂ → PostS g n A Mb env nms nv0 ow σ.reg s fl σ' f s₂ := fun q =>
    el12 (q.stp (X := fun _ => False)) fun ow₂ S₂ x₂ hf₂ => (y.trans x₂ fun _ q => q.elim).post S S₂ F (fun _ q => q.elim) hf₂
  cases c with
  | true =>
    rw [if_pos rfl]
    exact mono_ (hX ca h sk F S₁) fun f s₂ q => fin q
  | false =>
    rw [if_neg Bool.false_ne_true]
    exact mono_ (hX cb h sk F S₁) fun f s₂ q => fin q
end
end Mine
end
section
open PySem PySem.W PyProof.Rows
set_option Elab.async false
set_option maxRecDepth 100000
namespace Mine
section
variable {g : G} {n : Nat} {L : Lv} {A : Around} {M M' Mb Mb' : Addr → Prop} {P P' P₁ P₂ : Reg} {s s' s₁ s₂ : Shared} {env : Env} {nms : List Str} {sc csc : Sc} {ρ ρ' ρ₁ ρ₂ : Vw} {srt : List PV → Option (List PV)} {nv0 : Nat} {ow ow₁ ow₂ : Nat → Option Addr} {σ σ' : St} {I : Addr} {fl : Fl} {f : Flow}
theorem Stp.wkX {Z Z' : Addr → Prop} (x : Stp g env Z ow P s ow₁ P₁ s₁) (h : ∀ b, Z b → Z' b) : Stp g env Z' ow P s ow₁ P₁ s₁ := ⟨x.ext.wk fun b q => q.imp id (h b), x.sub, x.same, fun b hb q => x.alive b (fun r => hb (h b r)) q⟩
theorem MO_plus_eq {a : Addr} : MO (plus Mb a) ow = plus (MO Mb ow) a := funext fun _ => propext MO_plus
theorem turn_start (S : SO g n A (plus Mb I) env nms nv0 ow σ s) (F : FS Mb env nms nv0) {s₁ s₂ : Shared} (x₁ : Ext (fun a => a = I) s s₁) (x₂ : Ext (LC env) s₁ s₂) {loc : List Slot} (S₂ : SO g n A (plus Mb I) env nms nv0 ow₂ ⟨loc, σ.reg⟩ s₂)
    (hsub : ∀ b, (∃ j, ow₂ j = some b) → ∃ j, ow j = some b) : Stp g env (fun b => b = I) ow σ.reg s ow₂ σ.reg s₂ := by
  have e : Ext (fun b => Wr g env ow σ.reg b ∨ b = I) s s₂ := (x₁.wk fun _ q => .inr q).tr (x₂.wk fun _ q => .inl (.inr (.inl q)))
  refine ⟨e, fun b q => .inl (hsub b q), rfl, fun b hb q => ?_⟩
  refine alive_of (X := fun b => b = I) S₂ e rfl (fun b h => ?_) b hb q
  (refine el10 (S.oAlive (F.wk fun _ q => .inl q) b h) ?_; intro o ho)
  have hbI : ¬ plus Mb I b := by (refine el10 h ?_; try clear h; intro i hi); exact S.oMb i b hi
  exact ⟨o, x₂.keep b o (fun q => hbI (.inl (LC_sub F q))) (x₁.keep b o (fun q => hbI (.inr q)) ho)⟩
theorem FlOK.down {s : Shared} (h : FlOK g (plus Mb I) s fl f) : FlOK g Mb s fl f := by
  cases h with
  | nx => exact .nx
  | br => exact .br
  | ct => exact .ct
  | rt r => exact .rt (r.mono (fun _ _ _ e => e) fun _ q => .inl (.inl q))
theorem for_loop (hX : ExsOK g n L) (ok : g.OK) (F : FS Mb env nms nv0) (sk : ScOK sc env) {t : Tgt} {te : PySem.Expr} {body : List S} {be : List Stmt} (ht : sTgtOk nms nv0 sc t te = true) (cb : CorSs nms g.fname nv0 sc body be) (hI : ¬ Mb I) :
    ∀ {items : List PV} {σ σ' : St} {fl : Fl} {s : Shared} {ow : Nat → Option Addr}, loopS (fun x σ => (bindS t x σ.loc).bind fun loc => execs L.ex body ⟨loc, σ.reg⟩) items σ = some (fl, σ') → SO g n A (plus Mb I) env nms nv0 ow σ s → (σ.reg.isSome = true → Mb g.ap) → ItAt g.ap g.C s.heap I (MO (plus Mb I) ow) items → ∀ {R : Result → Shared → Prop},
      (∀ s' f ow', SO g n A Mb env nms nv0 ow' σ' s' → Stp g env (fun b => b = I) ow σ.reg s ow' σ'.reg s' → FlOK g Mb s' fl f → R (.ok f) s') → codeAny (model g.prog g.w) A (.forLoop te (.ref I) be [] env) R s := by
  have hXI : ∀ {s s' : Shared}, Ext (fun a => a = I) s s' → Ext (fun b => plus Mb I b ∧ ¬ Mb b) s s' := fun x => x.wk fun a q => ⟨.inr q, fun r => hI (q ▸ r)⟩
  intro items
  induction items with
  | nil =>
    intro σ σ' fl s ow h S hap hit R hR
    cases h
    refine codeAny_of_tree ?_
    show wpAny _ A ((forTurn te (.ref I) be [] env).onRaise (fun x => do noteFrame x env; theTreesLotGoes x)) _ _ s
    refine wpAny_noted ?_
    simp -iota only [forTurn]
    refine wpAny_bind (wpAny_standAt (wpAny_bind (wpAny_onRaise (iter_end S.pr.a.1 hit fun s' x => ?_))))
    refine wpAny_pure ⟨rfl, codeAny_block (wpAny_execs_nil ?_)⟩
    refine hR s' .next ow (S.drop F (fun _ q => .inl q) hap (hXI x)) ⟨x.wk fun _ q => .inr q, fun _ q => .inl q, rfl, fun b hb q => ?_⟩ .nx
    cases e : s.heap.get? b with
    | none => rfl
    | some o => rw [x.keep b o hb e] at q; cases q
  | cons y items ih =>
    intro σ σ' fl s ow h S hap hit R hR
    refine codeAny_of_tree ?_
    show wpAny _ A ((forTurn te (.ref I) be [] env).onRaise (fun x => do noteFrame x env; theTreesLotGoes x)) _ _ s
    refine wpAny_noted ?_
    simp -iota only [forTurn]
    refine wpAny_bind (wpAny_standAt (wpAny_bind (wpAny_onRaise (iter_next hit (.inl (.inr rfl)) fun v s₁ x₁ rv hit₁ => ?_))))
    have F' : FS (plus Mb I) env nms nv0 := F.wk fun _ q => .inl q
    have hIL : ¬ LC env I := fun q => hI (LC_sub F q)
    have S₁ : SO g n A (plus Mb I) env nms nv0 ow σ s₁ := S.baseMv x₁ (fun _ q => .inr q) (fun q => hIL (.inl q.symm)) (fun x c hc q => hIL (.inr ⟨x, q ▸ hc⟩)) (fun hr q => hI (q ▸ hap hr)) fun a q => q ▸ hit₁.sf.2
    refine wpAny_bind (iter_go hit₁ ?_)
    refine ifS_el h fun fl₁ σ₁ e1 h => bd_el e1 fun loc hb hr => ?_
    clear e1
    have hgo : ∀ (loc : List Slot) (r : Option (Fl × St)), bindS t y σ.loc = some loc → execs L.ex body ⟨loc, σ.reg⟩ = r → ∀ {fl₁ : Fl} {σ₁ : St}, r = some (fl₁, σ₁) → ∀ {Q : Unit → Shared → Prop} {E : Value → Shared → Prop},
        (∀ s₂, wpAny (model g.prog g.w) A (PySem.execs be env) (fun f s₃ => ∃ ow₃, SO g n A (plus Mb I) env nms nv0 ow₃ σ₁ s₃ ∧ Stp g env (fun b => b = I) ow σ.reg s ow₃ σ₁.reg s₃ ∧ ItAt g.ap g.C s₃.heap I (MO (plus Mb I) ow₃) items ∧ FlOK g (plus Mb I) s₃ fl₁ f) NoE s₂ → Q () s₂) →
        wpAny (model g.prog g.w) A (PySem.assign te env v) Q E s₁ := by
      intro loc r hb hr fl₁ σ₁ hr' Q E hQ
      subst hr'
      refine wpAny_mono (S₁.assignT F' ok sk ht rv hb fun s₂ ow₂ x₂ S₂ hsub => hQ s₂ ?_) (fun _ _ q => q) fun _ _ q => q.elim
      have y₂ := turn_start S F x₁ x₂ S₂ hsub
      refine mono_ (hX cb hr sk F' S₂) fun f s₃ q => ?_
      (refine el12 (q.stp (X := fun _ => False)) ?_; intro ow₃ S₃ y₃ hf)
      refine (mk13 ow₃ S₃ (y₂.trans (y₃.wkX fun _ q => q.elim) (fun b hb => ?_)) ?_ hf)
      · rintro ⟨i, hi⟩
        exact S₃.oMb i b hi (.inr hb)
      · have hWM : ∀ b, Wr g env ow₂ σ.reg b → MO (plus Mb I) ow b := by
          rintro b (q | q | q)
          · exact .inl (.inl (q.2 ▸ hap q.1))
          · exact .inl (.inl (LC_sub F q))
          · exact .inr (hsub b q)
        have hWI : ¬ Wr g env ow₂ σ.reg I := by
          rintro (q | q | ⟨i, q⟩)
          · exact hI (q.2 ▸ hap q.1)
          · exact hIL q
          · exact S₂.oMb i I q (.inr rfl)
        refine hit₁.mono (fun o ho => y₃.ext.keep I o (fun q => q.elim hWI id) (x₂.keep I o hIL ho)) (fun a o na ho => y₃.ext.keep a o (fun q => q.elim (fun q => na (hWM a q)) id) (x₂.keep a o (fun q => na (.inl (.inl (LC_sub F q)))) ho)) fun b q => ?_
        rcases q with q | q
        · exact .inl (.inl q)
        · rcases y₃.sub b q with q | q
          · exact .inl (.inr (hsub b q))
          · refine .inr ?_
            cases e : s₁.heap.get? b with
            | none => rfl
            | some o =>
              exfalso
              by_cases hL : LC env b
              · have : ∃ o, s₂.heap.get? b = some o := by
                  rcases hL with rfl | ⟨x, hx⟩
                  · (refine el41 (S₂.ns) ?_; intro m o _ _ ho _); exact ⟨o, ho⟩
                  · (refine el21 (S₂.cellAt x b hx) ?_; intro v o ho _); exact ⟨o, ho⟩
                (refine el10 this ?_; try clear this; intro o' ho')
                rw [q] at ho'; cases ho'
              · rw [x₂.keep b o hL e] at q; cases q
    have noI : ∀ {ow₃ : Nat → Option Addr} {σ₃ : St} {s₃ : Shared}, SO g n A (plus Mb I) env nms nv0 ow₃ σ₃ s₃ → ∀ b, b = I → ¬ ∃ i, ow₃ i = some b := fun S₃ b hb ⟨i, hi⟩ => S₃.oMb i b hi (.inr hb)
    have dropI : ∀ {ow₃ : Nat → Option Addr} {σ₃ : St} {s₃ : Shared}, SO g n A (plus Mb I) env nms nv0 ow₃ σ₃ s₃ → σ₃.reg.isSome = σ.reg.isSome → SO g n A Mb env nms nv0 ow₃ σ₃ s₃ := fun S₃ hs => S₃.drop F (fun _ q => .inl q) (fun q => hap (hs ▸ q)) (Ext.refl ..)
    · · refine wpAny_bind (hgo loc _ hb hr rfl fun s₂ hq => wpAny_bind (wpAny_mono hq (fun f s₃ h₃ => ?_) fun _ _ q => q.elim))
        (refine el13 h₃ ?_; try clear h₃; intro ow₃ S₃ y₃ hit₃ hf)
        have rest : loopS (fun x σ => (bindS t x σ.loc).bind fun loc => execs L.ex body ⟨loc, σ.reg⟩) items σ₁ = some (fl, σ') → codeAny (model g.prog g.w) A (.forLoop te (.ref I) be [] env) R s₃ := fun h =>
          ih h S₃ (fun q => hap (y₃.same ▸ q)) hit₃ fun s' f ow' S' y' hf' => hR s' f ow' S' (y₃.trans y' (fun b hb ⟨i, hi⟩ => by
            rcases y'.sub b ⟨i, hi⟩ with h | h
            · exact noI S₃ b hb h
            · subst hb
              (refine el10 (S₃.pr.ma b (.inl (.inr rfl))) ?_; intro o ho)
              rw [h] at ho; cases ho)) hf'
        cases hf with
        | nx => exact wpAny_pure ⟨rfl, rest h⟩
        | ct => exact wpAny_pure ⟨rfl, rest h⟩
        | br =>
          cases h
          exact wpAny_pure (hR s₃ .next ow₃ (dropI S₃ y₃.same) y₃ .nx)
        | rt r =>
          cases h
          exact wpAny_pure (hR s₃ _ ow₃ (dropI S₃ y₃.same) y₃ (FlOK.down (.rt r)))
theorem st_for (hX : ExsOK g n L) (hL : EvOK g n L) (ok : g.OK) (S : SO g n A Mb env nms nv0 ow σ s) (F : FS Mb env nms nv0) (sk : ScOK sc env) {t : Tgt} {k : IT} {e : X} {te ie : PySem.Expr} {body : List Mine.S} {be : List Stmt} {p : Pos} (ht : sTgtOk nms nv0 sc t te = true) (ci : CorIt nms g.fname sc k e ie) (cb : CorSs nms g.fname nv0 sc body be)
    (h : stepEx L (.for t k e body) σ = some (fl, σ')) : wpAny (model g.prog g.w) A (exec (.For te ie be [] p) env) (PostS g n A Mb env nms nv0 ow σ.reg s fl σ') NoE s := by
  delta stepEx at h
  refine ifS_el h fun src P ea h => bd_el h fun items ei h => ?_
  · · refine wpAny_For (it_start hL ok ci ea ei sk (S.frF F) S.pr fun I s₂ x₂ pr₂ h₂ hI hit => ?_) (fold_it ci)
      have hNI : ¬ Mb I := fun q => S.pr.ma.not hI (.inl q)
      have S₂ : SO g n A (plus Mb I) env nms nv0 ow ⟨σ.loc, P⟩ s₂ := S.ev (fun b q => q.imp id fun (q : b = I) => q ▸ hI) (fun _ q => .inl q) x₂ (by rw [MO_plus_eq]; exact pr₂) h₂ F
      have e₂ : Ext (fun b => Wr g env ow σ.reg b ∨ b = I) s s₂ := x₂.wk fun _ q => .inl (.inl q)
      have y₂ : Stp g env (fun b => b = I) ow σ.reg s ow P s₂ := ⟨e₂, fun _ q => .inl q, h₂, fun b hb q => alive_of (X := fun b => b = I) S₂ e₂ h₂ (S₂.oAlive (F.wk fun _ q => .inl q)) b hb q⟩
      refine for_loop hX ok F sk ht cb hNI h S₂ (fun q => S.map (h₂ ▸ q)) (by rw [MO_plus_eq]; exact hit) fun s' f ow' S' y' hf => ?_
      refine (y₂.trans y' fun b hb ⟨i, hi⟩ => ?_).post S S' F (fun b hb => hb ▸ hI) hf
      subst hb
      rcases y'.sub b ⟨i, hi⟩ with ⟨j, hj⟩ | q
      · exact S₂.oMb j b hj (.inr rfl)
      · (refine el10 (S₂.pr.ma b (.inl (.inr rfl))) ?_; intro o ho)
        rw [q] at ho; cases ho
end
end Mine
end
section
open PySem PySem.W PyProof.Rows
set_option Elab.async false
set_option maxRecDepth 100000
namespace Mine
section
variable {g : G} {n : Nat} {L : Lv} {A : Around} {M M' Mb Mb' : Addr → Prop} {P P' P₁ P₂ : Reg} {s s' s₁ s₂ : Shared} {env : Env} {nms : List Str} {sc csc : Sc} {ρ ρ' ρ₁ ρ₂ : Vw} {srt : List PV → Option (List PV)} {nv0 : Nat} {ow ow₁ ow₂ : Nat → Option Addr} {σ σ' : St} {I a : Addr} {fl : Fl} {f : Flow}
theorem own_loop (hE : ExOK g n L) (hT : EvTOK g n L) (ok : g.OK) (F : FS Mb env nms nv0) (sk : ScOK sc env) {t : Tgt} {te ce : PySem.Expr} {c e : X} {i : Nat} {ap br : Stmt} {pp : Pos} (ht : sTgtOk nms nv0 sc t te = true) (cc : CorE nms g.fname sc c ce) (ca : CorS nms g.fname nv0 sc (.app i e) ap) (cb : CorS nms g.fname nv0 sc .brk br) (hI : ¬ Mb I)
    (haL : ¬ LC env a) (haI : a ≠ I) :
    ∀ {items : List PV} {σ σ' : St} {fl : Fl} {s : Shared} {ow : Nat → Option Addr}, findOwn L t c i e items σ = some (fl, σ') → SO g n A (plus Mb I) env nms nv0 ow σ s → (σ.reg.isSome = true → Mb g.ap ∧ a ≠ g.ap) → flatL items = true → (∃ o, s.heap.get? a = some o ∧ o.cls ≠ .type "tuple") →
      ItAt g.ap g.C s.heap I (fun b => MO (plus Mb I) ow b ∧ b ≠ a) items → ∀ {R : Result → Shared → Prop},
      (∀ s' ow', SO g n A Mb env nms nv0 ow' σ' s' → Stp g env (fun b => b = I) ow σ.reg s ow' σ'.reg s' → fl = .nx → R (.ok .next) s') → codeAny (model g.prog g.w) A (.forLoop te (.ref I) [.If ce [ap, br] [] pp] [] env) R s := by
  have hXI : ∀ {s s' : Shared}, Ext (fun a => a = I) s s' → Ext (fun b => plus Mb I b ∧ ¬ Mb b) s s' := fun x => x.wk fun a q => ⟨.inr q, fun r => hI (q ▸ r)⟩
  intro items
  induction items with
  | nil =>
    intro σ σ' fl s ow h S hap hfl hob hit R hR
    cases h
    refine codeAny_of_tree ?_
    show wpAny _ A ((forTurn te (.ref I) _ [] env).onRaise (fun x => do noteFrame x env; theTreesLotGoes x)) _ _ s
    refine wpAny_noted ?_
    simp -iota only [forTurn]
    refine wpAny_bind (wpAny_standAt (wpAny_bind (wpAny_onRaise (iter_end S.pr.a.1 hit fun s' x => ?_))))
    refine wpAny_pure ⟨rfl, codeAny_block (wpAny_execs_nil ?_)⟩
    refine hR s' ow (S.drop F (fun _ q => .inl q) (fun q => (hap q).1) (hXI x)) ⟨x.wk fun _ q => .inr q, fun _ q => .inl q, rfl, fun b hb q => ?_⟩ rfl
    cases e : s.heap.get? b with
    | none => rfl
    | some o => rw [x.keep b o hb e] at q; cases q
  | cons y items ih =>
    intro σ σ' fl s ow h S hap hfl hob hit R hR
    (refine el01 (all2 (a := y.flat) (b := flatL items) hfl) ?_; clear hfl; intro hfy hfl)
    (refine el11 hob ?_; try clear hob; intro o hob hobt)
    refine codeAny_of_tree ?_
    show wpAny _ A ((forTurn te (.ref I) _ [] env).onRaise (fun x => do noteFrame x env; theTreesLotGoes x)) _ _ s
    refine wpAny_noted ?_
    simp -iota only [forTurn]
    refine wpAny_bind (wpAny_standAt (wpAny_bind (wpAny_onRaise (iter_next hit ⟨.inl (.inr rfl), haI.symm⟩ fun v s₁ x₁ rv hit₁ => ?_))))
    have F' : FS (plus Mb I) env nms nv0 := F.wk fun _ q => .inl q
    have hIL : ¬ LC env I := fun q => hI (LC_sub F q)
    have S₁ : SO g n A (plus Mb I) env nms nv0 ow σ s₁ := S.baseMv x₁ (fun _ q => .inr q) (fun q => hIL (.inl q.symm)) (fun x c hc q => hIL (.inr ⟨x, q ▸ hc⟩)) (fun hr q => hI (q ▸ (hap hr).1)) fun a q => q ▸ hit₁.sf.2
    have hob₁ : s₁.heap.get? a = some o := x₁.keep a o haI hob
    have rv' : Rl g.ap g.C (MO (plus Mb I) ow) s₁.heap v y := Rl.up (fun b hb hn => by
      by_cases e : b = a
      · exact (mk11 o (e ▸ hob₁) hobt)
      · exact absurd ⟨hb, e⟩ hn) hfy rv
    refine wpAny_bind (iter_go hit₁ ?_)
    refine bd_el h fun loc hb h => ifS_el h fun c' P e1 h => ?_
    · refine wpAny_bind (wpAny_mono (S₁.assignT F' ok sk ht rv' hb fun s₂ ow₂ x₂ S₂ hsub => ?_) (fun _ _ q => q) fun _ _ q => q.elim)
      have y₂ := turn_start S F x₁ x₂ S₂ hsub
      have hob₂ : s₂.heap.get? a = some o := x₂.keep a o haL hob₁
      cases c' with
      | true => -- found
        refine ifS_el (show (ifS (L.ex (.app i e) ⟨loc, P⟩) fun fl σ₁ => (match fl with
          | .nx => some (.nx, σ₁)
          | .br => Option.none
          | .ct => Option.none
          | .rt _ => Option.none)) = some (fl, σ') from h) fun fl₁ σ₁ e2 h => ?_
        cases fl₁ with
        | br => exact ns_ h
        | ct => exact ns_ h
        | rt => exact ns_ h
        | nx =>
          cases h
          refine wpAny_bind (wpAny_mono (wpAny_execs_cons (wpAny_If (S₂.evT F' ok hT cc sk e1 fun s₃ x₃ S₃ h₃ => ?_))) (fun f s₄ h₄ => h₄) fun _ _ q => q.elim)
          rw [if_pos rfl]
          have e₃ : Ext (fun b => Wr g env ow₂ σ.reg b ∨ b = I) s₂ s₃ := x₃.wk fun _ q => .inl (.inl q)
          have y₃ : Stp g env (fun b => b = I) ow₂ σ.reg s₂ ow₂ P s₃ := ⟨e₃, fun _ q => .inl q, h₃, fun b hb q => alive_of (X := fun b => b = I) S₃ e₃ h₃ (S₃.oAlive F') b hb q⟩
          refine wpAny_execs_cons (mono_ (hE ca e2 sk F' S₃) fun f s₄ q => ?_)
          (refine el12 (q.stp (X := fun b => b = I)) ?_; intro ow₄ S₄ y₄ hf)
          cases hf
          (refine el10 (cb.inv) ?_; intro bp zq0; subst zq0)
          refine wpAny_execs_cons (wpAny_Break ?_)
          refine wpAny_pure (hR s₄ ow₄ (S₄.drop F (fun _ q => .inl q) (fun q => (hap (h₃ ▸ y₄.same ▸ q)).1) (Ext.refl ..)) ?_ rfl)
          refine (y₂.trans y₃ fun b hb ⟨k, hk⟩ => S₂.oMb k b hk (.inr hb)).trans y₄ fun b hb ⟨k, hk⟩ => S₄.oMb k b hk (.inr hb)
      | false =>
        refine wpAny_bind (wpAny_mono (wpAny_execs_cons (wpAny_If (S₂.evT F' ok hT cc sk e1 fun s₃ x₃ S₃ h₃ => ?_))) (fun f s₄ h₄ => h₄) fun _ _ q => q.elim)
        rw [if_neg Bool.false_ne_true]
        refine wpAny_execs_nil (wpAny_execs_nil ?_)
        have e₃ : Ext (fun b => Wr g env ow₂ σ.reg b ∨ b = I) s₂ s₃ := x₃.wk fun _ q => .inl (.inl q)
        have y₃ : Stp g env (fun b => b = I) ow₂ σ.reg s₂ ow₂ P s₃ := ⟨e₃, fun _ q => .inl q, h₃, fun b hb q => alive_of (X := fun b => b = I) S₃ e₃ h₃ (S₃.oAlive F') b hb q⟩
        have hXap : ¬ XR g σ.reg a := fun q => (hap q.1).2 q.2
        have hIap : ¬ XR g σ.reg I := fun q => hI (q.2 ▸ (hap q.1).1)
        have hit₃ : ItAt g.ap g.C s₃.heap I (fun b => MO (plus Mb I) ow₂ b ∧ b ≠ a) items := by
          refine hit₁.mono (fun o ho => x₃.keep I o hIap (x₂.keep I o hIL ho)) (fun b o nb ho => x₃.keep b o (fun q => ?_) (x₂.keep b o (fun q => ?_) ho)) fun b q => .inl ⟨q.1.imp id (hsub b), q.2⟩
          · by_cases e : b = a
            · exact hXap (e ▸ q)
            · exact nb ⟨.inl (.inl (q.2 ▸ (hap q.1).1)), e⟩
          · by_cases e : b = a
            · exact haL (e ▸ q)
            · exact nb ⟨.inl (.inl (LC_sub F q)), e⟩
        refine wpAny_pure ⟨rfl, ih h S₃ (fun q => hap (h₃ ▸ q)) hfl (mk11 o (x₃.keep a o hXap hob₂) hobt) hit₃ fun s' ow' S' y' hf => hR s' ow' S' ?_ hf⟩
        refine (y₂.trans y₃ fun b hb ⟨k, hk⟩ => S₂.oMb k b hk (.inr hb)).trans y' fun b hb ⟨k, hk⟩ => ?_
        rcases y'.sub b ⟨k, hk⟩ with ⟨m, hm⟩ | q
        · exact S₃.oMb m b hm (.inr hb)
        · (refine el10 (S₃.pr.ma b (.inl (.inr hb))) ?_; intro o ho)
          rw [q] at ho; cases ho
theorem st_forOwn (hE : ExOK g n L) (hT : EvTOK g n L) (ok : g.OK) (S : SO g n A Mb env nms nv0 ow σ s) (F : FS Mb env nms nv0) (sk : ScOK sc env) {t : Tgt} {j : Nat} {x : Str} {te : PySem.Expr} {body : List Mine.S} {be : List Stmt} {p p' : Pos} (ht : sTgtOk nms nv0 sc t te = true) (hv : varAt nms nv0 sc j x = true) (cb : CorSs nms g.fname nv0 sc body be)
    (h : stepEx L (.forOwn t j body) σ = some (fl, σ')) : wpAny (model g.prog g.w) A (exec (.For te (.Name x p') be [] p) env) (PostS g n A Mb env nms nv0 ow σ.reg s fl σ') NoE s := by
  delta stepEx at h
  (refine el03 (varAt_spec hv sk) ?_; intro hi hx hk hn)
  revert cb
  refine onOwn_el h fun c i e h cb => ow_list h fun l hsl h => if_el h fun hc h => ?_
  · · · simp only [Bool.and_eq_true] at hc
        cases cb with
        | cons c1 c2 =>
        cases c2
        (refine el43 (c1.inv) ?_; intro _ _ _ _ zq0 cc ca cz; subst zq0)
        cases cz
        cases ca with
        | cons d1 d2 =>
        cases d2 with
        | cons d2 d3 =>
        cases d3
        (refine el13 (S.owned hi hx hsl) ?_; intro a hw hva _ zr0; refine el11 zr0 ?_; clear zr0; intro vs hpl hrl)
        refine wpAny_For (name_at F hva hk hn (wpAny_pyIter_list hpl.isList ?_)) (fun _ => rfl)
        have e0 : Ext0 s { s with heap := s.heap.push { cls := .type "list_iterator", data := .fields #[.ref a, .int 0 0] } } := Ext0.push s _ s.toks
        have hI := get_size s.heap
        generalize hIe : s.heap.objs.size = I at hI
        have hio : (s.heap.push { cls := .type "list_iterator", data := .fields #[.ref a, .int 0 0] }).get? I = some ({ cls := .type "list_iterator", data := .fields #[.ref a, .int 0 0] } : Obj) := hIe ▸ Heap.get?_push_size _ rfl
        have hNI : ¬ Mb I := fun q => S.pr.ma.not hI (.inl q)
        have hBI : g.B I = none := S.pr.free hI
        have S₂ : SO g n A (plus Mb I) env nms nv0 ow ⟨σ.loc, σ.reg⟩ { s with heap := s.heap.push { cls := .type "list_iterator", data := .fields #[.ref a, .int 0 0] } } :=
          S.ev (fun b q => q.imp id fun (q : b = I) => q ▸ hI) (fun _ q => .inl q) (e0.wk fun _ q => q.elim) ((S.pr.next0 ok e0).add (fun b q => q.elim (fun q => q.elim (fun q => .inl (.inl q)) fun (q : b = I) => .inr (mk01 (q ▸ hBI) (mk10 _ (q ▸ hio)))) fun q => .inl (.inr q)) fun b q => q.imp (fun q => .inl q) id) rfl F
        have hna := S.oMb j a hw
        have hob := hpl.isList
        (refine el12 (id hob) ?_; intro ob hob hobc _)
        have haI : a ≠ I := fun e => by rw [e, hI] at hob; cases hob
        have e₂ : Ext (fun b => Wr g env ow σ.reg b ∨ b = I) s { s with heap := s.heap.push { cls := .type "list_iterator", data := .fields #[.ref a, .int 0 0] } } := e0.wk fun _ q => q.elim
        have y₂ : Stp g env (fun b => b = I) ow σ.reg s ow σ.reg { s with heap := s.heap.push { cls := .type "list_iterator", data := .fields #[.ref a, .int 0 0] } } :=
          ⟨e₂, fun _ q => .inl q, rfl, fun b hb q => alive_of (X := fun b => b = I) S₂ e₂ rfl (S₂.oAlive (F.wk fun _ q => .inl q)) b hb q⟩
        refine own_loop (a := a) hE hT ok F sk ht cc d1 d2 hNI (fun q => hna (LC_sub F q)) haI h S₂ (fun q => ⟨S.map q, S.ap hw q⟩) hc.1 (mk11 ob (e0.all _ _ hob) (by rw [hobc]; simp)) (.list (i := 0) (mk12 _ hio rfl rfl) (hpl.isList.at fun o ho => e0.all _ _ ho) (fun q => q.2 rfl) ?_) fun s' ow' S' y' hf => ?_
        · rw [List.drop_zero]
          refine hrl.mono (fun b o _ ho => e0.all _ _ ho) fun b q => ?_
          rcases q.1 with (q | q) | q
          · exact .inl (.inl q)
          · exact .inr (q ▸ hI)
          · exact .inl (.inr q)
        · subst hf
          refine (y₂.trans y' fun b hb ⟨k, hk⟩ => ?_).post S S' F (fun b hb => hb ▸ hI) .nx
          subst hb
          rcases y'.sub b ⟨k, hk⟩ with ⟨m, hm⟩ | q
          · exact S₂.oMb m b hm (.inr rfl)
          · rw [hio] at q; cases q
theorem ex_step (hL : EvOK g n L) (hT : EvTOK g n L) (hC : CompOK g n L) (hE : ExOK g n L) (hz : FzOK L) (ok : g.OK) : ExOK g (n + 1) (⟨L.ev, L.evT, stepEx L, L.fn⟩ : Lv) := by
  intro st t sc nms nv0 hc σ σ' fl h env A Mb ow s sk F S'
  simp only at h
  have S : SO g n A Mb env nms nv0 ow σ s := ⟨S'.pr.pred, S'.map, S'.ns, S'.cellAt, S'.slots, S'.hi, S'.len, S'.oMb, S'.oInj⟩
  have up : ∀ {f : Flow} {s₁ : Shared}, PostS g n A Mb env nms nv0 ow σ.reg s fl σ' f s₁ → PostS g (n + 1) A Mb env nms nv0 ow σ.reg s fl σ' f s₁ := fun q => by
    (refine el11 q ?_; try clear q; intro ow' Sq r)
    exact (mk11 ow' ⟨Sq.pr.wkN S'.pr.a, Sq.map, Sq.ns, Sq.cellAt, Sq.slots, Sq.hi, Sq.len, Sq.oMb, Sq.oInj⟩ r)
  have hX : ExsOK g n L := execs_step hE hz ok
  refine mono_ (Q := PostS g n A Mb env nms nv0 ow σ.reg s fl σ') ?_ fun f s₁ q => up q
  have hi := hc.inv
  cases st with
  | asg i e => (refine el43 hi ?_; try clear hi; intro x v p p' zq0 hv hco ce; subst zq0); exact st_asg S F ok hL sk hv hco ce h
  | asgF i e => (refine el42 hi ?_; try clear hi; intro x v p p' zq0 hv ce; subst zq0); exact st_asgF S F ok hL hC sk hv ce h
  | own i e => (refine el42 hi ?_; try clear hi; intro x v p p' zq0 hv ce; subst zq0); exact st_own S F ok hL hC sk hv ce h
  | unp is e => (refine el40 hi ?_; try clear hi; intro es k v p zr1; refine el14 zr1 ?_; clear zr1; intro p' zq0 ht hco htu ce; subst zq0); exact st_unp S F ok hL sk ht hco htu ce h
  | setIt i idx e => (refine el40 hi ?_; try clear hi; intro x ie v p zr1; refine el24 zr1 ?_; clear zr1; intro p' p'' zq0 hv hns hco zr2; refine el01 zr2 ?_; clear zr2; intro ci ce; subst zq0); exact st_setIt S F ok hL sk hv hco ci ce h
  | augPool i j k => (refine el40 hi ?_; try clear hi; intro x c1 c2 p zr1; refine el41 zr1 ?_; clear zr1; intro p' p'' p3 p4 zq0 hv; subst zq0); exact st_augPool S F ok sk hv h
  | augI i op e => (refine el40 hi ?_; try clear hi; intro x o v p zr1; refine el13 zr1 ?_; clear zr1; intro p' zq0 ho hv ce; subst zq0); exact st_augI S F ok hL sk ho hv ce h
  | ext i e => (refine el42 hi ?_; try clear hi; intro x v p p' zq0 hv ce; subst zq0); exact st_ext S F ok hL sk hv ce h
  | app i e => (refine el40 hi ?_; try clear hi; intro x v p p' zr1; refine el23 zr1 ?_; clear zr1; intro p1 p2 zq0 hv hl ce; subst zq0); exact st_app S F ok hL sk hv hl ce h
  | appF i e => (refine el40 hi ?_; try clear hi; intro x v p p' zr1; refine el23 zr1 ?_; clear zr1; intro p1 p2 zq0 hv hl ce; subst zq0); exact st_appF S F ok hL sk hv hl ce h
  | upd i e => (refine el40 hi ?_; try clear hi; intro x v p p' zr1; refine el23 zr1 ?_; clear zr1; intro p1 p2 zq0 hv hl ce; subst zq0); exact st_upd S F ok hL sk hv hl ce h
  | ite t a b => (refine el43 hi ?_; try clear hi; intro te ae be p zq0 ct ca cb; subst zq0); exact st_ite hX hT ok S F sk ct ca cb h
  | «for» t k e body => (refine el43 hi ?_; try clear hi; intro te ie be p zq0 ht ci cb; subst zq0); exact st_for hX hL ok S F sk ht ci cb h
  | forOwn t j body => (refine el40 hi ?_; try clear hi; intro x te be p zr1; refine el13 zr1 ?_; clear zr1; intro p' zq0 ht hv cb; subst zq0); exact st_forOwn hE hT ok S F sk ht hv cb h
  | ret e => (refine el21 hi ?_; try clear hi; intro v p zq0 ce; subst zq0); exact st_ret S F ok hL sk ce h
  | brk => (refine el10 hi ?_; try clear hi; intro p zq0; subst zq0); cases h; exact wpAny_Break (post_mk S F S (Ext.refl ..) (fun _ q => .inl q) rfl .br)
  | cont => (refine el10 hi ?_; try clear hi; intro p zq0; subst zq0); cases h; exact wpAny_Continue (post_mk S F S (Ext.refl ..) (fun _ q => .inl q) rfl .ct)
  | freeze i => exact hi.elim
end
end Mine
end
section
open PySem PySem.W PyProof.Rows
set_option Elab.async false
set_option maxRecDepth 100000
namespace Mine
noncomputable def isLC : Option NameKind → Bool
  | some .local => true
  | some .cell => true
  | _ => false
noncomputable def fnOk (d : FnD) (names : Sc) : Bool := (names.all fun y => !(y.2 == .free)) && ((d.nms.take d.nv0).all fun x => isLC (names.lookup x)) && sepOk d.nms (List.range d.nv0) && Nat.ble d.np d.nv0 && Nat.ble d.nv0 d.nv && Nat.ble d.nv0 d.nms.length
structure FnSpec (g : G) (f : Nat) (d : FnD) : Prop where
  glob : GlobV g (g.fname f) (.ref (g.fa f))
  ob : ∃ o fd body, g.h₀.get? (g.fa f) = some o ∧ o.data = .func fd ∧ fd.body = .stmts body ∧ fd.closure = [] ∧ fd.globals = mainGlobals ∧ fd.builtins = builtinsNs ∧ fd.scope.isCoroutine = false ∧ fd.scope.isGenerator = false ∧ fd.scope.kind = .function ∧
    g.h₀.CodeRec fd.code fd.qualname ∧ (∀ vals : List Value, vals.length = d.np → bindArgs fd ⟨vals, []⟩ = pure ((d.nms.take d.np).zip vals)) ∧ CorSs d.nms g.fname d.nv0 fd.scope.names d.body body ∧ fnOk d fd.scope.names = true
section
variable {g : G} {n : Nat} {L : Lv} {A : Around} {M M' Mb Mb' : Addr → Prop} {P P' P₁ P₂ : Reg} {s s' s₁ s₂ : Shared} {env : Env} {nms : List Str}
theorem mem_cellsFrom : ∀ {names : Sc} {n : Nat} {acc : List (Str × Addr)} {x : Str}, ((x, NameKind.cell) ∈ names ∨ ∃ c, acc.lookup x = some c) → ∃ c, (cellsFrom n names acc).lookup x = some c
  | [], n, acc, x, h => by
    rcases h with h | h
    · cases h
    · exact h
  | (y, k) :: r, n, acc, x, h => by
    show ∃ c, (if (k == NameKind.cell) = true then cellsFrom (n + 1) r ((y, n) :: acc) else cellsFrom n r acc).lookup x = some c
    by_cases hk : k = .cell
    · subst hk
      simp only [beq_self_eq_true, if_true]
      refine mem_cellsFrom ?_
      by_cases e : x = y
      · subst e
        exact .inr ⟨n, by rw [List.lookup_cons, beq_self_eq_true]⟩
      · rcases h with h | ⟨c, h⟩
        · rcases List.mem_cons.mp h with h | h
          · cases h; exact absurd rfl e
          · exact .inl h
        · exact .inr ⟨c, by rw [List.lookup_cons, beq_eq_false_iff_ne.mpr e]; exact h⟩
    · have : (k == NameKind.cell) = false := beq_eq_false_iff_ne.mpr hk
      simp only [this, Bool.false_eq_true, if_false]
      refine mem_cellsFrom ?_
      rcases h with h | h
      · rcases List.mem_cons.mp h with h | h
        · cases h; exact absurd rfl hk
        · exact .inl h
      · exact .inr h
theorem bindL_ne {k : Str → Option NameKind} : ∀ {binds : List (Str × Value)} {m : Str → Option Value} {x : Str}, (∀ y ∈ binds, y.1 ≠ x) → bindL k binds m x = m x
  | [], _, _, _ => rfl
  | (y, v) :: r, m, x, h => by
    show bindL k r (if k y = some .local then fun z => if z = y then some v else m z else m) x = m x
    rw [bindL_ne fun z hz => h z (.tail _ hz)]
    by_cases c : k y = some .local
    · rw [if_pos c]; exact if_neg fun e => h _ (.head _) e.symm
    · rw [if_neg c]
theorem bindC_ne {k : Str → Option NameKind} : ∀ {binds : List (Str × Value)} {m : Str → Option Value} {x : Str}, (∀ y ∈ binds, y.1 ≠ x) → bindC k binds m x = m x
  | [], _, _, _ => rfl
  | (y, v) :: r, m, x, h => by
    show bindC k r (if k y = some .local then m else fun z => if z = y then some v else m z) x = m x
    rw [bindC_ne fun z hz => h z (.tail _ hz)]
    by_cases c : k y = some .local
    · rw [if_pos c]
    · rw [if_neg c]; exact if_neg fun e => h _ (.head _) e.symm
theorem bind_at {k : Str → Option NameKind} : ∀ {nms : List Str} {vs : List Value} {m cm : Str → Option Value} {i : Nat} {x : Str} {v : Value}, nms.Nodup → nms[i]? = some x → vs[i]? = some v →
    (k x = some .local → bindL k (nms.zip vs) m x = some v) ∧ (k x ≠ some .local → bindC k (nms.zip vs) cm x = some v)
  | [], _, _, _, i, x, v, _, h, _ => by simp at h
  | _ :: _, [], _, _, i, x, v, _, _, h => by simp at h
  | y :: nms, u :: vs, m, cm, 0, x, v, hn, h1, h2 => by
    simp only [List.getElem?_cons_zero, Option.some.injEq] at h1 h2
    subst h1 h2
    rw [List.nodup_cons] at hn
    have hne : ∀ z ∈ nms.zip vs, z.1 ≠ y := fun z hz e => hn.1 (e ▸ (List.of_mem_zip hz).1)
    rw [List.zip_cons_cons]
    refine ⟨fun hk => ?_, fun hk => ?_⟩
    · show bindL k (nms.zip vs) (if k y = some .local then fun z => if z = y then some u else m z else m) y = some u
      rw [if_pos hk, bindL_ne hne]; exact if_pos rfl
    · show bindC k (nms.zip vs) (if k y = some .local then cm else fun z => if z = y then some u else cm z) y = some u
      rw [if_neg hk, bindC_ne hne]; exact if_pos rfl
  | y :: nms, u :: vs, m, cm, i + 1, x, v, hn, h1, h2 => by
    rw [List.getElem?_cons_succ] at h1 h2
    rw [List.nodup_cons] at hn
    exact bind_at (nms := nms) (vs := vs) hn.2 h1 h2
theorem apart_range {k : Nat} (h : Apart nms (List.range k)) {i j : Nat} {x : Str} (hi : i < k) (hj : j < k) (h1 : nms[i]? = some x) (h2 : nms[j]? = some x) : i = j := by
  have key : ∀ {i j : Nat}, i < j → j < k → nms[i]? = some x → nms[j]? = some x → False := fun {i j} hij hj h1 h2 => by
    have := List.pairwise_iff_getElem.mp h i j (by simp; lia) (by simp; lia) hij
    simp only [List.getElem_range] at this
    exact this (h1.trans h2.symm)
  rcases Nat.lt_trichotomy i j with h | h | h
  · exact (key h hj h1 h2).elim
  · exact h
  · exact (key h hi h2 h1).elim
theorem take_nodup {k m : Nat} (h : Apart nms (List.range k)) (hm : m ≤ k) (hl : k ≤ nms.length) : (nms.take m).Nodup := by
  rw [List.nodup_iff_pairwise_ne, List.pairwise_iff_getElem]
  intro i j hi hj hij e
  rw [List.length_take] at hi hj
  simp only [List.getElem_take] at e
  have a : i < nms.length := by lia
  have b : j < nms.length := by lia
  have := apart_range (x := nms[i]) h (i := i) (j := j) (by lia) (by lia) (List.getElem?_eq_getElem a) (by rw [List.getElem?_eq_getElem b, e])
  lia
end
end Mine
end
section
open PySem PySem.W PyProof.Rows
set_option Elab.async false
set_option maxRecDepth 100000
namespace Mine
section
variable {g : G} {n : Nat} {L : Lv} {A : Around} {M M' Mb Mb' : Addr → Prop} {P P' P₁ P₂ : Reg} {s s' s₁ s₂ : Shared} {env : Env} {nms : List Str} {tab : Nat → Option FnD}
theorem lkS_args {ps : List PV} {k i : Nat} : lkS (ps.map Slot.fz ++ List.replicate k .un) i = (match ps[i]? with | some p => .fz p | none => .un) := by
  unfold lkS
  rw [List.getD_eq_getElem?_getD]
  by_cases h : i < ps.length
  · rw [List.getElem?_append_left (by simpa using h), List.getElem?_map, List.getElem?_eq_getElem h]; rfl
  · rw [List.getElem?_append_right (by simpa using h), List.getElem?_eq_none (Nat.le_of_not_lt h)]
    simp only [List.length_map]
    by_cases h2 : i - ps.length < k
    · rw [List.getElem?_replicate, if_pos h2]; rfl
    · rw [List.getElem?_replicate, if_neg h2]; rfl
theorem fn_run (hE : ExOK g n L) (hz : FzOK L) (ok : g.OK) {f : Nat} {d : FnD} (fs : FnSpec g f d) {ps : List PV} {vs : List Value} {r : PV} {σ : St} (hlen : ps.length = d.np)
    (h : execs L.ex d.body ⟨ps.map .fz ++ List.replicate (d.nv - d.np) .un, P⟩ = some (.rt r, σ)) (rv : RlAll g.ap g.C M s.heap vs ps) (pr : Pre g (n + 1) A M P s) :
    codeAny (model g.prog g.w) A (.call (.ref (g.fa f)) ⟨vs, []⟩) (PostF g M P σ.reg s r) s := by
  (refine el34 (fs.ob) ?_; intro o fd body ho hd hbody hclo zr0; refine el04 zr0 ?_; clear zr0; intro hgl hbu hco hgen zr1; refine el04 zr1 ?_; clear zr1; intro hkind hcd hbind hcor hok)
  simp only [fnOk, Bool.and_eq_true] at hok
  (refine el01 hok ?_; try clear hok; intro zp0 k6; refine el01 zp0 ?_; clear zp0; intro zp1 k5; refine el01 zp1 ?_; clear zp1; intro zp2 k4; refine el01 zp2 ?_; clear zp2; intro zp3 k3; refine el01 zp3 ?_; clear zp3; intro k1 k2)
  have k3 := apart_of k3
  have k4 := Nat.le_of_ble_eq_true k4
  have k5 := Nat.le_of_ble_eq_true k5
  have k6 := Nat.le_of_ble_eq_true k6
  have hbase := pr.base ok
  have hvl : vs.length = d.np := rv.length.trans hlen
  have hnd := take_nodup k3 k4 k6
  have hat : ∀ {i : Nat} {x : Str}, i < d.nv0 → d.nms[i]? = some x → isLC (fd.scope.names.lookup x) = true := fun {i x} hi hx => by
    refine List.all_eq_true.mp k2 x ?_
    have : (d.nms.take d.nv0)[i]? = some x := by rw [List.getElem?_take]; simp [hi, hx]
    exact List.mem_of_getElem? this
  have hlc : ∀ {k : Option NameKind}, isLC k = true → k = some .local ∨ k = some .cell := fun {k} h => by
    cases k with
    | none => cases h
    | some k => cases k <;> first | exact .inl rfl | exact .inr rfl | cases h
  refine codeAny_call_cells (o := o) (fd := fd) (body := body) (binds := (d.nms.take d.np).zip vs) (by have := pr.a.2.1; show A.depth < 1000; lia) (hbase _ _ ho) hd (ok.lim.keeps hbase) (hcd.keeps hbase) hbody (hbind vs hvl) hclo (fun x hx => ?_) (fun s₁ ic => ?_) hco hgen hkind
  · (refine el01 (List.of_mem_zip (a := x.1) (b := x.2) hx) ?_; intro hm _)
    (refine el10 (List.getElem?_of_mem hm) ?_; intro i hi)
    rw [List.getElem?_take] at hi
    split at hi
    · rename_i hip
      rcases hlc (hat (Nat.lt_of_lt_of_le hip k4) hi) with e | e
      · exact .inl e
      · (refine el10 (mem_cellsFrom (n := s.heap.objs.size + 1) (acc := []) (.inl (mem_lookup e))) ?_; intro c hc)
        exact .inr ⟨e, by rw [hc]; rfl⟩
    · cases hi
  · generalize hev : callEnvC fd s.heap.objs.size (g.fa f) = env at ic
    have hLoc : env.locals = s.heap.objs.size := by rw [← hev]; rfl
    have hcells : env.cells = cellsFrom (s.heap.objs.size + 1) fd.scope.names [] := by rw [← hev]; rfl
    have hkindOf : ∀ x, env.kindOf x = fd.scope.names.lookup x := fun x => by rw [← hev]; rfl
    have hfresh : ∀ b, LC env b → s.heap.get? b = none := by
      rintro b (rfl | ⟨x, hx⟩)
      · rw [hLoc]; exact get_size _
      · have := ic.above x b (mem_of_lookup hx)
        cases e : s.heap.get? b with
        | none => rfl
        | some o => have := Heap.lt_size e; rw [hLoc] at *; exact absurd (Nat.lt_trans ‹_› this) (Nat.lt_irrefl _)
    have e0 : Ext0 s s₁ := ⟨ic.toInCall.same, fun b o _ h => ic.toInCall.keep b o h⟩
    let Mb : Addr → Prop := fun b => M b ∨ LC env b
    have hMbf : ∀ b, Mb b → M b ∨ s.heap.get? b = none := fun b h => h.imp id (hfresh b)
    have F : FS Mb env d.nms d.nv0 := by
      refine ⟨by rw [← hev]; exact hkind, by rw [← hev]; exact hgl, by rw [← hev]; exact hbu, .inr (.inl rfl), fun x hx => ?_, fun x c hc => .inr (.inr ⟨x, hc⟩), fun x y c hx hy => ?_, fun i j x hi hj h1 h2 => apart_range k3 hi hj h1 h2, k6⟩
      · rw [hkindOf] at hx ⊢
        have hc : fd.scope.names.lookup x = some .cell := by
          cases e : fd.scope.names.lookup x with
          | none => rw [e] at hx; cases hx
          | some k =>
            have := List.all_eq_true.mp k1 _ (mem_lookup e)
            rw [e] at hx
            cases k with
            | cell => rfl
            | free => simp at this
            | _ => cases hx
        refine ⟨hc, ?_⟩
        rw [hcells]
        exact mem_cellsFrom (.inl (mem_lookup hc))
      · exact name_of_addr ic.apart (mem_of_lookup hx) (mem_of_lookup hy)
    have pr₁ : Pre g n (A.deeper env) Mb P s₁ := by
      have p0 := pr.next0 ok e0
      have p1 : Pre g (n + 1) A Mb P s₁ := p0.add (fun a q => q.imp id fun q => ⟨?_, ?_⟩) fun a q => .inl q
      · exact p1.wkN pr.a.deeper
      · exact pr.free (hfresh a q)
      · rcases q with rfl | ⟨x, hx⟩
        · (refine el31 (ic.toInCall.ns) ?_; intro o _ _ ho _); exact ⟨o, ho⟩
        · (refine el11 (ic.cell x a hx) ?_; intro o ho _); exact ⟨o, ho⟩
    have hMO : MO Mb (fun _ => none) = Mb := by
      funext b
      refine propext ⟨fun h => ?_, fun h => .inl h⟩
      rcases h with h | ⟨i, h⟩
      · exact h
      · cases h
    have rv₁ : RlAll g.ap g.C Mb s₁.heap vs ps := rv.mono (fun a o _ h => e0.all a o h) hMbf
    have S : SO g n (A.deeper env) Mb env d.nms d.nv0 (fun _ => none) ⟨ps.map .fz ++ List.replicate (d.nv - d.np) .un, P⟩ s₁ := by
      refine ⟨by rw [hMO]; exact pr₁, fun h => .inl (pr.mr h), ⟨_, ic.toInCall.ns⟩, fun x c hc => ⟨_, ic.cell x c hc⟩, fun i x hi hx => ?_, fun i hi => ⟨?_, rfl⟩, by simp; lia, fun i a h => (nomatch h), fun i j a h => (nomatch h)⟩
      · rw [hMO, lkS_args]
        cases hp : ps[i]? with
        | none => exact .un
        | some p =>
          (refine el11 (rv₁.get hp) ?_; intro v hv hr)
          refine .fz ?_ hr
          have hip : i < d.np := by rw [← hlen]; exact (List.getElem?_eq_some_iff.mp hp).1
          have hx' : (d.nms.take d.np)[i]? = some x := by rw [List.getElem?_take]; simp [hip, hx]
          (refine el01 (bind_at (k := env.kindOf) (m := fun _ => none) (cm := fun _ => none) hnd hx' hv) ?_; intro b1 b2)
          refine ⟨fun q => (mk11 _ ic.toInCall.ns (b1 (local_of q))), fun q => ?_⟩
          (refine el01 (F.cells x q) ?_; intro hk zr0; refine el10 zr0 ?_; clear zr0; intro c hc)
          refine (mk11 c hc ?_)
          have := ic.cell x c hc
          rw [b2 (by rw [hk]; decide)] at this
          exact this
      · rw [lkS_args]
        rw [List.getElem?_eq_none (by lia)]
    have sk : ScOK fd.scope.names env := fun x => by rw [hkindOf]
    refine wpAny_mono (execs_step hE hz ok hcor h sk F S) (fun fl s₂ q => ?_) fun _ _ q => q.elim
    (refine el14 q ?_; try clear q; intro ow' S' x' hw' hs' zr0; refine el01 zr0 ?_; clear zr0; intro _ hf)
    cases hf with
    | @rt p v hr =>
      refine (mk14 v rfl ?_ (hr.mono (fun _ _ _ e => e) fun b q => .inl (.inl q)) S'.pr.reg hs')
      refine (e0.wk (Y := XR g P) fun _ q => q.elim).step x' (fun _ q => q) fun b q => ?_
      rcases q with q | q | ⟨i, q⟩
      · exact .inl q
      · exact .inr (hfresh b q)
      · cases q
end
end Mine
end
section
open PySem PySem.W PyProof.Rows
set_option Elab.async false
set_option maxRecDepth 100000
namespace Mine
section
variable {g : G} {n : Nat} {L : Lv} {P P' : Reg} {tab : Nat → Option FnD}
theorem fn_step (hE : ExOK g n L) (hz : FzOK L) (ok : g.OK) (hF : ∀ f d, tab f = some d → FnSpec g f d) : FnOK g (n + 1) (⟨L.ev, L.evT, L.ex, stepFn tab L⟩ : Lv) := by
  intro f ps P P' r h
  delta stepFn at h
  refine bd_el h fun d hd h => if_el h fun hlen h => ifS_el h fun fl σ hex h => ?_
  have fs := hF f d hd
  cases fl with
  | nx => exact ns_ h
  | br => exact ns_ h
  | ct => exact ns_ h
  | rt p =>
    refine sp_el h ⟨⟨fs.glob, ?_⟩, fun rv pr => fn_run hE hz ok fs hlen hex rv pr⟩
    exact el32 fs.ob fun o fd body ho hd _ => mk21 o fd (ok.base _ _ ho) hd
end
end Mine
end
section
open PySem PySem.W PyProof.Rows
set_option Elab.async false
set_option maxRecDepth 100000
namespace Mine
section
variable {g : G} {srt : List PV → Option (List PV)} {tab : Nat → Option FnD} {n : Nat}
theorem lv_ev : (lv srt tab (n + 1)).ev = stepEv (lv srt tab n) srt := rfl
theorem lv_evT : (lv srt tab (n + 1)).evT = stepEvT (lv srt tab n) := rfl
theorem lv_ex : (lv srt tab (n + 1)).ex = stepEx (lv srt tab n) := rfl
theorem lv_fn : (lv srt tab (n + 1)).fn = stepFn tab (lv srt tab n) := rfl
theorem lv_ev0 (x : X) (ρ : Vw) (P : Reg) : (lv srt tab 0).ev x ρ P = none := rfl
theorem lv_evT0 (x : X) (ρ : Vw) (P : Reg) : (lv srt tab 0).evT x ρ P = none := rfl
theorem lv_ex0 (s : S) (σ : St) : (lv srt tab 0).ex s σ = none := rfl
theorem lv_fn0 (f : Nat) (l : List PV) (P : Reg) : (lv srt tab 0).fn f l P = none := rfl
structure LvOK (g : G) (n : Nat) (L : Lv) : Prop where
  ev : EvOK g n L
  evT : EvTOK g n L
  comp : CompOK g n L
  ex : ExOK g n L
  fz : FzOK L
  fn : FnOK g n L
theorem lv_zero : LvOK g 0 (lv srt tab 0) where
  ev := by
    intro x e sc nms _ ρ P P' p h
    rw [lv_ev0] at h; cases h
  evT := by
    intro x e sc nms _ ρ P P' p h
    rw [lv_evT0] at h; cases h
  comp := by
    intro x le gens scope p sc nms _ ρ P P' v h
    rw [lv_ev0] at h; cases h
  ex := by
    intro st t sc nms nv0 _ σ σ' fl h
    rw [lv_ex0] at h; cases h
  fz := by
    intro i σ σ' fl h
    rw [lv_ex0] at h; cases h
  fn := by
    intro f ps P P' r h
    rw [lv_fn0] at h; cases h
theorem lv_succ (ok : g.OK) (hS : SortOK g srt) (hF : ∀ f d, tab f = some d → FnSpec g f d) (k : LvOK g n (lv srt tab n)) : LvOK g (n + 1) (lv srt tab (n + 1)) where
  ev := by
    intro x e sc nms hc ρ P P' p h
    rw [lv_ev] at h
    exact ev_step k.ev k.evT k.fn ok hS hc h
  evT := by
    intro x e sc nms hc ρ P P' p h env A M s sk fr pr
    rw [lv_evT] at h
    exact evT_step k.ev k.evT ok hc h sk fr pr.pred
  comp := by
    intro x le gens scope p sc nms hc ρ P P' v h
    rw [lv_ev] at h
    exact comp_step k.ev k.evT ok hc h
  ex := by
    intro st t sc nms nv0 hc σ σ' fl h
    rw [lv_ex] at h
    exact ex_step k.ev k.evT k.comp k.ex k.fz ok hc h
  fz := by
    intro i σ σ' fl h
    rw [lv_ex] at h
    delta stepEx at h
    exact Slot.ow_el h fun p e h => sp_el (motive := fun fl σ' => fl = .nx ∧ ∃ p, lkS σ.loc i = .ow p ∧ σ' = ⟨σ.loc.set i (.fz p), σ.reg⟩) h (mk01 rfl (mk11 p e rfl))
  fn := by
    intro f ps P P' r h
    rw [lv_fn] at h
    exact fn_step k.ex k.fz ok hF h
theorem lv_ok (ok : g.OK) (hS : SortOK g srt) (hF : ∀ f d, tab f = some d → FnSpec g f d) : ∀ n, LvOK g n (lv srt tab n)
  | 0 => lv_zero
  | n + 1 => lv_succ ok hS hF (lv_ok ok hS hF n)
end
end Mine
end
section
open PySem PySem.W PyProof.Rows
set_option Elab.async false
set_option maxRecDepth 100000
namespace Mine
noncomputable def ckFn (fname : Nat → Str) (d : FnD) (names : Sc) (body : List Stmt) : Bool := ckSs (ksN d.nms d.nv0 names (ckN d.nms fname 40) 40) d.body body && fnOk d names
theorem ckFn_ok {fname : Nat → Str} {d : FnD} {names : Sc} {body : List Stmt} (h : ckFn fname d names body = true) : CorSs d.nms fname d.nv0 names d.body body ∧ fnOk d names = true :=
  ⟨ckSs_ok (all2 h).1, (all2 h).2⟩
end Mine
end
section
open PySem PySem.W PyProof.Rows
set_option Elab.async false
set_option maxRecDepth 100000
namespace Mine
noncomputable def runT {α : Type} : KasT α → (Nat → Nat → Bool) → α
  | .ret a, _ => a
  | .ask i j k, f => runT (k (f i j)) f
noncomputable def symLt (i j : Nat) : Bool := decide ((st i).cps.toList < (st j).cps.toList)
noncomputable def ltT : PV → PV → Bool
  | .tup [.sym a, .int i], .tup [.sym b, .int j] => if Nat.beq a b then decide (i < j) else symLt a b
  | _, _ => false
noncomputable def okT : PV → Bool
  | .tup [.sym a, .int _] => Nat.blt a stN
  | _ => false
noncomputable def srtF (l : List PV) : Option (List PV) :=
  if l.all okT && decide (l.length < 64) then some (if l.length < 2 then l else (runT (kas_sort l.length) fun i j => ltT (l.getD i .none) (l.getD j .none)).toList.map fun i => l.getD i .none) else none
noncomputable def InT {α : Type} (n : Nat) : KasT α → Prop
  | .ret _ => True
  | .ask i j k => i < n ∧ j < n ∧ ∀ b, InT n (k b)
noncomputable def EndT {α : Type} (P : α → Prop) : KasT α → Prop
  | .ret a => P a
  | .ask _ _ k => ∀ b, EndT P (k b)
theorem InT.bind {α β : Type} {n : Nat} {f : α → KasT β} {P : α → Prop} (hf : ∀ a, P a → InT n (f a)) : ∀ {t : KasT α}, InT n t → EndT P t → InT n (t.bind f)
  | .ret a, _, e => hf a e
  | .ask i j k, h, e => ⟨h.1, h.2.1, fun b => InT.bind hf (h.2.2 b) (e b)⟩
theorem EndT.bind {α β : Type} {f : α → KasT β} {P : α → Prop} {Q : β → Prop} (hf : ∀ a, P a → EndT Q (f a)) : ∀ {t : KasT α}, EndT P t → EndT Q (t.bind f)
  | .ret a, e => hf a e
  | .ask i j k, e => fun b => EndT.bind hf (e b)
noncomputable def AllLt (n : Nat) (p : Array Nat) : Prop := ∀ x ∈ p, x < n
section
variable {n : Nat} {p : Array Nat}
theorem AllLt.get (h : AllLt n p) (hn : 0 < n) (i : Nat) : p.getD i 0 < n := by
  by_cases hi : i < p.size
  · have : p.getD i 0 = p[i] := by simp [Array.getD, hi]
    rw [this]; exact h _ (Array.getElem_mem hi)
  · have : p.getD i 0 = 0 := by simp [Array.getD, hi]
    rw [this]; exact hn
theorem AllLt.perm {q : Array Nat} (h : AllLt n p) (hp : q.Perm p) : AllLt n q := fun x hx => h x (hp.mem_iff.mp hx)
theorem AllLt.rev (h : AllLt n p) (i j : Nat) : AllLt n (kas_rev p i j) := h.perm (mirror_perm ..)
theorem asc_ok (h : AllLt n p) (hn : 0 < n) : ∀ (f m : Nat), InT n (kas_asc p f m)
  | 0, _ => trivial
  | f + 1, m => ⟨h.get hn _, h.get hn _, fun b => by
      cases b
      · exact asc_ok h hn f (m + 1)
      · trivial⟩
theorem asc_end : ∀ (f m : Nat), EndT (fun _ => True) (kas_asc p f m)
  | 0, _ => trivial
  | f + 1, m => fun b => by
      cases b
      · exact asc_end f (m + 1)
      · trivial
theorem desc_ok (hn : 0 < n) : ∀ (f : Nat) {p : Array Nat} (m q : Nat), AllLt n p → InT n (kas_desc f p m q)
  | 0, _, _, _, _ => trivial
  | f + 1, p, m, q, h => ⟨h.get hn _, h.get hn _, fun b => by
      cases b
      · refine ⟨h.get hn _, h.get hn _, fun c => ?_⟩
        cases c
        · exact desc_ok hn f (m + 1) (q + 1) h
        · trivial
      · show InT n (if q > 0 then _ else _)
        split
        · exact desc_ok hn f (m + 1) 0 (h.rev _ _)
        · exact desc_ok hn f (m + 1) 0 h⟩
theorem desc_end : ∀ (f : Nat) {p : Array Nat} (m q : Nat), AllLt n p → EndT (fun r : Array Nat × Nat × Nat => AllLt n r.1) (kas_desc f p m q)
  | 0, _, _, _, h => h
  | f + 1, p, m, q, h => fun b => by
      cases b
      · intro c
        cases c
        · exact desc_end f (m + 1) (q + 1) h
        · exact h
      · show EndT _ (if q > 0 then _ else _)
        split
        · exact desc_end f (m + 1) 0 (h.rev _ _)
        · exact desc_end f (m + 1) 0 h
theorem tail3_ok (h : AllLt n p) (hn : 0 < n) (m k : Nat) : InT n (kas_tail3 m k p) := by
  unfold kas_tail3
  exact InT.bind (f := fun m' => KasT.ret (m', kas_rev p 0 m)) (P := fun _ => True) (fun _ _ => (trivial : InT n (KasT.ret _))) (asc_ok (h.rev 0 m) hn _ _) (asc_end _ _)
theorem tail3_end (h : AllLt n p) (m k : Nat) : EndT (fun r : Nat × Array Nat => AllLt n r.2) (kas_tail3 m k p) := by
  unfold kas_tail3
  exact EndT.bind (f := fun m' => KasT.ret (m', kas_rev p 0 m)) (P := fun _ => True) (fun _ _ => (show EndT (fun r : Nat × Array Nat => AllLt n r.2) (KasT.ret (_, kas_rev p 0 m)) from h.rev 0 m)) (asc_end _ _)
theorem descPart_ok (h : AllLt n p) (hn : 0 < n) (m k : Nat) : InT n (kas_descPart m k p) := by
  refine InT.bind (fun r hr => ?_) (desc_ok hn _ _ _ h) (desc_end _ _ _ h)
  split
  · exact tail3_ok (hr.rev _ _) hn _ _
  · exact tail3_ok hr hn _ _
theorem descPart_end (h : AllLt n p) (m k : Nat) : EndT (fun r : Nat × Array Nat => AllLt n r.2) (kas_descPart m k p) := by
  refine EndT.bind (fun r hr => ?_) (desc_end _ _ _ h)
  split
  · exact tail3_end (hr.rev _ _) _ _
  · exact tail3_end hr _ _
theorem count_ok (h : AllLt n p) (hn : 0 < n) (k : Nat) : InT n (kas_count k p) := by
  refine InT.bind (P := fun _ => True) (fun m _ => ?_) (asc_ok h hn _ _) (asc_end _ _)
  split
  · trivial
  · split
    · refine ⟨h.get hn _, h.get hn _, fun b => ?_⟩
      cases b
      · exact descPart_ok (h.rev _ _) hn _ _
      · trivial
    · exact descPart_ok h hn _ _
theorem count_end (h : AllLt n p) (k : Nat) : EndT (fun r : Nat × Array Nat => AllLt n r.2) (kas_count k p) := by
  refine EndT.bind (P := fun _ => True) (fun m _ => ?_) (asc_end _ _)
  split
  · exact h
  · split
    · intro b
      cases b
      · exact descPart_end (h.rev _ _) _ _
      · exact h
    · exact descPart_end h _ _
theorem place_ok (h : AllLt n p) (hn : 0 < n) (k : Nat) : ∀ (f l r : Nat), InT n (kas_place p k f l r)
  | 0, _, _ => trivial
  | f + 1, l, r => by
    unfold kas_place
    split
    · trivial
    · refine ⟨h.get hn _, h.get hn _, fun b => ?_⟩
      cases b
      · exact place_ok h hn k f _ _
      · exact place_ok h hn k f _ _
theorem place_end (k : Nat) : ∀ (f l r : Nat), EndT (fun _ => True) (kas_place p k f l r)
  | 0, _, _ => trivial
  | f + 1, l, r => by
    unfold kas_place
    split
    · trivial
    · intro b
      cases b
      · exact place_end k f _ _
      · exact place_end k f _ _
theorem bin_ok (hn : 0 < n) : ∀ (f : Nat) {p : Array Nat} (k : Nat), AllLt n p → InT n (kas_bin f p k)
  | 0, _, _, _ => trivial
  | f + 1, p, k, h => InT.bind (P := fun _ => True) (fun _ _ => bin_ok hn f (k + 1) (h.perm (bubble_perm ..))) (place_ok h hn k _ _ _) (place_end k _ _ _)
theorem sort_ok (hn : 0 < n) : InT n (kas_sort n) := by
  have h : AllLt n (List.toArray (List.range n)) := fun x hx => by simpa using hx
  refine InT.bind (fun r hr => ?_) (count_ok h hn n) (count_end h n)
  split
  · exact bin_ok hn _ _ hr
  · trivial
end
section
variable {prog : Program} {w : World} {A : Around} {E : Value → Shared → Prop} {s : Shared}
theorem run_tree {α : Type} {cmp : Nat → Nat → (Bool → Shared → Prop) → Shared → Prop} {lt : Nat → Nat → Bool} {n : Nat} {h : Heap} {Q : α → Shared → Prop}
    (hc : ∀ i j C s, i < n → j < n → s.heap = h → (∀ tk, C (lt i j) { s with toks := tk }) → cmp i j C s) : ∀ {t : KasT α} {s : Shared}, InT n t → s.heap = h → (∀ tk, Q (runT t lt) { s with toks := tk }) → t.kasWp cmp Q s
  | .ret a, s, _, _, hQ => hQ s.toks
  | .ask i j k, s, hi, hh, hQ => hc i j _ s hi.1 hi.2.1 hh fun tk => run_tree hc (hi.2.2 _) hh fun tk' => hQ tk'
end
end Mine
end
section
open PySem PySem.W PyProof.Rows
set_option Elab.async false
set_option maxRecDepth 100000
namespace Mine
section
variable {prog : Program} {w : World} {A : Around} {ap C₀ : Addr} {M : Addr → Prop}
theorem okT_is {p : PV} (h : okT p = true) : ∃ a i, p = .tup [.sym a, .int i] ∧ a < stN := by
  cases p <;> first | exact ff_ h | skip
  rename_i l
  cases l with
  | nil => exact ff_ h
  | cons x l => cases x <;> first | exact ff_ h | skip
                rename_i a
                cases l with
                | nil => exact ff_ h
                | cons y l => cases y <;> first | exact ff_ h | skip
                              rename_i i
                              cases l with
                              | nil => exact mk21 a i rfl (Nat.le_of_ble_eq_true h)
                              | cons => exact ff_ h
theorem two_is {h : Heap} {vs : List Value} {a : Nat} {i : Int} (r : RlAll ap C₀ M h vs [.sym a, .int i]) : ∃ t u, vs = [.str (st a) t, .int i u] :=
  RlAll.cons_el (motive := fun vs => ∃ t u, vs = [.str (st a) t, .int i u]) r fun v _ x r => RlAll.cons_el (motive := fun vs => ∃ t u, v :: vs = [.str (st a) t, .int i u]) r fun w _ y r =>
    r.nil_inv ▸ Rl.sym_el (motive := fun v => ∃ t u, [v, w] = [.str (st a) t, .int i u]) x fun t _ => Rl.int_el (motive := fun w => ∃ t' u, [.str (st a) t, w] = [.str (st a) t', .int i u]) y fun u => mk20 t u rfl
theorem pair_is {h : Heap} {v : Value} {p : PV} (hp : okT p = true) (r : Rl ap C₀ M h v p) : ∃ a i t u x o xs n, p = .tup [.sym a, .int i] ∧ a < stN ∧ v = .ref x ∧ h.get? x = some o ∧ o.cls = .type "tuple" ∧ o.data = .seq xs n ∧ xs.toList = [.str (st a) t, .int i u] := by
  (refine el21 (okT_is hp) ?_; intro a i zq0 ha; subst zq0)
  cases r with
  | tup _ ho hl =>
    (refine el12 ho ?_; try clear ho; intro o e c zr0; refine el10 zr0 ?_; clear zr0; intro n d)
    (refine el20 (two_is hl) ?_; intro t u e')
    exact (mk40 a i t u (mk44 _ o _ n rfl ha rfl e (mk02 c d e')))
theorem lt_pairs {s : Shared} {p q : PV} {v u : Value} {Q : Bool → Shared → Prop} (hp : okT p = true) (hq : okT q = true) (rp : Rl ap C₀ M s.heap v p) (rq : Rl ap C₀ M s.heap u q) (h : ∀ tk, Q (ltT p q) { s with toks := tk }) :
    wpAny (model prog w) A (keyLt' (tuples' true) v u) Q NoE s := by
  (refine el40 (pair_is hp rp) ?_; intro a i t t' zr2; refine el44 zr2 ?_; clear zr2; intro x o xs n zq0 ha zq1 ho zr3; refine el02 zr3 ?_; clear zr3; intro hc hd hx; subst zq0; subst zq1)
  (refine el40 (pair_is hq rq) ?_; intro b j t2 t2' zr2; refine el44 zr2 ?_; clear zr2; intro y o2 ys n2 zq0 hb zq1 ho2 zr3; refine el02 zr3 ?_; clear zr3; intro hc2 hd2 hy; subst zq0; subst zq1)
  have h0 := h s.toks
  refine kat_lt ho hd ho2 hd2 ?_
  rw [hx, hy]
  have hl : ltT (.tup [.sym a, .int i]) (.tup [.sym b, .int j]) = if Nat.beq a b then decide (i < j) else symLt a b := rfl
  rw [hl] at h0
  have se := st_inj a ha b hb
  refine kat_cons (wpAny_eqBool_str ?_)
  by_cases e : Nat.beq a b = true
  · rw [e] at h0 se
    rw [show decide (st a = st b) = true from decide_eq_true (by simpa using se)]
    refine kat_yes (kat_cons (wpAny_eqBool_int ?_))
    refine kat_go (fun e2 => kat_yes (kat_nil ?_)) fun e2 => kat_no (kat_one _ _ (lt_int (show W.BoolBack _ (Value.bool (decide (i < j))) _ from ?_)))
    · have hij : i = j := by simpa using e2
      have : xs.size = ys.size := by rw [← Array.length_toList, ← Array.length_toList, hx, hy]; rfl
      rw [this]
      simp only [if_true, hij, Int.lt_irrefl, decide_false] at h0
      simpa using h0
    · exact h0
  · have e' : Nat.beq a b = false := Bool.eq_false_iff.mpr e
    rw [e'] at h0 se
    rw [show decide (st a = st b) = false from decide_eq_false (by simpa using se)]
    exact kat_no (oneLt_str (by simpa [symLt] using h0))
theorem tups_are {h : Heap} : ∀ {l : List PV} {vs : List Value}, l.all okT = true → RlAll ap C₀ M h vs l → ∃ fs, KatTups h vs fs ∧ fs.length = l.length ∧ ∀ v ∈ fs, ∃ a t, v = .str a t
  | [], _, _, r => r.nil_inv ▸ (mk12 ([]) KatTups.nil rfl (fun _ q => nomatch q))
  | p :: l, _, hl, r => by
    refine RlAll.cons_el (motive := fun vs => ∃ fs, KatTups h vs fs ∧ fs.length = (p :: l).length ∧ ∀ v ∈ fs, ∃ a t, v = .str a t) r fun v vs x r => ?_
    rw [List.all_cons, Bool.and_eq_true] at hl
    (refine el12 (tups_are hl.2 r) ?_; intro fs k e f)
    (refine el40 (pair_is hl.1 x) ?_; intro a i t u zr2; refine el44 zr2 ?_; clear zr2; intro y o xs n zq0 ha zq1 ho zr3; refine el02 zr3 ?_; clear zr3; intro hc hd hx; subst zq0; subst zq1)
    refine (mk12 (.str (st a) t :: fs) (KatTups.cons ho hc hd ?_ k) (by rw [List.length_cons, List.length_cons, e]) (fun v hv => ?_))
    · rw [← Array.getElem?_toList, hx]; rfl
    · rcases List.mem_cons.mp hv with rfl | hv
      · exact (mk20 _ _ rfl)
      · exact f v hv
theorem RlAll.getD {h : Heap} {vs : List Value} {l : List PV} (r : RlAll ap C₀ M h vs l) (i : Nat) : Rl ap C₀ M h (vs.getD i Value.none) (l.getD i .none) := by
  cases e : l[i]? with
  | none =>
    have : vs[i]? = none := by
      rw [List.getElem?_eq_none_iff] at e ⊢
      rw [r.length]; exact e
    rw [List.getD_eq_getElem?_getD, List.getD_eq_getElem?_getD, e, this]
    exact .none
  | some p =>
    (refine el11 (r.get e) ?_; intro v e1 e2)
    rw [List.getD_eq_getElem?_getD, List.getD_eq_getElem?_getD, e, e1]
    exact e2
theorem RlAll.pick {h : Heap} {vs : List Value} {l : List PV} (r : RlAll ap C₀ M h vs l) : ∀ is : List Nat, RlAll ap C₀ M h (is.map fun i => vs.getD i Value.none) (is.map fun i => l.getD i .none)
  | [] => .nil
  | i :: is => .cons (r.getD i) (r.pick is)
theorem all_at {l : List PV} (h : l.all okT = true) {i : Nat} (hi : i < l.length) : okT (l.getD i .none) = true := by
  rw [List.getD_eq_getElem?_getD, List.getElem?_eq_getElem hi]
  exact List.all_eq_true.mp h _ (List.getElem_mem hi)
theorem sort_asks {s : Shared} {vs : List Value} {l : List PV} (ho : l.all okT = true) (h2 : 2 ≤ l.length) (r : RlAll ap C₀ M s.heap vs l) {Q : Array Nat → Shared → Prop}
    (h : ∀ tk, Q (runT (kas_sort l.length) fun i j => ltT (l.getD i .none) (l.getD j .none)) { s with toks := tk }) :
    wpAny (model prog w) A (keyKind' vs.toArray) (fun κ s' => (kas_sort vs.length).kasWp (kas_ask prog w A κ vs) Q s') NoE s := by
  (refine el12 (tups_are ho r) ?_; intro fs k e f)
  refine kat_kind (T := .type "str") k (by lia) (fun v hv => ?_) rfl ?_
  · (refine el20 (f v hv) ?_; intro a t zq0; subst zq0)
    exact Looks.of_pure rfl
  · rw [r.length]
    refine run_tree (h := s.heap) (n := l.length) (fun i j C s' hi hj hs hC => ?_) (sort_ok (by lia)) rfl h
    have r' : RlAll ap C₀ M s'.heap vs l := by rw [hs]; exact r
    exact lt_pairs (all_at ho hi) (all_at ho hj) (r'.getD i) (r'.getD j) hC
end
end Mine
end
section
open PySem PySem.W PySem.Calls PyProof.Rows
set_option Elab.async false
set_option maxRecDepth 100000
namespace Mine
section
variable {prog : Program} {w : World} {A : Around} {E : Value → Shared → Prop} {ap C₀ : Addr} {M : Addr → Prop}
theorem keep_update {h : Heap} {a : Addr} {f : Obj → Obj} {b : Addr} {o : Obj} (hb : b ≠ a) (e : h.get? b = some o) : (h.update a f).get? b = some o := by
  rw [Heap.get?_update_ne _ _ _ _ hb]; exact e
theorem srtF_is {l r : List PV} (h : srtF l = some r) : l.all okT = true ∧ l.length < 64 ∧ r = if l.length < 2 then l else (runT (kas_sort l.length) fun i j => ltT (l.getD i .none) (l.getD j .none)).toList.map fun i => l.getD i .none := by
  unfold srtF at h
  split at h
  · rename_i e
    rw [Bool.and_eq_true] at e
    exact ⟨e.1, of_decide_eq_true e.2, (Option.some.inj h).symm⟩
  · cases h
theorem list_sort_ok {s s₀ : Shared} {a : Addr} {n : Nat} {vs : List Value} {l r : List PV} (hr : srtF l = some r) (ho : s.heap.get? a = some (seqObj "list" vs.toArray n)) (hx : Ext0 s₀ s) (ha : s₀.heap.get? a = none) (hM : MA M s₀.heap)
    (hl : RlAll ap C₀ M s₀.heap vs l) {P : PySem.Fin → Shared → Prop} (h : ∀ s', Res ap C₀ M s₀ (.list r) (.ref a) s' → P (.done (.ret .none)) s') :
    wpAny (model prog w) A (Builtin.«list.sort» ⟨[.ref a], []⟩) P E s := by
  (refine el02 (srtF_is hr) ?_; intro hall h64 hr)
  have hlen := hl.length
  (refine el10 (⟨_, get?_update_seq ho fun _ => #[]⟩ : ∃ e1, (s.heap.update a (Obj.mapSeq fun _ => (#[] : Array Value))).get? a = some (seqObj "list" #[] e1)) ?_; intro e1 ho1)
  have keep : ∀ b o, s₀.heap.get? b = some o → (((s.heap.update a (Obj.mapSeq fun _ => (#[] : Array Value))).push (seqObj "tuple" vs.toArray 0)).push (seqObj "list" #[] 0)).get? b = some o := fun b o e =>
    Heap.get?_push_of_some _ (Heap.get?_push_of_some _ (keep_update (fun q => by subst q; rw [ha] at e; cases e) (hx.all b o e)))
  (refine el20 (hx.same) ?_; intro h0 tk0 zq0; subst zq0)
  rw [list_sort_plain]
  refine wpAny_bind (listItems_at ho rfl ?_)
  refine wpAny_bind (listUpdate_at ho rfl ?_ (by rw [List.size_toArray, sizeLine_eq]; lia) (Nat.zero_le _))
  refine wpAny_bind (seqEpoch_at ho1 rfl ?_)
  refine wpAny_bind (wpAny_newTuple ?_ (by show vs.length ≤ _; rw [sizeLine_eq]; lia))
  refine wpAny_bind (wpAny_newList ?_ (Nat.zero_le _))
  refine wpAny_holding ?_
  dsimp only
  have hn3 : (((h0.update a (Obj.mapSeq fun _ => (#[] : Array Value))).push (seqObj "tuple" vs.toArray 0)).push (seqObj "list" #[] 0)).get? a = some (seqObj "list" #[] e1) := Heap.get?_push_of_some _ (Heap.get?_push_of_some _ ho1)
  -- the end: what has come out is written back
  have fin : ∀ {tk : Nat} {out : List Value} {st : SortSt}, (arrOf st).map (·.2) = out.toArray → failedOf st = none → out.length < 64 → RlAll ap C₀ M s₀.heap out r →
      wpAny (model prog w) A (do
        let sorted := (arrOf st).map (·.2)
        let touched := (← seqEpoch a) != e1
        Builtin.List.listUpdate (.ref a) fun _ => sorted
        if let some e := failedOf st then rule "list.sort.comparison-raised"; throw e
        if touched then rule "list.sort.modified"; raiseError "ValueError" "list modified during sort"
        ret .none) P E { s₀ with heap := (((h0.update a (Obj.mapSeq fun _ => (#[] : Array Value))).push (seqObj "tuple" vs.toArray 0)).push (seqObj "list" #[] 0)), toks := tk } := by
    intro tk out st hout hf hz hrl
    dsimp only
    rw [hout, hf]
    refine wpAny_bind (seqEpoch_at hn3 rfl ?_)
    refine wpAny_bind (listUpdate_at hn3 rfl ?_ (Nat.zero_le _) (by rw [List.size_toArray, sizeLine_eq]; lia))
    simp only [bne_self_eq_false, Bool.false_eq_true, if_false]
    refine wpAny_pure (h _ ?_)
    (refine el10 (⟨_, get?_update_seq hn3 fun _ => out.toArray⟩ : ∃ c2, ((((h0.update a (Obj.mapSeq fun _ => (#[] : Array Value))).push (seqObj "tuple" vs.toArray 0)).push (seqObj "list" #[] 0)).update a (Obj.mapSeq fun _ => out.toArray)).get? a = some (seqObj "list" out.toArray c2)) ?_; intro c2 hc2)
    have x2 : Ext0 s₀ { s₀ with heap := ((((h0.update a (Obj.mapSeq fun _ => (#[] : Array Value))).push (seqObj "tuple" vs.toArray 0)).push (seqObj "list" #[] 0)).update a (Obj.mapSeq fun _ => out.toArray)), toks := tk } :=
      Ext0.of s₀ fun b o e => keep_update (fun q => by subst q; rw [ha] at e; cases e) (keep b o e)
    exact ⟨x2, .list (hM.not ha) (mk12 _ hc2 rfl (mk10 _ rfl)) (by simpa using hrl.ext0 x2)⟩
  by_cases h2 : l.length < 2
  · rw [if_pos h2] at hr
    subst hr
    have hn2 : vs.toArray.size < 2 := by rw [List.size_toArray]; lia
    rw [if_pos hn2, if_pos hn2]
    refine wpAny_bind (wpAny_pure ?_)
    refine wpAny_bind (wpAny_pure ?_)
    refine fin (out := vs) ?_ rfl (by lia) hl
    show (vs.toArray.zip vs.toArray).map (·.2) = vs.toArray
    apply Array.toList_inj.mp
    rw [Array.toList_map, ksk_zip]
    show (List.zipWith Prod.mk vs vs).map (·.2) = vs
    clear fin hl ho keep ho1 hn3 hn2 hlen
    induction vs with
    | nil => rfl
    | cons v vs ih => rw [List.zipWith_cons_cons, List.map_cons, ih]
  · rw [if_neg h2] at hr
    subst hr
    have hn2 : ¬ vs.toArray.size < 2 := by rw [List.size_toArray]; lia
    rw [if_neg hn2, if_neg hn2]
    have hk : RlAll ap C₀ M ({ s₀ with heap := (((h0.update a (Obj.mapSeq fun _ => (#[] : Array Value))).push (seqObj "tuple" vs.toArray 0)).push (seqObj "list" #[] 0)), toks := tk0 } : Shared).heap vs l := hl.ext0 (Ext0.of s₀ keep)
    have ask := sort_asks (prog := prog) (w := w) (A := A) (s := { s₀ with heap := (((h0.update a (Obj.mapSeq fun _ => (#[] : Array Value))).push (seqObj "tuple" vs.toArray 0)).push (seqObj "list" #[] 0)), toks := tk0 }) hall (by lia) hk
      (Q := fun p s' => p = runT (kas_sort l.length) (fun i j => ltT (l.getD i .none) (l.getD j .none)) ∧ ∃ tk, s' = { s₀ with heap := (((h0.update a (Obj.mapSeq fun _ => (#[] : Array Value))).push (seqObj "tuple" vs.toArray 0)).push (seqObj "list" #[] 0)), toks := tk }) fun tk => (mk01 rfl (mk10 tk rfl))
    refine wpAny_bind (wpAny_mono ask (fun κ s1 hk1 => ?_) fun _ _ x => x.elim)
    refine wpAny_bind (wpAny_mono (kat_run (Q := fun st' s' => ∃ p : Array Nat, p.size = vs.length ∧ arrOf st' = p.map (kas_item (vs.toArray.zip vs.toArray)) ∧ failedOf st' = none ∧ (p = runT (kas_sort l.length) (fun i j => ltT (l.getD i .none) (l.getD j .none)) ∧ ∃ tk, s' = { s₀ with heap := (((h0.update a (Obj.mapSeq fun _ => (#[] : Array Value))).push (seqObj "tuple" vs.toArray 0)).push (seqObj "list" #[] 0)), toks := tk }))
      rfl (by lia) (by lia) (fun p' st' s' a1 a2 a3 a4 => (mk13 p' a1 a2 a3 a4)) hk1) ?_ fun _ _ e => e)
    rintro ⟨⟨⟩, st'⟩ s' ⟨p, hp, har, hf, rfl, tk, rfl⟩
    exact fin (kat_snds rfl har) hf (by rw [List.length_map, Array.length_toList, hp]; lia) (hl.pick _)
theorem sort_srt (g : G) : SortOK g srtF := by
  intro l r hr A M s v hA hu hM rv
  cases rv with
  | @list b vs _ nb hb hl =>
    have h64 := (srtF_is hr).2.1
    have hlen := hl.length
    have hl' : s.heap.IsList b vs.toList.toArray := by rw [Array.toArray_toList]; exact hb
    refine Calls.call_function_entry kind_sorted plain_sorted entry_sorted (args_sorted1 _) ?_
    unfold Builtin.«sorted»
    refine wpAny_bind (m := checkCount "sorted" 1 1 _) (wpAny_pure ?_)
    refine wpAny_bind (collect_list hl' ?_ (by rw [sizeLine_eq]; lia))
    refine wpAny_bind (wpAny_newList ?_ (by rw [sizeLine_eq]; lia))
    have hsz : ((s.heap.push (seqObj "list" #[] 0)).update s.heap.objs.size (Obj.mapSeq (· ++ vs.toList.toArray))).objs.size = s.heap.objs.size + 1 := by
      rw [Heap.size_update, size_push']
    have hoL : (((s.heap.push (seqObj "list" #[] 0)).update s.heap.objs.size (Obj.mapSeq (· ++ vs.toList.toArray))).push (seqObj "list" vs.toList.toArray 0)).get? (s.heap.objs.size + 1) = some (seqObj "list" vs.toList.toArray 0) := by
      rw [← hsz]; exact Heap.get?_push_size _ rfl
    have keep : ∀ b o, s.heap.get? b = some o → (((s.heap.push (seqObj "list" #[] 0)).update s.heap.objs.size (Obj.mapSeq (· ++ vs.toList.toArray))).push (seqObj "list" vs.toList.toArray 0)).get? b = some o := fun b o q => by
      have hlt : b < s.heap.objs.size := Heap.lt_size q
      rw [Heap.get?_push_ne _ _ _ (by rw [hsz]; exact Nat.ne_of_lt (Nat.lt_succ_of_lt hlt)), Heap.get?_update_ne _ _ _ _ (Nat.ne_of_lt hlt), Heap.get?_push_ne _ _ _ (Nat.ne_of_lt hlt)]
      exact q
    show wpAny _ _ _ _ _ { s with heap := ((s.heap.push (seqObj "list" #[] 0)).update s.heap.objs.size (Obj.mapSeq (· ++ vs.toList.toArray))).push (seqObj "list" vs.toList.toArray 0) }
    rw [hsz]
    refine wpAny_bind (wpAny_holding (wpAny_call_entry slot_list_sort (mk11 _ hoL rfl) entry_list_sort ?body (args_list_sort _)))
    case body =>
      refine list_sort_ok (s₀ := s) hr hoL (Ext0.of s keep) (Heap.get?_none_of_le (Nat.le_succ _)) hM hl fun s' hs' => (mk11 _ rfl (wpAny_pure (mk11 _ rfl hs')))
end
end Mine
end
section
open PySem PySem.W PyProof.Rows
set_option Elab.async false
set_option maxRecDepth 100000
namespace Mine
inductive InitB : List Str → List Stmt → Prop
  | nil : InitB [] []
  | cons {nm : Str} {ns : List Str} {r : List Stmt} {p1 p2 p3 p4 : Pos} : InitB ns r → InitB (nm :: ns) (.Assign [.Attribute (.Name "self" p1) nm p2] (.Name nm p3) p4 :: r)
structure PrimK (K : Frag) (C fI : Addr) : Prop where
  made : makesIn K C = true
  ini : findIn K (.ref C) "__init__" = some (some (.ref fI))
  fn : typeIn K (.ref fI) = some (.type "function")
  sa : findIn K (.ref C) "__setattr__" = some (some (.builtin "object.__setattr__"))
  ga : findIn K (.ref C) "__getattribute__" = some (some (.builtin "object.__getattribute__"))
  over : plainOver K C = true
  hd : hasDictIn K C = true
  keep : keepIn K (.ref C) = true
  tk : ∀ nm, nm ∈ primNames → takerIn K C nm = some none
  no : ∀ nm, nm ∈ primNames → ∃ attr, findIn K (.ref C) nm = some attr ∧ noGet K attr = true
  ob : ∃ o fd body, K.lookup fI = some o ∧ o.data = .func fd ∧ fd.body = .stmts body ∧ fd.closure = [] ∧ fd.scope.isCoroutine = false ∧ fd.scope.isGenerator = false ∧ fd.scope.kind = .function ∧
    codeIn K fd.code fd.qualname = true ∧ (∀ vals : List Value, vals.length = 8 → bindArgs fd ⟨vals, []⟩ = pure (("self" :: primNames : List Str).zip vals)) ∧ InitB primNames body ∧ fd.scope.names = ("self" :: primNames : List Str).map fun x => (x, NameKind.local)
noncomputable abbrev AL := List (Str × Tok × Value)
noncomputable def esOf (w : World) (l : AL) : List DictEntry := l.map fun e => ⟨PyData.keyHash w.params e.1, .str e.1 e.2.1, e.2.2⟩
theorem put_esOf {w : World} {nm : Str} {t : Tok} {v : Value} : ∀ {l : AL}, (∀ e ∈ l, e.1 ≠ nm) → putL nm (PyData.keyHash w.params nm) (.str nm t) v (esOf w l) = esOf w (l ++ [(nm, t, v)])
  | [], _ => rfl
  | e :: l, h => by
    have h1 : (Value.str e.1 e.2.1).isStr nm = false := by simpa [Value.isStr] using h e (.head _)
    show (if (Value.str e.1 e.2.1).isStr nm = true then _ else _) = _
    rw [h1, if_neg (by simp)]
    show _ :: putL nm _ _ _ (esOf w l) = _
    rw [put_esOf fun x hx => h x (.tail _ hx)]
    rfl
theorem any_esOf {w : World} {nm : Str} : ∀ {l : AL}, (∀ e ∈ l, e.1 ≠ nm) → (esOf w l).any (·.key.isStr nm) = false
  | [], _ => rfl
  | e :: l, h => by
    have h1 : (Value.str e.1 e.2.1).isStr nm = false := by simpa [Value.isStr] using h e (.head _)
    show ((Value.str e.1 e.2.1).isStr nm || (esOf w l).any (·.key.isStr nm)) = false
    rw [h1, any_esOf fun x hx => h x (.tail _ hx)]; rfl
theorem ref_esOf {w : World} : ∀ {l : AL}, (esOf w l).any (·.refKey) = false
  | [] => rfl
  | e :: l => by
    show (false || (esOf w l).any (·.refKey)) = false
    rw [ref_esOf]; rfl
theorem get_esOf {w : World} {nm : Str} : ∀ {l : AL}, getL nm (esOf w l) = some ((l.find? fun e => e.1 == nm).map fun e => e.2.2)
  | [] => rfl
  | e :: l => by
    have ih := get_esOf (w := w) (nm := nm) (l := l)
    have hr := ref_esOf (w := w) (l := e :: l)
    unfold getL at ih ⊢
    rw [hr]
    rw [ref_esOf (w := w) (l := l)] at ih
    have he : esOf w (e :: l) = ⟨PyData.keyHash w.params e.1, .str e.1 e.2.1, e.2.2⟩ :: esOf w l := rfl
    rw [he, List.find?_cons, List.find?_cons]
    have h2 : (Value.str e.1 e.2.1).isStr nm = (e.1 == nm) := rfl
    simp only [h2]
    cases h : e.1 == nm
    · exact ih
    · rfl
section
variable {prog : Program} {w : World} {A : Around} {K : Frag} {C fI : Addr} {s : Shared} {h₀ : Heap} {L x dx fa : Addr} {m : Str → Option Value} {fd : FuncData}
theorem init_run (X₀ : K.In h₀) (P : PrimK K C fI) (hk : fd.scope.kind = .function) (hne : x ≠ dx) (hs : m "self" = some (.ref x)) (hself : (callEnv fd L fa).kindOf "self" = some .local) {Q : Flow → Shared → Prop} {ns : List Str} {body : List Stmt} (hb : InitB ns body) :
    ∀ {l : AL} {vs : List Value} {h : Heap} {tk : Nat}, vs.length = ns.length → ns.Nodup → (∀ e ∈ l, e.1 ∉ ns) → (∀ y ∈ ns.zip vs, m y.1 = some y.2) → (∀ y ∈ ns, y ∈ primNames ∧ (callEnv fd L fa).kindOf y = some .local ∧ (y == ("__debug__" : Str)) = false) → l.length + ns.length ≤ 100 →
    Fr h₀ L h m → News h₀ L h [(x, instObj C dx), (dx, dictOf (esOf w l) l.length)] →
    (∀ h' l' tk', Fr h₀ L h' m → News h₀ L h' [(x, instObj C dx), (dx, dictOf (esOf w l') l'.length)] → l'.map (fun e => (e.1, e.2.2)) = l.map (fun e => (e.1, e.2.2)) ++ ns.zip vs → Q .next { s with heap := h', toks := tk' }) →
    wpAny (model prog w) A (PySem.execs body (callEnv fd L fa)) Q NoE { s with heap := h, toks := tk } := by
  induction hb with
  | nil => intro l vs h tk hv _ _ _ _ _ F N hq; exact wpAny_execs_nil (hq h l tk F N (List.append_nil _).symm)
  | @cons nm ns r p1 p2 p3 p4 hb ih =>
    intro l vs h tk hv hn hl hm hl2 hz F N hq
    cases vs with
    | nil => exact nomatch hv
    | cons v vs =>
      (refine el02 (hl2 nm (.head _)) ?_; intro q1 q2 q3)
      have hnm : ∀ e ∈ l, e.1 ≠ nm := fun e he q => hl e he (q ▸ .head _)
      rw [List.nodup_cons] at hn
      simp only [List.length_cons] at hz hv
      refine wpAny_execs_cons (plainObj_wpAny_Assign_Attribute ?_)
      refine ldc hk q2 F.ns (hm (nm, v) (.head _)) ?_ q3
      refine ldc hk hself F.ns hs ?_
      have I : InstAt h x (instObj C dx) C (some (dictOf (esOf w l) l.length)) := InstAt.of_news N (.head _) (.tail _ (.head _))
      have U : Upd dx (dictOf (esOf w l) l.length) (dictOf (esOf w (l ++ [(nm, tk + 1, v)])) (l ++ [(nm, tk + 1, v)]).length) [(x, instObj C dx), (dx, dictOf (esOf w l) l.length)] [(x, instObj C dx), (dx, dictOf (esOf w (l ++ [(nm, tk + 1, v)])) (l ++ [(nm, tk + 1, v)]).length)] :=
        .tail hne (.head fun _ q => nomatch q)
      refine set_dict (s := { s with heap := h, toks := tk }) F X₀ N I rfl P.sa P.over (P.tk nm q1) P.hd (by rw [get_esOf]; rfl) (Prod.ext (put_esOf hnm) (show putN nm _ _ = _ from ?_)) U (by simp [esOf]; lia) fun h' F' N' => ?_
      · unfold putN
        rw [any_esOf hnm]; simp
      · refine ih (l := l ++ [(nm, tk + 1, v)]) (by lia) hn.2 (fun e he => ?_) (fun y hy => hm y (.tail _ hy)) (fun y hy => hl2 y (.tail _ hy)) (by simp; lia) F' N' fun h'' l'' tk'' F'' N'' e'' => hq h'' l'' tk'' F'' N'' (by rw [e'']; simp)
        rcases List.mem_append.mp he with he | he
        · exact fun q => hl e he (.tail _ q)
        · rw [List.mem_singleton] at he; subst he; exact hn.1
end
end Mine
end
section
open PySem PySem.W PySem.Calls PyProof.Rows
set_option Elab.async false
set_option maxRecDepth 100000
namespace Mine
theorem find_pair {l : AL} {nm : Str} : (l.find? fun e => e.1 == nm).map (fun e => e.2.2) = ((l.map fun e => (e.1, e.2.2)).find? fun e => e.1 == nm).map fun e => e.2 := by
  induction l with
  | nil => rfl
  | cons e l ih =>
    rw [List.map_cons, List.find?_cons, List.find?_cons]
    cases h : e.1 == nm
    · simpa [h] using ih
    · simp [h]
theorem len1 {α : Type} {motive : List α → Prop} {n : Nat} {l : List α} (h : l.length = n + 1) (k : ∀ x r, r.length = n → motive (x :: r)) : motive l := by
  cases l with
  | nil => exact nomatch h
  | cons x r => exact k x r (Nat.succ.inj h)
theorem len7 {motive : List Value → Prop} {vs : List Value} (h : vs.length = 7) (k : ∀ a b c d e f i, motive [a, b, c, d, e, f, i]) : motive vs :=
  len1 h fun a _ h => len1 (motive := fun l => motive (a :: l)) h fun b _ h => len1 (motive := fun l => motive (a :: b :: l)) h fun c _ h => len1 (motive := fun l => motive (a :: b :: c :: l)) h fun d _ h => len1 (motive := fun l => motive (a :: b :: c :: d :: l)) h fun e _ h =>
    len1 (motive := fun l => motive (a :: b :: c :: d :: e :: l)) h fun f _ h => len1 (motive := fun l => motive (a :: b :: c :: d :: e :: f :: l)) h fun i r h => List.eq_nil_of_length_eq_zero h ▸ k a b c d e f i
theorem names_zip {vs : List Value} (h : vs.length = 7) : primNames.map (fun n => ((primNames.zip vs).find? fun e => e.1 == n).map fun e => e.2) = vs.map some := 
  len7 (motive := fun vs => primNames.map (fun n => ((primNames.zip vs).find? fun e => e.1 == n).map fun e => e.2) = vs.map some) h fun a b c d e f i => by kernel_rfl
theorem binds_zip {v0 : Value} {vs : List Value} (h : vs.length = 7) : ((("self" :: primNames : List Str).zip (v0 :: vs)).reverse.lookup ("self" : Str) = some v0) ∧ ∀ y ∈ primNames.zip vs, (("self" :: primNames : List Str).zip (v0 :: vs)).reverse.lookup y.1 = some y.2 := by
    refine len7 (motive := fun vs => ((("self" :: primNames : List Str).zip (v0 :: vs)).reverse.lookup ("self" : Str) = some v0) ∧ ∀ y ∈ primNames.zip vs, (("self" :: primNames : List Str).zip (v0 :: vs)).reverse.lookup y.1 = some y.2) h fun a b c d e f i => ?_
    refine ⟨by kernel_rfl, fun y hy => ?_⟩
    rcases List.mem_cons.mp hy with rfl | hy
    · kernel_rfl
    rcases List.mem_cons.mp hy with rfl | hy
    · kernel_rfl
    rcases List.mem_cons.mp hy with rfl | hy
    · kernel_rfl
    rcases List.mem_cons.mp hy with rfl | hy
    · kernel_rfl
    rcases List.mem_cons.mp hy with rfl | hy
    · kernel_rfl
    rcases List.mem_cons.mp hy with rfl | hy
    · kernel_rfl
    rcases List.mem_cons.mp hy with rfl | hy
    · kernel_rfl
    cases hy
section
variable {g : G} {K : Frag} {fI : Addr}
theorem prim_attr (X : ∀ h : Heap, (∀ b o, g.B b = some o → h.get? b = some o) → K.In h) (P : PrimK K g.C fI) {A : Around} {s : Shared} {a dx : Addr} {od : Obj} {n : Str} {v : Value} {Q : Value → Shared → Prop}
    (hn : n ∈ primNames) (kb : ∀ b o, g.B b = some o → s.heap.get? b = some o) (ha : s.heap.get? a = some (instObj g.C dx)) (hd : s.heap.get? dx = some od) (hl : lookIn n od = some (some v)) (hh : handedIn v = true) (h : Q v { s with toks := s.toks + 1 }) :
    wpAny (model g.prog g.w) A (getAttr (.ref a) n true) Q NoE s := by
  (refine el11 (P.no n hn) ?_; intro attr h1 h2)
  exact get_value (X s.heap kb) (⟨ha, rfl, rfl, hd⟩ : InstAt s.heap a (instObj g.C dx) g.C (some od)) P.ga (findObj_own P.hd h1 h2 hl) hh h
theorem prim_call (X : ∀ h : Heap, (∀ b o, g.B b = some o → h.get? b = some o) → K.In h) (P : PrimK K g.C fI) {A : Around} {s : Shared} {pos : Pos} {args : List (Bool × Sem Value)} {Q : Value → Shared → Prop} (ha : args.any (·.1) = false)
    (h : wpAny (model g.prog g.w) A (evalArgs (.ref g.C) true args []) (fun a s₁ => (∀ b o, g.B b = some o → s₁.heap.get? b = some o) ∧ wpAny (model g.prog g.w) A (call (.ref g.C) a.pos a.kw) Q NoE s₁) NoE s) :
    wpAny (model g.prog g.w) A (callWith pos (.ref g.C) [] args []) Q NoE s :=
  callWith_of (P := K.In) (by rw [ha]; rfl) (keeps_K P.keep) (wpAny_mono h (fun a s₁ h₁ => ⟨X _ h₁.1, h₁.2⟩) fun _ _ q => q)
theorem prim_make (X : ∀ h : Heap, (∀ b o, g.B b = some o → h.get? b = some o) → K.In h) (P : PrimK K g.C fI) (lim : g.h₀.NoLimit) (base : ∀ a o, g.h₀.get? a = some o → g.B a = some o)
    {A : Around} {s : Shared} {M : Addr → Prop} {vs : List Value} {l : List PV} {n : Nat} (ha : AOK (n + 1) A) (hM : MA M s.heap) (kb : ∀ b o, g.B b = some o → s.heap.get? b = some o) (r : RlAll g.ap g.C M s.heap vs l) (hlen : vs.length = 7) :
    wpAny (model g.prog g.w) A (call (.ref g.C) vs []) (Res g.ap g.C M s (.prim l)) NoE s := by
  have XS := X s.heap kb
  obtain ⟨hh, gg, d, t, os⟩ := s
  (refine el34 (P.ob) ?_; intro o fd body ho hd hbody hclo zr0; refine el04 zr0 ?_; clear zr0; intro hco hgen hkind hcd zr1; refine el02 zr1 ?_; clear zr1; intro hbind hB hnames)
  refine wpAny_call ?_
  refine make_core (makes_of XS P.made) (looks_findIn XS P.ini) (fun self => bind_fn XS self P.fn) (.inl rfl) ?_
  have k1 : ∀ b o, hh.get? b = some o → ((hh.push emptyDict).push (instObj g.C hh.objs.size)).get? b = some o := fun b o e => Heap.get?_push_of_some _ (Heap.get?_push_of_some _ e)
  have hx1 : ((hh.push emptyDict).push (instObj g.C hh.objs.size)).get? (hh.objs.size + 1) = some (instObj g.C hh.objs.size) := by heap_get
  have hx0 : ((hh.push emptyDict).push (instObj g.C hh.objs.size)).get? hh.objs.size = some emptyDict := by heap_get
  have hz : ((hh.push emptyDict).push (instObj g.C hh.objs.size)).objs.size = hh.objs.size + 2 := by rw [Heap.size_push, Heap.size_push]
  refine codeAny_call_plain (o := o) (fd := fd) (body := body) (binds := ("self" :: primNames : List Str).zip (.ref (hh.objs.size + 1) :: vs)) ?_ (k1 _ _ (XS _ _ ho)) hd ((lim.keeps fun a o e => kb a o (base a o e)).keeps k1) ((codeRec_of XS hcd).keeps k1) hbody
    (hbind _ (by rw [List.length_cons, hlen])) (fun y hy => ?_) (fun y hy => ?_) (fun h₀ hns hk => ?_) hco hgen hkind
  · have := ha.2.1
    show A.depth + 1 < 1000
    lia
  · rw [hnames] at hy
    (refine el11 (List.mem_map.mp hy) ?_; intro z _ zq0; subst zq0)
    simp
  · (refine el01 (List.of_mem_zip (a := y.1) (b := y.2) hy) ?_; intro hm _)
    rw [hnames]
    have : ∀ z ∈ ("self" :: primNames : List Str), (("self" :: primNames : List Str).map fun x => (x, NameKind.local)).lookup z = some .local := by decide +kernel
    exact this _ hm
  · have hb := binds_zip (v0 := .ref (hh.objs.size + 1)) hlen
    have kall : ∀ b o, hh.get? b = some o → h₀.get? b = some o := fun b o e => hk b o (k1 b o e)
    have hL : ∀ y ∈ ("self" :: primNames : List Str), (callEnv fd ((hh.push emptyDict).push (instObj g.C hh.objs.size)).objs.size fI).kindOf y = some .local := fun y hy => by
      show fd.scope.names.lookup y = _
      rw [hnames]
      have : ∀ z ∈ ("self" :: primNames : List Str), (("self" :: primNames : List Str).map fun x => (x, NameKind.local)).lookup z = some .local := by decide +kernel
      exact this _ hy
    have F : Fr hh ((hh.push emptyDict).push (instObj g.C hh.objs.size)).objs.size h₀ (fun x => (("self" :: primNames : List Str).zip (.ref (hh.objs.size + 1) :: vs)).reverse.lookup x) := ⟨hns, kall, by rw [hz]; lia⟩
    have N : News hh ((hh.push emptyDict).push (instObj g.C hh.objs.size)).objs.size h₀ [(hh.objs.size + 1, instObj g.C hh.objs.size), (hh.objs.size, dictOf (esOf g.w []) 0)] := by
      intro p hp
      rcases List.mem_cons.mp hp with rfl | hp
      · exact ⟨hk _ _ hx1, by rw [hz]; simp, Heap.get?_none_of_le (Nat.le_succ _)⟩
      · rcases List.mem_cons.mp hp with rfl | hp
        · exact ⟨hk _ _ hx0, by rw [hz]; simp, Heap.get?_none_of_le (Nat.le_refl _)⟩
        · cases hp
    refine wpAny_mono (init_run (s := ⟨h₀, gg, d, t, os⟩) (tk := _) (l := []) (vs := vs) (Q := fun f s' => f = .next ∧ Res g.ap g.C M ⟨hh, gg, d, t, os⟩ (.prim l) (.ref (hh.objs.size + 1)) s') XS P hkind (Nat.succ_ne_self _) hb.1 (hL _ (.head _)) hB hlen (by decide +kernel) (fun _ q => nomatch q) hb.2 (fun y hy => ⟨hy, hL y (.tail _ hy), ?_⟩) (by decide) F N fun h' l' tk' F' N' e' => ⟨rfl, ?_⟩) ?_ fun _ _ q => q.elim
    · have : ∀ z ∈ primNames, (z == ("__debug__" : Str)) = false := by decide +kernel
      exact this y hy
    · have x0 : Ext0 ⟨hh, gg, d, t, os⟩ ⟨h', gg, d, tk', os⟩ := ⟨(mk20 h' tk' rfl), fun b o _ e => F'.keep b o e⟩
      refine ⟨x0, .prim (hM.not (Heap.get?_none_of_le (Nat.le_succ _))) (hM.not (Heap.get?_none_of_le (Nat.le_refl _))) (N' _ (.head _)).1 (N' _ (.tail _ (.head _))).1 ?_ (r.ext0 x0)⟩
      have e2 : l'.map (fun e => (e.1, e.2.2)) = primNames.zip vs := by rw [e']; rfl
      have e3 := congrArg (List.map some) (names_zip hlen)
      rw [List.map_map, List.map_map] at e3
      refine Eq.trans (List.map_congr_left fun nm _ => ?_) e3
      rw [lookIn_dict, get_esOf, find_pair, e2]
      rfl
    · rintro f s' ⟨rfl, h⟩
      exact ⟨rfl, h⟩
end
end Mine
end
section
open PySem PySem.W PyProof.Rows
set_option Elab.async false
set_option maxRecDepth 100000
namespace Mine
theorem zip_lookup {α : Type} : ∀ {l : List Str} {vals : List α} , l.Nodup → vals.length = l.length → ∀ n ∈ l, ((l.zip vals).lookup n).isSome = true
  | [], _, _, _, n, h => by cases h
  | x :: l, [], _, e, n, h => by simp at e
  | x :: l, v :: vals, hn, e, n, h => by
    rw [List.zip_cons_cons, List.lookup_cons]
    by_cases q : n = x
    · subst q; simp
    · rw [beq_eq_false_iff_ne.mpr q]
      exact zip_lookup (List.nodup_cons.mp hn).2 (by simpa using e) n ((List.mem_cons.mp h).resolve_left q)
theorem filterMap_at {α β : Type} {f g : α → Option β} : ∀ {l : List α}, (∀ x ∈ l, f x = g x) → l.filterMap f = l.filterMap g
  | [], _ => rfl
  | x :: l, h => by rw [List.filterMap_cons, List.filterMap_cons, h x (.head _), filterMap_at fun y hy => h y (.tail _ hy)]
theorem zip_filterMap {α : Type} : ∀ {l : List Str} {vals : List α} , l.Nodup → vals.length = l.length → l.filterMap (fun n => ((l.zip vals).lookup n).map fun v => (n, v)) = l.zip vals
  | [], _, _, _ => rfl
  | x :: l, [], _, e => by simp at e
  | x :: l, v :: vals, hn, e => by
    rw [List.nodup_cons] at hn
    rw [List.filterMap_cons, List.zip_cons_cons, List.lookup_cons, beq_self_eq_true]
    show (x, v) :: _ = _
    congr 1
    refine Eq.trans (filterMap_at fun y hy => ?_) (zip_filterMap hn.2 (by simpa using e))
    have : y ≠ x := fun q => hn.1 (q ▸ hy)
    rw [List.lookup_cons, beq_eq_false_iff_ne.mpr this]
theorem em_ {α : Type} {l : List α} (h : l = []) : ¬ (!l.isEmpty) = true := by subst h; exact Bool.false_ne_true
theorem zd_ {l : List Str} {k : Nat} : l.zip (List.drop k ([] : List Value)) = [] := by rw [List.drop_nil, List.zip_nil_right]
theorem fz_ {α β γ : Type} {L : List α} {b : γ} {f : α → γ → Sem (ForInStep γ)} {k : γ → Sem β} (h : L = []) : (forIn L b f >>= k) = k b := by subst h; rfl
theorem bind_args {fd : FuncData} {vals : List Value} (h1 : fd.params.posonlyargs = []) (h2 : fd.params.vararg = none) (h3 : fd.params.kwonlyargs = []) (h4 : fd.params.kwarg = none) (h5 : fd.defaults = .none) (hn : (fd.params.args.map (·.arg)).Nodup) (hl : vals.length = fd.params.args.length) :
    bindArgs fd ⟨vals, []⟩ = pure ((fd.params.args.map (·.arg)).zip vals) := by
  obtain ⟨a1, a2, ⟨p1, p2, p3, p4, p5, p6, p7⟩, a4, a5, a6, a7, a8, a9, a10, a11, a12, a13, a14⟩ := fd
  cases h1; cases h2; cases h3; cases h4; cases h5
  have hl' : vals.length = (p2.map (·.arg)).length := by rw [List.length_map]; exact hl
  have e1 : ∀ k, ((p2.map (·.arg)).take k).filter (fun n => (((p2.map (·.arg)).zip vals).lookup n).isNone) = [] := fun k => by
    rw [List.filter_eq_nil_iff]
    intro n hm
    have := zip_lookup hn hl' n (List.mem_of_mem_take hm)
    simpa using this
  have e2 := zip_filterMap hn hl'
  clear hn hl
  refine Eq.trans (if_neg (c := (decide (vals.length > (List.map (fun x : Arg => x.arg) p2).length) && true) = true) ?_) ?_
  · rw [hl', decide_eq_false (Nat.lt_irrefl _)]; exact Bool.false_ne_true
  refine Eq.trans (if_neg (em_ (e1 _))) ?_
  refine Eq.trans (fz_ zd_) ?_
  refine Eq.trans (b := pure (List.filterMap (fun n => (((p2.map (·.arg)).zip vals).lookup n).map (n, ·)) ((p2.map (·.arg)) ++ []))) rfl ?_
  rw [List.append_nil]
  exact congrArg pure e2
end Mine
end
section
open PySem
namespace Mine
noncomputable def b_level_codes : List S := [.ite (.cmp 0 (.var 0) (.sym 0)) [.ret (.tup [(.int 0)])] [],
    .ite (.cmp 0 (.var 0) (.sym 1)) [.ret (.tup [(.int 1)])] [],
    .ite (.cmp 0 (.var 0) (.sym 2)) [.ret (.tup [(.int 3)])] [],
    .ite (.cmp 0 (.var 0) (.sym 3)) [.ret (.tup [(.int 0), (.int 1)])] [],
    .ite (.cmp 0 (.var 0) (.sym 4)) [.ret (.tup [(.int 0), (.int 1), (.int 3)])] [],
    .ret (.tup [])]
noncomputable def f_level_codes : FnD := ⟨1, 1, 1, ["symbol"], b_level_codes⟩
noncomputable def b_is_edge : List S := [.ret (.or (.cmp 0 (.sub (.var 0) (.int 0)) (.sym 10)) (.cmp 4 (.var 0) (.tup [(.sym 5), (.sym 6), (.sym 7), (.sym 8), (.sym 9)])))]
noncomputable def f_is_edge : FnD := ⟨1, 1, 1, ["symbol"], b_is_edge⟩
noncomputable def b_edge_pairs : List S := [.ite (.cmp 0 (.var 0) (.sym 5)) [.ret (.tup [(.tup [(.int 0), (.int 1)])])] [],
    .ite (.cmp 0 (.var 0) (.sym 6)) [.ret (.tup [(.tup [(.int 1), (.int 0)])])] [],
    .ite (.cmp 0 (.var 0) (.sym 7)) [.ret (.tup [(.tup [(.int 0), (.int 1)]), (.tup [(.int 0), (.int 3)]), (.tup [(.int 3), (.int 1)])])] [],
    .ite (.cmp 0 (.var 0) (.sym 8)) [.ret (.tup [(.tup [(.int 1), (.int 0)]), (.tup [(.int 1), (.int 3)]), (.tup [(.int 3), (.int 0)])])] [],
    .asg 1 (.tup [(.int 0), (.int 1), (.int 3)]),
    .asg 2 (.tup [(.int 0), (.int 1), (.int 3)]),
    .ite (.cmp 0 (.sub (.var 0) (.int 0)) (.sym 10)) [.asg 1 (.call 0 [(.sub (.var 0) (.int 1))]),
    .asg 2 (.call 0 [(.sub (.var 0) (.int 2))])] [],
    .own 3 (.list []),
    .for (.one 4) .val (.var 1) [.for (.one 5) .val (.var 2) [.ite (.cmp 1 (.var 4) (.var 5)) [.app 3 (.tup [(.var 4), (.var 5)])] []]],
    .ret (.tupleOf (.var 3))]
noncomputable def f_edge_pairs : FnD := ⟨6, 6, 1, ["symbol", "before", "behind", "pairs", "v", "w"], b_edge_pairs⟩
noncomputable def b_edge_place : List S := [.for (.one 1) .rng (.len (.sub (.var 0) (.int 0))) [.ite (.call 1 [(.sub (.sub (.var 0) (.int 0)) (.var 1))]) [.ret (.var 1)] []],
    .ret .neg1]
noncomputable def f_edge_place : FnD := ⟨2, 2, 1, ["row", "i"], b_edge_place⟩
noncomputable def b_edge_count : List S := [.asg 1 (.int 0),
    .for (.one 2) .val (.sub (.var 0) (.int 0)) [.ite (.call 1 [(.var 2)]) [.augI 1 0 (.int 1)] []],
    .ret (.var 1)]
noncomputable def f_edge_count : FnD := ⟨3, 3, 1, ["row", "count", "symbol"], b_edge_count⟩
noncomputable def b_check_primitive : List S := [.own 1 (.list []),
    .own 2 (.list [(.attr (.var 0) 2)]),
    .for (.one 3) .val (.attr (.var 0) 3) [.ite (.cmp 4 (.var 3) (.var 2)) [.app 1 (.tup [(.sym 16), .neg1])] [],
    .app 2 (.var 3)],
    .ite (.cmp 0 (.len (.attr (.var 0) 6)) (.int 0)) [.app 1 (.tup [(.sym 17), .neg1])] [],
    .own 4 (.list []),
    .for (.one 5) .rng (.len (.attr (.var 0) 6)) [.asgF 6 (.call 6 [(.var 0), (.sub (.attr (.var 0) 6) (.var 5))]),
    .for (.one 7) .val (.var 6) [.app 1 (.tup [(.var 7), (.var 5)])],
    .ite (.cmp 3 (.len (.var 6)) (.int 0)) [.cont] [],
    .forOwn (.one 8) 4 [.ite (.call 7 [(.sub (.attr (.var 0) 6) (.var 8)), (.sub (.attr (.var 0) 6) (.var 5))]) [.app 1 (.tup [(.sym 18), (.var 5)]),
    .brk] []],
    .app 4 (.var 5)],
    .ret (.var 1)]
noncomputable def f_check_primitive : FnD := ⟨9, 9, 1, ["p", "faults", "names", "name", "sound", "number", "kinds", "kind", "earlier"], b_check_primitive⟩
noncomputable def b_row_faults : List S := [.own 2 (.list []),
    .ite (.cmp 1 (.len (.sub (.var 1) (.int 0))) (.len (.attr (.var 0) 3))) [.app 2 (.sym 19)] [],
    .asg 3 (.call 4 [(.var 1)]),
    .ite (.attr (.var 0) 4) [.ite (.cmp 3 (.var 3) (.int 1)) [.app 2 (.sym 20)] []] [.ite (.cmp 3 (.var 3) (.int 0)) [.app 2 (.sym 21)] [],
    .ite (.cmp 0 (.sub (.var 1) (.int 2)) (.sym 11)) [.app 2 (.sym 22)] []],
    .for (.one 4) .val (.sub (.var 1) (.int 0)) [.ite (.and (.call 1 [(.var 4)]) (.cmp 0 (.len (.call 2 [(.var 4)])) (.int 0))) [.app 2 (.sym 23)] []],
    .ret (.var 2)]
noncomputable def f_row_faults : FnD := ⟨5, 5, 2, ["p", "row", "kinds", "edges", "symbol"], b_row_faults⟩
noncomputable def b_rows_conflict : List S := [.ite (.cmp 1 (.call 3 [(.var 0)]) (.call 3 [(.var 1)])) [.ret (.bool false)] [],
    .for (.one 2) .rng (.len (.sub (.var 0) (.int 0))) [.ite (.call 1 [(.sub (.sub (.var 0) (.int 0)) (.var 2))]) [.ite (.not (.call 8 [(.call 2 [(.sub (.sub (.var 0) (.int 0)) (.var 2))]), (.call 2 [(.sub (.sub (.var 1) (.int 0)) (.var 2))])])) [.ret (.bool false)] []] [.ite (.not (.call 8 [(.call 0 [(.sub (.sub (.var 0) (.int 0)) (.var 2))]), (.call 0 [(.sub (.sub (.var 1) (.int 0)) (.var 2))])])) [.ret (.bool false)] []]],
    .ite (.or (.isNone (.sub (.var 0) (.int 1))) (.isNone (.sub (.var 1) (.int 1)))) [.ret (.cmp 1 (.sub (.var 0) (.int 2)) (.sub (.var 1) (.int 2)))] [],
    .for (.one 3) .val (.call 0 [(.sub (.var 0) (.int 1))]) [.ite (.and (.cmp 4 (.var 3) (.call 0 [(.sub (.var 1) (.int 1))])) (.cmp 1 (.call 9 [(.sub (.var 0) (.int 2)), (.var 3)]) (.call 9 [(.sub (.var 1) (.int 2)), (.var 3)]))) [.ret (.bool true)] []],
    .ret (.bool false)]
noncomputable def f_rows_conflict : FnD := ⟨4, 4, 2, ["u", "v", "i", "state"], b_rows_conflict⟩
noncomputable def b_share : List S := [.for (.one 2) .val (.var 0) [.ite (.cmp 4 (.var 2) (.var 1)) [.ret (.bool true)] []],
    .ret (.bool false)]
noncomputable def f_share : FnD := ⟨3, 3, 2, ["left", "right", "item"], b_share⟩
noncomputable def b_out_code : List S := [.ite (.cmp 0 (.var 0) (.sym 11)) [.ret (.var 1)] [],
    .ret (.sub (.call 0 [(.var 0)]) (.int 0))]
noncomputable def f_out_code : FnD := ⟨2, 2, 2, ["out", "state"], b_out_code⟩
noncomputable def b_plain : List S := [.ite (.cmp 0 (.var 0) (.int 2)) [.ret (.int 3)] [],
    .ret (.var 0)]
noncomputable def f_plain : FnD := ⟨1, 1, 1, ["code"], b_plain⟩
noncomputable def b_levels_match : List S := [.for (.one 3) .rng (.len (.var 0)) [.ite (.cmp 0 (.var 3) (.var 2)) [.cont] [],
    .ite (.or (.call 1 [(.sub (.var 0) (.var 3))]) (.cmp 5 (.sub (.var 1) (.var 3)) (.call 0 [(.sub (.var 0) (.var 3))]))) [.ret (.bool false)] []],
    .ret (.bool true)]
noncomputable def f_levels_match : FnD := ⟨4, 4, 3, ["ins", "codes", "skip", "i"], b_levels_match⟩
noncomputable def b_next_level : List S := [.asgF 2 (.comp1 (.call 10 [(.var 6)]) (.one 6) .val (.var 1) Option.none [6]),
    .for (.many [3, 4, 5]) .val (.attr (.var 0) 6) [.ite (.call 11 [(.var 3), (.var 2), .neg1]) [.ret (.call 9 [(.var 5), (.int 3)])] []],
    .ret (.int 3)]
noncomputable def f_next_level : FnD := ⟨7, 6, 2, ["p", "codes", "now", "ins", "state", "out", "code"], b_next_level⟩
noncomputable def b_next_state : List S := [.own 4 (.comp1 (.call 10 [(.var 7)]) (.one 7) .val (.var 2) Option.none [7]),
    .asg 1 (.call 10 [(.var 1)]),
    .for (.one 5) .rng (.len (.var 3)) [.asg 6 (.sub (.var 4) (.var 5)),
    .setIt 4 (.var 5) (.call 10 [(.sub (.var 3) (.var 5))]),
    .ite (.cmp 1 (.sub (.var 4) (.var 5)) (.var 6)) [.asg 1 (.call 14 [(.var 0), (.var 1), (.var 4), (.var 5), (.var 6)])] []],
    .ret (.var 1)]
noncomputable def f_next_state : FnD := ⟨8, 7, 4, ["p", "state", "old", "new", "now", "i", "before", "code"], b_next_state⟩
noncomputable def b_step_state : List S := [.for (.many [5, 6, 7]) .val (.attr (.var 0) 6) [.ite (.and (.call 11 [(.var 5), (.var 2), .neg1]) (.cmp 4 (.var 1) (.call 0 [(.var 6)]))) [.ret (.call 9 [(.var 7), (.var 1)])] []],
    .for (.many [5, 6, 7]) .val (.attr (.var 0) 6) [.ite (.or (.not (.call 1 [(.sub (.var 5) (.var 3))])) (.cmp 5 (.var 1) (.call 0 [(.var 6)]))) [.cont] [],
    .ite (.and (.call 11 [(.var 5), (.var 2), (.var 3)]) (.cmp 4 (.tup [(.var 4), (.sub (.var 2) (.var 3))]) (.call 2 [(.sub (.var 5) (.var 3))]))) [.ret (.call 9 [(.var 7), (.var 1)])] []],
    .ret (.int 3)]
noncomputable def f_step_state : FnD := ⟨8, 8, 5, ["p", "state", "now", "changed", "before", "ins", "held", "out"], b_step_state⟩
noncomputable def b_law_pool : List S := [.own 1 (.list []),
    .asg 2 (.int 5),
    .for (.one 3) .val (.sliceTo (.var 0) (.int 40)) [.asg 4 (.toInt (.var 3)),
    .asg 2 (.bin 3 (.bin 0 (.bin 2 (.var 2) (.int 31)) (.var 4)) (.int 1009)),
    .asg 5 (.abs (.var 4)),
    .for (.one 6) .rng (.int 60) [.app 1 (.bin 3 (.var 5) (.int 840)),
    .augI 5 1 (.int 840),
    .ite (.cmp 0 (.var 5) (.int 0)) [.brk] []],
    .ite (.cmp 3 (.len (.var 1)) (.int 400)) [.brk] []],
    .ret (.list [(.var 1), (.int 0), (.var 2)])]
noncomputable def f_law_pool : FnD := ⟨7, 7, 1, ["script", "figures", "mix", "cell", "big", "rest", "step"], b_law_pool⟩
noncomputable def b_law_pick : List S := [.ite (.cmp 2 (.sub (.var 0) (.int 1)) (.len (.sub (.var 0) (.int 0)))) [.asg 2 (.sub (.sub (.var 0) (.int 0)) (.sub (.var 0) (.int 1))),
    .augPool 0 1 1] [.ite (.cmp 2 (.len (.sub (.var 0) (.int 0))) (.int 3)) [.asg 2 (.int 0)] [.setIt 0 (.int 2) (.bin 3 (.bin 0 (.bin 2 (.sub (.var 0) (.int 2)) (.int 37)) (.int 11)) (.int 1009)),
    .asg 2 (.sub (.var 0) (.int 2))]],
    .ret (.bin 3 (.var 2) (.var 1))]
noncomputable def f_law_pick : FnD := ⟨3, 3, 2, ["pool", "bound", "figure"], b_law_pick⟩
noncomputable def b_law_levels : List S := [.ret (.menu [0, 1, 2, 4, 3] [[0], [1], [3], [0, 1, 3], [0, 1]] (.var 0))]
noncomputable def f_law_levels : FnD := ⟨1, 1, 1, ["symbol"], b_law_levels⟩
noncomputable def b_law_changes : List S := [.ite (.cmp 4 (.var 0) (.list [(.sym 0), (.sym 1), (.sym 2), (.sym 4), (.sym 3)])) [.ret .none] [],
    .ite (.cmp 4 (.var 0) (.list [(.sym 5), (.sym 6)])) [.ret (.ife (.cmp 0 (.var 0) (.sym 5)) (.list [(.tup [(.int 0), (.int 1)])]) (.list [(.tup [(.int 1), (.int 0)])]))] [],
    .ite (.cmp 4 (.var 0) (.list [(.sym 7), (.sym 8)])) [.ret (.ife (.cmp 0 (.var 0) (.sym 7)) (.list [(.tup [(.int 0), (.int 1)]), (.tup [(.int 0), (.int 3)]), (.tup [(.int 3), (.int 1)])]) (.list [(.tup [(.int 1), (.int 0)]), (.tup [(.int 1), (.int 3)]), (.tup [(.int 3), (.int 0)])]))] [],
    .asg 1 (.ife (.cmp 0 (.var 0) (.sym 9)) (.sym 4) (.sub (.var 0) (.int 1))),
    .asg 2 (.ife (.cmp 0 (.var 0) (.sym 9)) (.sym 4) (.sub (.var 0) (.int 2))),
    .ret (.comp2 (.tup [(.var 3), (.var 4)]) (.one 3) .val (.call 17 [(.var 1)]) (.one 4) .val (.call 17 [(.var 2)]) (some (.cmp 1 (.var 3) (.var 4))) [3, 4])]
noncomputable def f_law_changes : FnD := ⟨5, 3, 1, ["symbol", "first", "second", "v", "w"], b_law_changes⟩
noncomputable def b_law_steps : List S := [.unp [1, 2, 3] (.var 0),
    .own 4 .dict0,
    .asgF 5 (.list [(.tup [.neg1, .neg1, (.tup [])])]),
    .for (.one 6) .rng (.len (.var 1)) [.asgF 7 (.call 18 [(.sub (.var 1) (.var 6))]),
    .ite (.isNone (.var 7)) [.asgF 5 (.comp2 (.tup [(.var 13), (.var 14), (.bin 0 (.var 15) (.tup [(.var 16)]))]) (.many [13, 14, 15]) .val (.var 5) (.one 16) .val (.call 17 [(.sub (.var 1) (.var 6))]) Option.none [10, 11, 12, 13, 14, 15, 16, 17, 19, 20, 21])] [.asgF 5 (.comp2 (.tup [(.var 6), (.var 20), (.bin 0 (.var 19) (.tup [(.var 21)]))]) (.many [17, 18, 19]) .val (.var 5) (.many [20, 21]) .val (.var 7) Option.none [10, 11, 12, 13, 14, 15, 16, 17, 18, 19, 20, 21])]],
    .for (.one 8) .val (.ife (.isNone (.var 2)) (.list [(.int 3)]) (.call 17 [(.var 2)])) [.asg 9 (.ife (.cmp 0 (.var 3) (.sym 11)) (.var 8) (.sub (.call 17 [(.var 3)]) (.int 0))),
    .for (.many [10, 11, 12]) .val (.var 5) [.setIt 4 (.tup [(.var 10), (.var 11), (.var 12), (.var 8)]) (.var 9)]],
    .ret (.var 4)]
noncomputable def f_law_steps : FnD := ⟨22, 13, 1, ["row", "ins", "state", "out", "found", "ways", "number", "changes", "held", "value", "at", "old", "now", "at", "old", "now", "new", "at", "gone", "now", "old", "new"], b_law_steps⟩
noncomputable def b_law_faults : List S := [.own 3 (.comp1 (.tup [(.sym 16), .neg1]) (.one 14) .rng (.len (.var 0)) (some (.cmp 4 (.sub (.var 0) (.var 14)) (.sliceTo (.var 0) (.var 14)))) [6, 14]),
    .ite (.cmp 0 (.var 2) (.list [])) [.app 3 (.tup [(.sym 17), .neg1])] [],
    .own 4 (.list []),
    .own 5 (.list []),
    .for (.one 6) .rng (.len (.var 2)) [.unp [7, 8, 9] (.sub (.var 2) (.var 6)),
    .asgF 10 (.comp1 (.call 18 [(.var 15)]) (.one 15) .val (.var 7) Option.none [15]),
    .asgF 11 (.comp1 (.var 16) (.one 16) .val (.var 10) (some (.notNone (.var 16))) [16, 17]),
    .own 12 (.list []),
    .ite (.cmp 1 (.len (.var 7)) (.bin 1 (.len (.var 0)) (.int 1))) [.app 12 (.sym 19)] [],
    .ite (.and (.var 1) (.cmp 3 (.len (.var 11)) (.int 1))) [.app 12 (.sym 20)] [],
    .ite (.and (.not (.var 1)) (.cmp 1 (.var 11) (.list []))) [.app 12 (.sym 21)] [],
    .ite (.and (.not (.var 1)) (.cmp 0 (.var 9) (.sym 11))) [.app 12 (.sym 22)] [],
    .ext 12 (.comp1 (.sym 23) (.one 17) .val (.var 11) (some (.cmp 0 (.var 17) (.list []))) [16, 17]),
    .ite (.cmp 0 (.var 12) (.list [])) [.asgF 13 (.call 19 [(.sub (.var 2) (.var 6))]),
    .ite (.cmp 1 (.comp2 (.int 1) (.one 18) .val (.var 4) (.one 19) .val (.var 13) (some (.and (.cmp 4 (.var 19) (.var 18)) (.cmp 1 (.sub (.var 18) (.var 19)) (.sub (.var 13) (.var 19))))) [18, 19]) (.list [])) [.app 12 (.sym 18)] [.app 5 (.var 6)],
    .appF 4 (.var 13)] [],
    .ext 3 (.comp1 (.tup [(.var 20), (.var 6)]) (.one 20) .val (.var 12) Option.none [20])],
    .ret (.tup [(.sorted (.var 3)), (.var 5)])]
noncomputable def f_law_faults : FnD := ⟨21, 14, 3, ["names", "sequential", "rows", "faults", "sound", "kept", "number", "ins", "state", "out", "changes", "edges", "wrong", "steps", "number", "symbol", "pairs", "pairs", "other", "step", "kind"], b_law_faults⟩
noncomputable def b_law_symbol : List S := [.asg 2 (.call 16 [(.var 0), (.ife (.var 1) (.int 12) (.int 6))]),
    .ite (.cmp 2 (.var 2) (.int 6)) [.ret (.strAt [0, 1, 4, 3, 2, 4] (.var 2))] [],
    .ite (.cmp 2 (.var 2) (.int 11)) [.ret (.strAt [5, 6, 7, 8, 9] (.bin 1 (.var 2) (.int 6)))] [],
    .ret (.tup [(.sym 10), (.strAt [0, 1, 2, 4, 3] (.call 16 [(.var 0), (.int 5)])), (.strAt [0, 1, 2, 4, 3] (.call 16 [(.var 0), (.int 5)]))])]
noncomputable def f_law_symbol : FnD := ⟨3, 3, 2, ["pool", "edges", "way"], b_law_symbol⟩
noncomputable def b_law : List S := [.asgF 1 (.call 15 [(.var 0)]),
    .asg 2 (.cmp 0 (.call 16 [(.var 1), (.int 2)]) (.int 1)),
    .asg 3 (.bin 0 (.int 1) (.call 16 [(.var 1), (.int 3)])),
    .asg 4 (.cmp 0 (.call 16 [(.var 1), (.int 6)]) (.int 5)),
    .own 5 (.list []),
    .for (.one 6) .rng (.ife (.not (.var 4)) (.bin 0 (.int 1) (.call 16 [(.var 1), (.int 6)])) (.call 16 [(.var 1), (.int 3)])) [.asg 7 (.or (.var 4) (.and (.var 2) (.cmp 0 (.call 16 [(.var 1), (.int 2)]) (.int 1)))),
    .asg 8 (.call 16 [(.var 1), (.var 3)]),
    .asg 9 (.ife (.var 4) (.bin 1 (.bin 0 (.var 3) (.call 16 [(.var 1), (.int 3)])) (.int 1)) (.var 3)),
    .asg 10 (.tupleOf (.comp1 (.call 21 [(.var 1), (.and (.var 7) (.or (.var 4) (.cmp 0 (.var 25) (.var 8))))]) (.one 25) .rng (.var 9) Option.none [25, 27, 28])),
    .asg 11 (.ife (.var 2) (.strAt [4, 0, 1, 3, 2] (.call 16 [(.var 1), (.int 5)])) .none),
    .app 5 (.tup [(.var 10), (.var 11), (.strAt [0, 1, 2, 11] (.call 16 [(.var 1), (.ife (.or (.var 2) (.var 4)) (.int 4) (.int 3))]))])],
    .own 12 (.sliceTo (.list [(.sym 12), (.sym 13), (.sym 3), (.sym 14)]) (.bin 0 (.var 3) (.int 1))),
    .ite (.and (.var 4) (.cmp 0 (.call 16 [(.var 1), (.int 2)]) (.int 1))) [.setIt 12 (.var 3) (.sub (.var 12) (.call 16 [(.var 1), (.var 3)]))] [],
    .freeze 12,
    .freeze 5,
    .unp [13, 14] (.call 20 [(.var 12), (.var 2), (.var 5)]),
    .asgF 15 (.prim [(.sym 15), (.int 0), (.sub (.var 12) (.int 0)), (.tupleOf (.sliceFrom1 (.var 12))), (.var 2), (.int 3), (.tupleOf (.var 5))]),
    .ite (.cmp 1 (.sorted (.call 5 [(.var 15)])) (.var 13)) [.ret (.bool false)] [],
    .asgF 16 (.comp1 (.sub (.var 5) (.var 26)) (.one 26) .val (.var 14) Option.none [6, 26]),
    .asgF 15 (.prim [(.sym 15), (.int 0), (.sym 12), (.sliceTo (.tup [(.sym 13), (.sym 3), (.sym 14)]) (.var 3)), (.var 2), (.int 3), (.tupleOf (.var 16))]),
    .own 17 .dict0,
    .for (.one 18) .val (.var 16) [.upd 17 (.call 19 [(.var 18)])],
    .asgF 19 (.comp1 (.call 16 [(.var 1), (.int 4)]) (.one 27) .rng (.var 3) Option.none [25, 27, 28]),
    .asgF 20 (.comp1 (.call 16 [(.var 1), (.int 4)]) (.one 28) .rng (.var 3) Option.none [25, 27, 28]),
    .asg 11 (.call 16 [(.var 1), (.int 4)]),
    .own 21 (.comp1 (.ife (.cmp 0 (.var 29) (.int 2)) (.int 3) (.var 29)) (.one 29) .val (.var 19) Option.none [29]),
    .ite (.not (.var 2)) [.ret (.cmp 0 (.call 12 [(.var 15), (.var 19)]) (.get (.var 17) (.tup [.neg1, .neg1, (.tupleOf (.var 21)), (.int 3)]) (.int 3)))] [],
    .asg 22 (.ife (.cmp 0 (.var 11) (.int 2)) (.int 3) (.var 11)),
    .for (.one 6) .rng (.var 3) [.asg 23 (.sub (.var 21) (.var 6)),
    .setIt 21 (.var 6) (.ife (.cmp 0 (.sub (.var 20) (.var 6)) (.int 2)) (.int 3) (.sub (.var 20) (.var 6))),
    .ite (.cmp 1 (.sub (.var 21) (.var 6)) (.var 23)) [.asg 24 (.get (.var 17) (.tup [(.var 6), (.var 23), (.tupleOf (.var 21)), (.var 22)]) (.int 3)),
    .asg 22 (.get (.var 17) (.tup [.neg1, .neg1, (.tupleOf (.var 21)), (.var 22)]) (.var 24))] []],
    .ret (.cmp 0 (.call 13 [(.var 15), (.var 11), (.var 19), (.var 20)]) (.var 22))]
noncomputable def f_law : FnD := ⟨30, 25, 1, ["script", "pool", "sequential", "count", "odd", "rows", "number", "edges", "at", "size", "ins", "state", "names", "faults", "kept", "made", "good", "steps", "row", "old", "new", "now", "due", "before", "edge", "step", "number", "step", "step", "bit"], b_law⟩
noncomputable def tabL : List FnD := [f_level_codes, f_is_edge, f_edge_pairs, f_edge_place, f_edge_count, f_check_primitive, f_row_faults, f_rows_conflict, f_share, f_out_code, f_plain, f_levels_match, f_next_level, f_next_state, f_step_state, f_law_pool, f_law_pick, f_law_levels, f_law_changes, f_law_steps, f_law_faults, f_law_symbol]
noncomputable def tab (f : Nat) : Option FnD := tabL[f]?
end Mine
end
section
open PySem PySem.W PyProof.Rows
set_option Elab.async false
set_option maxRecDepth 100000
namespace Mine
noncomputable def fnL : List Str := ["level_codes", "is_edge", "edge_pairs", "edge_place", "edge_count", "check_primitive", "row_faults", "rows_conflict", "share", "out_code", "plain", "levels_match", "next_level", "next_state", "step_state", "_law_pool", "_law_pick", "_law_levels", "_law_changes", "_law_steps", "_law_faults", "_law_symbol"]
noncomputable def fnN (f : Nat) : Str := fnL.getD f Str.empty
noncomputable def faL : List Nat := [42, 49, 56, 63, 70, 77, 84, 91, 98, 105, 112, 119, 124, 129, 136, 143, 150, 157, 162, 167, 172, 179]
noncomputable def faN (f : Nat) : Addr := faL.getD f 0
noncomputable def isNV (v : Value) : Bool := match v with | .none => true | _ => false
theorem isNV_eq {v : Value} (h : isNV v = true) : v = .none := by cases v <;> first | rfl | exact ff_ h
theorem isEmpty_eq {α : Type} {l : List α} (h : l.isEmpty = true) : l = [] := List.isEmpty_iff.mp h
theorem not_eq {b : Bool} (h : (!b) = true) : b = false := by cases b <;> first | rfl | exact ff_ h
noncomputable def noExtra (fd : FuncData) : Bool := fd.params.posonlyargs.isEmpty && fd.params.vararg.isNone && fd.params.kwonlyargs.isEmpty && fd.params.kwarg.isNone && isNV fd.defaults
noncomputable def parOk (fd : FuncData) (l : List Str) (n : Nat) : Bool := noExtra fd && decide (fd.params.args.map (·.arg) = l) && decide l.Nodup && Nat.beq fd.params.args.length n
theorem parOk_ok {fd : FuncData} {l : List Str} {n : Nat} (h : parOk fd l n = true) (vals : List Value) (hv : vals.length = n) : bindArgs fd ⟨vals, []⟩ = pure (l.zip vals) := by
  have q := all4 h
  have p := all5 q.1
  have e := of_decide_eq_true q.2.1
  subst e
  exact bind_args (isEmpty_eq p.1) (Option.isNone_iff_eq_none.mp p.2.1) (isEmpty_eq p.2.2.1) (Option.isNone_iff_eq_none.mp p.2.2.2.1) (isNV_eq p.2.2.2.2) (of_decide_eq_true q.2.2.1) (hv.trans (Nat.eq_of_beq_eq_true q.2.2.2).symm)
noncomputable def fdPlain (K : Frag) (fd : FuncData) : Bool := fd.closure.isEmpty && !fd.scope.isCoroutine && !fd.scope.isGenerator && decide (fd.scope.kind = .function) && codeIn K fd.code fd.qualname
noncomputable def onFD (d : Data) (f : FuncData → Bool) : Bool := match d with | .func fd => f fd | _ => false
theorem onFD_el {f : FuncData → Bool} {d : Data} (h : onFD d f = true) : ∃ fd, d = .func fd ∧ f fd = true := by cases d <;> first | exact ⟨_, rfl, h⟩ | exact ff_ h
noncomputable def onSts (d : FuncBody) (f : List Stmt → Bool) : Bool := match d with | .stmts b => f b | _ => false
theorem onSts_el {f : List Stmt → Bool} {d : FuncBody} (h : onSts d f = true) : ∃ b, d = .stmts b ∧ f b = true := by cases d <;> first | exact ⟨_, rfl, h⟩ | exact ff_ h
noncomputable def onF (K : Frag) (a : Addr) (f : FuncData → List Stmt → Bool) : Bool := onSm (K.lookup a) fun o => onFD o.data fun fd => onSts fd.body (f fd)
theorem onF_el {K : Frag} {a : Addr} {f : FuncData → List Stmt → Bool} (h : onF K a f = true) : ∃ o fd body, K.lookup a = some o ∧ o.data = .func fd ∧ fd.body = .stmts body ∧ f fd body = true :=
  onSm_el (motive := fun l => ∃ o fd body, l = some o ∧ o.data = .func fd ∧ fd.body = .stmts body ∧ f fd body = true) h fun o h => el11 (onFD_el h) fun fd e h => el11 (onSts_el h) fun b e' h => mk33 o fd b rfl e e' h
noncomputable def specIn (K : Frag) (a : Addr) (d : FnD) : Bool := onF K a fun fd body => ckFn fnN d fd.scope.names body && Nat.beq fd.globals mainGlobals && Nat.beq fd.builtins builtinsNs && fdPlain K fd && parOk fd (d.nms.take d.np) d.np
structure FdOK (K : Frag) (a : Addr) (d : FnD) (o : Obj) (fd : FuncData) (body : List Stmt) : Prop where
  at_ : K.lookup a = some o
  data : o.data = .func fd
  bod : fd.body = .stmts body
  clo : fd.closure = []
  gl : fd.globals = mainGlobals
  bu : fd.builtins = builtinsNs
  co : fd.scope.isCoroutine = false
  gen : fd.scope.isGenerator = false
  kind : fd.scope.kind = .function
  code : codeIn K fd.code fd.qualname = true
  bind : ∀ vals : List Value, vals.length = d.np → bindArgs fd ⟨vals, []⟩ = pure ((d.nms.take d.np).zip vals)
  cor : CorSs d.nms fnN d.nv0 fd.scope.names d.body body
  ok : fnOk d fd.scope.names = true
theorem fdOK_of {K : Frag} {a : Addr} {d : FnD} (h : specIn K a d = true) : ∃ o fd body, FdOK K a d o fd body :=
  el33 (onF_el h) fun o fd body h1 h2 h3 h =>
    have q := all5 h
    have p := all5 q.2.2.2.1
    have c := ckFn_ok q.1
    mk30 o fd body ⟨h1, h2, h3, isEmpty_eq p.1, Nat.eq_of_beq_eq_true q.2.1, Nat.eq_of_beq_eq_true q.2.2.1, not_eq p.2.1, not_eq p.2.2.1, of_decide_eq_true p.2.2.2.1, p.2.2.2.2, parOk_ok q.2.2.2.2, c.1, c.2⟩
theorem fnSpec_of {g : G} {K : Frag} {f : Nat} {d : FnD} (X : K.In g.h₀) (hg : g.h₀.Ns mainGlobals g.mg) (hf : g.fname = fnN) (hn : nsIn K mainGlobals (fnN f) = some (some (.ref (g.fa f)))) (h : specIn K (g.fa f) d = true) : FnSpec g f d := by
  (refine el30 (fdOK_of h) ?_; intro o fd body x)
  refine ⟨?_, o, fd, body, X _ _ x.at_, x.data, x.bod, x.clo, x.gl, x.bu, x.co, x.gen, x.kind, codeRec_of X x.code, x.bind, by rw [hf]; exact x.cor, x.ok⟩
  rw [hf]
  exact .inl (mg_of X hg hn)
noncomputable def initS (nm : Str) (t : Stmt) : Bool := onAssign t fun ts e _ => onOne ts fun x => onAttr x fun o n _ => onName o fun s _ => onName e fun v _ => decide (s = ("self" : Str)) && decide (n = nm) && decide (v = nm)
theorem initS_ok {motive : Stmt → Prop} {nm : Str} {t : Stmt} (h : initS nm t = true) (k : ∀ p1 p2 p3 p4, motive (.Assign [.Attribute (.Name "self" p1) nm p2] (.Name nm p3) p4)) : motive t := by
  refine onAssign_el h fun ts e p4 h => onOne_el h fun x h => onAttr_el h fun o n p2 h => onName_el h fun s p1 h => onName_el h fun v p3 h => ?_
  have q := all3 h
  rw [of_decide_eq_true q.1, of_decide_eq_true q.2.1, of_decide_eq_true q.2.2]
  exact k p1 p2 p3 p4
noncomputable def initB : List Str → List Stmt → Bool
  | [], ts => ts.isEmpty
  | nm :: ns, ts => onCons ts fun t r => initS nm t && initB ns r
theorem initB_ok : ∀ {ns : List Str} {r : List Stmt}, initB ns r = true → InitB ns r
  | [], _, h => nil_ h ▸ .nil
  | nm :: ns, _, h => onCons_el h fun t r h => initS_ok (motive := fun t => InitB (nm :: ns) (t :: r)) (all2 h).1 fun p1 p2 p3 p4 => .cons (initB_ok (all2 h).2)
noncomputable def initIn (K : Frag) (a : Addr) : Bool := onF K a fun fd body => fdPlain K fd && parOk fd ("self" :: primNames) 8 && initB primNames body && decide (fd.scope.names = ("self" :: primNames : List Str).map fun x => (x, NameKind.local))
theorem init_of {K : Frag} {a : Addr} (h : initIn K a = true) : ∃ o fd body, K.lookup a = some o ∧ o.data = .func fd ∧ fd.body = .stmts body ∧ fd.closure = [] ∧ fd.scope.isCoroutine = false ∧ fd.scope.isGenerator = false ∧ fd.scope.kind = .function ∧
    codeIn K fd.code fd.qualname = true ∧ (∀ vals : List Value, vals.length = 8 → bindArgs fd ⟨vals, []⟩ = pure (("self" :: primNames : List Str).zip vals)) ∧ InitB primNames body ∧ fd.scope.names = ("self" :: primNames : List Str).map fun x => (x, NameKind.local) :=
  el33 (onF_el h) fun o fd body h1 h2 h3 h =>
    have q := all4 h
    have p := all5 q.1
    mk34 o fd body h1 h2 h3 (isEmpty_eq p.1) (mk04 (not_eq p.2.1) (not_eq p.2.2.1) (of_decide_eq_true p.2.2.2.1) p.2.2.2.2 (mk02 (parOk_ok q.2.1) (initB_ok q.2.2.1) (of_decide_eq_true q.2.2.2)))
end Mine
end
section
open PySem PySem.W PyProof.Rows
set_option Elab.async false
set_option maxRecDepth 100000
set_option maxHeartbeats 8000000
namespace Mine
noncomputable def isRefAt (o : Option (Option Value)) (a : Addr) : Bool := match o with
  | some (some (.ref b)) => Nat.beq b a
  | _ => false
theorem isRefAt_eq {o : Option (Option Value)} {a : Addr} (h : isRefAt o a = true) : o = some (some (.ref a)) := by
  cases o with
  | none => exact ff_ h
  | some o => cases o with
    | none => exact ff_ h
    | some v => cases v <;> first | exact ff_ h | exact Nat.eq_of_beq_eq_true h ▸ rfl
noncomputable def allSpecs (K : Frag) : Bool := (List.range 22).all fun f => isRefAt (nsIn K mainGlobals (fnN f)) (faN f) && (match tab f with | some d => specIn K (faN f) d | none => false)
noncomputable def nameOk (K : Frag) (x : Str) : Bool := match nsIn K mainGlobals x with
  | some none => true
  | _ => false
theorem nameOk_eq {K : Frag} {x : Str} (h : nameOk K x = true) : nsIn K mainGlobals x = some none := by
  unfold nameOk at h
  cases e : nsIn K mainGlobals x with
  | none => rw [e] at h; cases h
  | some o => cases o with
    | none => rfl
    | some v => rw [e] at h; cases h
structure KFacts (K : Frag) : Prop where
  specs : allSpecs K = true
  law : specIn K 184 f_law = true
  lawName : nsIn K mainGlobals "law" = some (some (.ref 184))
  primName : nsIn K mainGlobals "Primitive" = some (some (.ref 31))
  noName : ((["len", "abs", "sorted", "int", "tuple", "range"] : List Str).all fun x => nameOk K x) = true
  prim : PrimK K 31 28
theorem bb_len : bootBuiltins "len" = some (.builtin "len") := by kernel_rfl
theorem bb_abs : bootBuiltins "abs" = some (.builtin "abs") := by kernel_rfl
theorem bb_sorted : bootBuiltins "sorted" = some (.builtin "sorted") := by kernel_rfl
theorem bb_int : bootBuiltins "int" = some (.type "int") := by kernel_rfl
theorem bb_tuple : bootBuiltins "tuple" = some (.type "tuple") := by kernel_rfl
theorem bb_range : bootBuiltins "range" = some (.type "range") := by kernel_rfl
end Mine
end
section
open PySem PySem.W PyProof.Rows
set_option Elab.async false
set_option maxRecDepth 100000
namespace Mine
noncomputable def FnOb (g : G) (a : Addr) (d : FnD) : Prop := ∃ o fd body, g.h₀.get? a = some o ∧ o.data = .func fd ∧ fd.body = .stmts body ∧ fd.closure = [] ∧ fd.globals = mainGlobals ∧ fd.builtins = builtinsNs ∧ fd.scope.isCoroutine = false ∧ fd.scope.isGenerator = false ∧ fd.scope.kind = .function ∧
    g.h₀.CodeRec fd.code fd.qualname ∧ (∀ vals : List Value, vals.length = d.np → bindArgs fd ⟨vals, []⟩ = pure ((d.nms.take d.np).zip vals)) ∧ CorSs d.nms g.fname d.nv0 fd.scope.names d.body body ∧ fnOk d fd.scope.names = true
section
variable {g : G} {n : Nat} {L : Lv} {A : Around} {M M' Mb Mb' : Addr → Prop} {P P' P₁ P₂ : Reg} {s s' s₁ s₂ : Shared} {env : Env} {nms : List Str} {tab : Nat → Option FnD}
theorem fn_enter (ok : g.OK) {a : Addr} {d : FnD} (fs : FnOb g a d) {ps : List PV} {vs : List Value} (hlen : ps.length = d.np) {R : Result → Shared → Prop}
    (rv : RlAll g.ap g.C M s.heap vs ps) (pr : Pre g (n + 1) A M P s)
    (k : ∀ {sc : Sc} {body : List Stmt} {env : Env} {Mb : Addr → Prop} {s₁ : Shared}, CorSs d.nms g.fname d.nv0 sc d.body body → ScOK sc env → FS Mb env d.nms d.nv0 → SO g n (A.deeper env) Mb env d.nms d.nv0 (fun _ => none) ⟨ps.map .fz ++ List.replicate (d.nv - d.np) .un, P⟩ s₁ → Ext0 s s₁ →
      (∀ b, Mb b → M b ∨ s.heap.get? b = none) → (∀ b, M b → Mb b) → (∀ b, LC env b → s.heap.get? b = none) →
      wpAny (model g.prog g.w) (A.deeper env) (PySem.execs body env) (fun f s' => R (.ok (.ret (match f with | .ret v => v | _ => .none))) s') NoE s₁) :
    codeAny (model g.prog g.w) A (.call (.ref a) ⟨vs, []⟩) R s := by
  (refine el34 fs ?_; try clear fs; intro o fd body ho hd hbody hclo zr0; refine el04 zr0 ?_; clear zr0; intro hgl hbu hco hgen zr1; refine el04 zr1 ?_; clear zr1; intro hkind hcd hbind hcor hok)
  simp only [fnOk, Bool.and_eq_true] at hok
  (refine el01 hok ?_; try clear hok; intro zp0 k6; refine el01 zp0 ?_; clear zp0; intro zp1 k5; refine el01 zp1 ?_; clear zp1; intro zp2 k4; refine el01 zp2 ?_; clear zp2; intro zp3 k3; refine el01 zp3 ?_; clear zp3; intro k1 k2)
  have k3 := apart_of k3
  have k4 := Nat.le_of_ble_eq_true k4
  have k5 := Nat.le_of_ble_eq_true k5
  have k6 := Nat.le_of_ble_eq_true k6
  have hbase := pr.base ok
  have hvl : vs.length = d.np := rv.length.trans hlen
  have hnd := take_nodup k3 k4 k6
  have hat : ∀ {i : Nat} {x : Str}, i < d.nv0 → d.nms[i]? = some x → isLC (fd.scope.names.lookup x) = true := fun {i x} hi hx => by
    refine List.all_eq_true.mp k2 x ?_
    have : (d.nms.take d.nv0)[i]? = some x := by rw [List.getElem?_take]; simp [hi, hx]
    exact List.mem_of_getElem? this
  have hlc : ∀ {k : Option NameKind}, isLC k = true → k = some .local ∨ k = some .cell := fun {k} h => by
    cases k with
    | none => cases h
    | some k => cases k <;> first | exact .inl rfl | exact .inr rfl | cases h
  refine codeAny_call_cells (o := o) (fd := fd) (body := body) (binds := (d.nms.take d.np).zip vs) (by have := pr.a.2.1; show A.depth < 1000; omega) (hbase _ _ ho) hd (ok.lim.keeps hbase) (hcd.keeps hbase) hbody (hbind vs hvl) hclo (fun x hx => ?_) (fun s₁ ic => ?_) hco hgen hkind
  · (refine el01 (List.of_mem_zip (a := x.1) (b := x.2) hx) ?_; intro hm _)
    (refine el10 (List.getElem?_of_mem hm) ?_; intro i hi)
    rw [List.getElem?_take] at hi
    split at hi
    · rename_i hip
      rcases hlc (hat (Nat.lt_of_lt_of_le hip k4) hi) with e | e
      · exact .inl e
      · (refine el10 (mem_cellsFrom (n := s.heap.objs.size + 1) (acc := []) (.inl (mem_lookup e))) ?_; intro c hc)
        exact .inr ⟨e, by rw [hc]; rfl⟩
    · cases hi
  · generalize hev : callEnvC fd s.heap.objs.size a = env at ic
    have hLoc : env.locals = s.heap.objs.size := by rw [← hev]; rfl
    have hcells : env.cells = cellsFrom (s.heap.objs.size + 1) fd.scope.names [] := by rw [← hev]; rfl
    have hkindOf : ∀ x, env.kindOf x = fd.scope.names.lookup x := fun x => by rw [← hev]; rfl
    have hfresh : ∀ b, LC env b → s.heap.get? b = none := by
      rintro b (rfl | ⟨x, hx⟩)
      · rw [hLoc]; exact get_size _
      · have := ic.above x b (mem_of_lookup hx)
        cases e : s.heap.get? b with
        | none => rfl
        | some o => have := Heap.lt_size e; rw [hLoc] at *; exact absurd (Nat.lt_trans ‹_› this) (Nat.lt_irrefl _)
    have e0 : Ext0 s s₁ := ⟨ic.toInCall.same, fun b o _ h => ic.toInCall.keep b o h⟩
    let Mb : Addr → Prop := fun b => M b ∨ LC env b
    have hMbf : ∀ b, Mb b → M b ∨ s.heap.get? b = none := fun b h => h.imp id (hfresh b)
    have F : FS Mb env d.nms d.nv0 := by
      refine ⟨by rw [← hev]; exact hkind, by rw [← hev]; exact hgl, by rw [← hev]; exact hbu, .inr (.inl rfl), fun x hx => ?_, fun x c hc => .inr (.inr ⟨x, hc⟩), fun x y c hx hy => ?_, fun i j x hi hj h1 h2 => apart_range k3 hi hj h1 h2, k6⟩
      · rw [hkindOf] at hx ⊢
        have hc : fd.scope.names.lookup x = some .cell := by
          cases e : fd.scope.names.lookup x with
          | none => rw [e] at hx; cases hx
          | some k =>
            have := List.all_eq_true.mp k1 _ (mem_lookup e)
            rw [e] at hx
            cases k with
            | cell => rfl
            | free => simp at this
            | _ => cases hx
        refine ⟨hc, ?_⟩
        rw [hcells]
        exact mem_cellsFrom (.inl (mem_lookup hc))
      · exact name_of_addr ic.apart (mem_of_lookup hx) (mem_of_lookup hy)
    have pr₁ : Pre g n (A.deeper env) Mb P s₁ := by
      have p0 := pr.next0 ok e0
      have p1 : Pre g (n + 1) A Mb P s₁ := p0.add (fun a q => q.imp id fun q => ⟨?_, ?_⟩) fun a q => .inl q
      · exact p1.wkN pr.a.deeper
      · exact pr.free (hfresh a q)
      · rcases q with rfl | ⟨x, hx⟩
        · (refine el31 (ic.toInCall.ns) ?_; intro o _ _ ho _); exact ⟨o, ho⟩
        · (refine el11 (ic.cell x a hx) ?_; intro o ho _); exact ⟨o, ho⟩
    have hMO : MO Mb (fun _ => none) = Mb := by
      funext b
      refine propext ⟨fun h => ?_, fun h => .inl h⟩
      rcases h with h | ⟨i, h⟩
      · exact h
      · cases h
    have rv₁ : RlAll g.ap g.C Mb s₁.heap vs ps := rv.mono (fun a o _ h => e0.all a o h) hMbf
    have S : SO g n (A.deeper env) Mb env d.nms d.nv0 (fun _ => none) ⟨ps.map .fz ++ List.replicate (d.nv - d.np) .un, P⟩ s₁ := by
      refine ⟨by rw [hMO]; exact pr₁, fun h => .inl (pr.mr h), ⟨_, ic.toInCall.ns⟩, fun x c hc => ⟨_, ic.cell x c hc⟩, fun i x hi hx => ?_, fun i hi => ⟨?_, rfl⟩, by simp; omega, fun i a h => (nomatch h), fun i j a h => (nomatch h)⟩
      · rw [hMO, lkS_args]
        cases hp : ps[i]? with
        | none => exact .un
        | some p =>
          (refine el11 (rv₁.get hp) ?_; intro v hv hr)
          refine .fz ?_ hr
          have hip : i < d.np := by rw [← hlen]; exact (List.getElem?_eq_some_iff.mp hp).1
          have hx' : (d.nms.take d.np)[i]? = some x := by rw [List.getElem?_take]; simp [hip, hx]
          (refine el01 (bind_at (k := env.kindOf) (m := fun _ => none) (cm := fun _ => none) hnd hx' hv) ?_; intro b1 b2)
          refine ⟨fun q => (mk11 _ ic.toInCall.ns (b1 (local_of q))), fun q => ?_⟩
          (refine el01 (F.cells x q) ?_; intro hk zr0; refine el10 zr0 ?_; clear zr0; intro c hc)
          refine (mk11 c hc ?_)
          have := ic.cell x c hc
          rw [b2 (by rw [hk]; decide)] at this
          exact this
      · rw [lkS_args]
        rw [List.getElem?_eq_none (by omega)]
    have sk : ScOK fd.scope.names env := fun x => by rw [hkindOf]
    exact wpAny_mono (k hcor sk F S e0 (fun b q => q.imp id fun q => hfresh b q) (fun b q => .inl q) hfresh) (fun f s' q => q) fun _ _ q => q.elim
end
end Mine
end
section
open PySem PySem.W PyProof.Rows
set_option Elab.async false
set_option maxRecDepth 100000
namespace Mine
section
variable {g : G} {n : Nat} {L : Lv} {A : Around} {M M' Mb Mb' : Addr → Prop} {P P' P₁ P₂ : Reg} {s s' s₁ s₂ : Shared} {env : Env} {nms : List Str} {tab : Nat → Option FnD} {sc : Sc} {nv0 : Nat}
theorem CorSs.split : ∀ {ss : List S} {st : S} {ts : List Stmt}, (∀ i, st ≠ .freeze i) → CorSs nms g.fname nv0 sc (ss ++ [st]) ts → ∃ ts₁ t, ts = ts₁ ++ [t] ∧ CorSs nms g.fname nv0 sc ss ts₁ ∧ CorS nms g.fname nv0 sc st t
  | [], st, ts, hf, h => by
    cases h with
    | cons h1 h2 =>
      cases h2
      exact (mk22 ([]) _ rfl .nil h1)
    | ghost h1 => exact absurd rfl (hf _)
  | s :: ss, st, ts, hf, h => by
    rw [List.cons_append] at h
    cases h with
    | cons h1 h2 =>
      (refine el22 (CorSs.split hf h2) ?_; intro ts₁ t zq0 a b; subst zq0)
      exact (mk22 (_ :: ts₁) t rfl (.cons h1 a) b)
    | ghost h1 =>
      (refine el22 (CorSs.split hf h1) ?_; intro ts₁ t zq0 a b; subst zq0)
      exact (mk22 ts₁ t rfl (.ghost a) b)
theorem execs_appW {Q : Flow → Shared → Prop} {t : Stmt} {M₀ : Model} {E : Value → Shared → Prop} {Γ : Ctx} (hΓ : Γ.In A) : ∀ {ts : List Stmt} {p : Pos} {s : Shared}, Sem.wp M₀ Γ (PySem.execs ts env) (fun f _ s' => match f with | .next => wpAny M₀ A (PySem.execs [t] env) Q E s' | f => Q f s') (fun e _ s' => E e s') p s →
    Sem.wp M₀ Γ (PySem.execs (ts ++ [t]) env) (fun a _ s' => Q a s') (fun e _ s' => E e s') p s
  | [], p, s, h => by
    rw [execs_nil, Sem.wp_pure'] at h
    exact h Γ p hΓ
  | u :: ts, p, s, h => by
    rw [execs_cons, Sem.wp_bind'] at h
    rw [List.cons_append, execs_cons, Sem.wp_bind']
    refine Sem.wp_mono M₀ Γ _ (fun f p' s' h' => ?_) (fun _ _ _ h' => h') _ _ h
    cases f with
    | next => exact execs_appW hΓ h'
    | _ => exact h'
theorem execs_app {Q : Flow → Shared → Prop} {t : Stmt} {M₀ : Model} {E : Value → Shared → Prop} {ts : List Stmt} {s : Shared} (h : wpAny M₀ A (PySem.execs ts env) (fun f s' => match f with | .next => wpAny M₀ A (PySem.execs [t] env) Q E s' | f => Q f s') E s) : wpAny M₀ A (PySem.execs (ts ++ [t]) env) Q E s :=
  fun Γ p hΓ => execs_appW hΓ (h Γ p hΓ)
end
end Mine
end
section
open PySem PySem.W PyProof.Rows
set_option Elab.async false
set_option maxRecDepth 100000
namespace Mine
section
variable {g : G} {n : Nat} {L : Lv} {A : Around} {M M' Mb Mb' : Addr → Prop} {P P' P₁ P₂ : Reg} {s s' s₁ s₂ : Shared} {env : Env} {nms : List Str} {tab : Nat → Option FnD} {sc : Sc} {nv0 : Nat} {ow : Nat → Option Addr} {σ σ' : St}
theorem xr_none {a : Addr} (h : XR g none a) : False := by
  (refine el01 h ?_; try clear h; intro h _)
  cases h
theorem old_none {X : Addr → Prop} (x : Ext X s s') (hX : ∀ b, X b → s.heap.get? b = none) {a : Addr} (h : s'.heap.get? a = none) : s.heap.get? a = none := by
  cases e : s.heap.get? a with
  | none => rfl
  | some o =>
    have := x.keep a o (fun q => by rw [hX a q] at e; cases e) e
    rw [h] at this; cases this
theorem ext_old {X : Addr → Prop} (x : Ext X s s') (hX : ∀ b, X b → s.heap.get? b = none) : Ext0 s s' :=
  ⟨x.same, fun b o _ e => x.keep b o (fun q => by rw [hX b q] at e; cases e) e⟩
theorem fresh_run (ok : g.OK) (hE : ExOK g n L) (hz : FzOK L) (hL : EvOK g n L) {a : Addr} {d : FnD} (fs : FnOb g a d) {ss : List S} {xs : List X} (hd : d.body = ss ++ [.ret (.list xs)]) {ps : List PV} {vs : List Value} (hlen : ps.length = d.np) {σ₁ : St} {l : List PV}
    (h1 : execs L.ex ss ⟨ps.map .fz ++ List.replicate (d.nv - d.np) .un, none⟩ = some (.nx, σ₁)) (h2 : L.ev (.list xs) (viewA σ₁.loc) σ₁.reg = some (.list l, none)) (rv : RlAll g.ap g.C M s.heap vs ps) (pr : Pre g (n + 1) A M none s) :
    codeAny (model g.prog g.w) A (.call (.ref a) ⟨vs, []⟩) (fun r s' => ∃ b, r = .ok (.ret (.ref b)) ∧ Ext0 s s' ∧ s.heap.get? b = none ∧ Rl g.ap g.C M s'.heap (.ref b) (.list l)) s := by
  refine fn_enter ok fs hlen rv pr fun {sc body env Mb s₁} hcor sk F S e0 hMb hMM hfr => ?_
  rw [hd] at hcor
  (refine el22 (CorSs.split (fun i q => by cases q) hcor) ?_; intro ts t zq0 c1 c2; subst zq0)
  (refine el21 (c2.inv) ?_; intro rv' rp zq0 ce; subst zq0)
  refine execs_app (wpAny_mono (execs_step hE hz ok c1 h1 sk F S) (fun f s₂ q => ?_) fun _ _ q => q)
  (refine el14 q ?_; try clear q; intro ow' S' x' hw' hs' zr0; refine el01 zr0 ?_; clear zr0; intro _ hf)
  cases hf
  refine wpAny_execs_cons (wpAny_Return_some (mono_ (hL ce h2 sk (S'.frA ok F) S'.prB) fun v s₃ q => ?_))
  (refine el12 (q.fresh rfl rfl) ?_; intro b zq0 hb _; subst zq0)
  have x1 : Ext (LC env) s₁ s₂ := x'.wk fun b q => by
    rcases q with q | q | ⟨i, q⟩
    · exact (xr_none q).elim
    · exact q
    · cases q
  have x2 : Ext0 s s₂ := ext_old ((e0.wk (Y := LC env) fun _ q => q.elim).tr x1) hfr
  have x3 : Ext0 s₂ s₃ := q.ext.wk fun b q => by
    have : σ₁.reg = none := by cases h : σ₁.reg with | none => rfl | some l => rw [h] at hs'; cases hs'
    rw [this] at q
    exact xr_none q
  exact (mk13 b rfl (x2.tr x3) (old_none x2 (fun _ q => q.elim) hb) (q.rl.mono (fun _ _ _ e => e) fun c q => .inl (hMM c q)))
end
end Mine
end
section
open PySem PySem.W PyProof.Rows
set_option Elab.async false
set_option maxRecDepth 100000
namespace Mine
theorem ints_any {ap ap' C C' : Addr} {M M' : Addr → Prop} {h h' : Heap} : ∀ {ns : List Int} {vs : List Value}, RlAll ap C M h vs (ns.map .int) → RlAll ap' C' M' h' vs (ns.map .int)
  | [], _, r => by cases r; exact .nil
  | i :: ns, _, r => by
    rw [List.map_cons] at r ⊢
    cases r with
    | cons x r => cases x; exact .cons (.int _ _) (ints_any r)
theorem list_uniq {h : Heap} {a : Addr} {vs ws : Array Value} (x : h.IsList a vs) (y : h.IsList a ws) : vs = ws := by
  (refine el12 x ?_; try clear x; intro o e _ zr0; refine el10 zr0 ?_; clear zr0; intro n d)
  (refine el12 y ?_; try clear y; intro o' e' _ zr0; refine el10 zr0 ?_; clear zr0; intro n' d')
  rw [e] at e'; cases e'
  rw [d] at d'; cases d'; rfl
theorem not_same {ap ap' C C' : Addr} {M M' : Addr → Prop} {h : Heap} {a : Addr} {vs ws : Array Value} {f : List PV} {r : List PV} {ns : List Int} (x : h.IsList a vs) (hx : RlAll ap C M h vs.toList (.list f :: r)) (y : h.IsList a ws) (hy : RlAll ap' C' M' h ws.toList (ns.map .int)) : False := by
  rw [list_uniq x y] at hx
  revert hy
  refine RlAll.cons_el hx fun v vs q1 _ hy => ?_
  cases ns with
  | nil => exact nomatch hy.nil_inv
  | cons i ns =>
    revert q1
    exact RlAll.cons_el (motive := fun l => Rl ap C M h (l.headD .none) (.list f) → False) (l := ns.map .int) hy fun u _ q _ => Rl.int_el (motive := fun u => Rl ap C M h u (.list f) → False) q fun t q1 => (Rl.list_el (motive := fun v => ∃ a, v = .ref a) q1 fun a _ _ _ _ => mk10 a rfl).elim fun _ e => nomatch e
noncomputable def mkG (prog : Program) (w : World) (h₀ : Heap) (mg mb : Str → Option Value) (B : Addr → Option Obj) (ap : Addr) : G := ⟨prog, w, h₀, B, ap, 31, mg, mb, faN, fnN⟩
open Classical in
noncomputable def B2 (Mb : Addr → Prop) (b : Addr) (h : Heap) : Addr → Option Obj := fun x => if x = b ∨ Mb x then none else h.get? x
theorem B2_in {Mb : Addr → Prop} {b x : Addr} {h : Heap} (q : x = b ∨ Mb x) : B2 Mb b h x = none := if_pos q
theorem B2_out {Mb : Addr → Prop} {b x : Addr} {h : Heap} (q : ¬ (x = b ∨ Mb x)) : B2 Mb b h x = h.get? x := if_neg q
theorem B2_get {Mb : Addr → Prop} {b x : Addr} {h : Heap} {o : Obj} (e : B2 Mb b h x = some o) : h.get? x = some o := by
  unfold B2 at e
  split at e
  · cases e
  · exact e
theorem lkS_rep {sl : Slot} {k i : Nat} : lkS (sl :: List.replicate k .un) (i + 1) = .un := by
  unfold lkS
  rw [List.getD_cons_succ, List.getD_eq_getElem?_getD]
  by_cases h : i < k
  · rw [List.getElem?_replicate, if_pos h]; rfl
  · rw [List.getElem?_replicate, if_neg h]; rfl
section
variable {prog : Program} {w : World} {h₀ : Heap} {mg mb : Str → Option Value} {B : Addr → Option Obj} {ap : Addr} {n k : Nat} {A : Around} {Mb : Addr → Prop} {env : Env} {nms : List Str} {nv0 : Nat} {s s₁ s₂ : Shared} {ns figs : List Int} {mix : Int} {b : Addr}
theorem to_g2 (S : SO (mkG prog w h₀ mg mb B ap) n A Mb env nms nv0 (fun _ => none) ⟨.fz (.list (ns.map .int)) :: List.replicate k .un, none⟩ s₂) (hR : Rl ap 31 Mb s₂.heap (.ref b) (.list [.list (figs.map .int), .int 0, .int mix])) :
    SO (mkG prog w h₀ mg mb (B2 Mb b s₂.heap) b) n A (fun x => Mb x ∨ x = b) env nms nv0 (fun _ => none) ⟨.fz (.list (ns.map .int)) :: List.replicate k .un, some [.list (figs.map .int), .int 0, .int mix]⟩ s₂ := by
  have hMO : ∀ {a}, MO (fun x => Mb x ∨ x = b) (fun _ => none) a → Mb a ∨ a = b := by
    rintro a (q | ⟨i, q⟩)
    · exact q
    · cases q
  cases hR with
  | @list _ vs _ nb hl hall =>
    refine ⟨⟨S.pr.a, fun a q => ?_, fun a q => B2_in ((hMO q).symm), fun _ => .inl (.inr rfl), (mk11 vs hl ?_), fun a o e => B2_get e⟩, fun _ => .inr rfl, S.ns, S.cellAt, fun i x h1 h2 => ?_, S.hi, S.len, fun i a q => (nomatch q), fun i j a q => (nomatch q)⟩
    · rcases hMO q with q | rfl
      · exact S.pr.ma a (.inl q)
      · (refine el11 hl ?_; try clear hl; intro o ho _)
        exact ⟨o, ho⟩
    · have hall' := hall
      generalize vs.toList = l at hall'
      cases hall' with
      | cons q1 q2 => cases q2 with
        | cons q3 q4 => cases q4 with
          | cons q5 q6 => cases q6; cases q3; cases q5; cases q1 with
            | @list c ws _ nc hc hcl =>
              refine .cons (.list (fun q => ?_) hc (ints_any hcl)) (.cons (.int _ _) (.cons (.int _ _) .nil))
              have : ¬ (c = b ∨ Mb c) := by
                rintro (rfl | q)
                · exact not_same hl hall hc hcl
                · exact nc q
              have q' : B2 Mb b s₂.heap c = none := q
              rw [B2_out this] at q'
              (refine el11 hc ?_; try clear hc; intro o ho _)
              rw [q'] at ho; cases ho
    · have q := S.slots i x h1 h2
      cases i with
      | zero =>
        have e : lkS (Slot.fz (.list (ns.map .int)) :: List.replicate k .un) 0 = .fz (.list (ns.map .int)) := rfl
        rw [e] at q ⊢
        cases q with
        | fz h3 h4 =>
          refine .fz h3 ?_
          cases h4 with
          | list na ha hal =>
            refine .list (fun q => ?_) ha (ints_any hal)
            rcases hMO q with q | rfl
            · exact na (.inl q)
            · exact not_same hl hall ha hal
      | succ i =>
        rw [lkS_rep] at q ⊢
        exact .un
end
end Mine
end
section
open PySem PySem.W PyProof.Rows
set_option Elab.async false
set_option maxRecDepth 100000
namespace Mine
section
variable {prog : Program} {w : World} {mg mb : Str → Option Value} {A : Around} {s : Shared} {l : Addr} {vs : Array Value} {ns figs : List Int} {mix : Int} {N : Nat} {σ₁ σ₂ : St}
noncomputable def law0 (ns : List Int) : List Slot := .fz (.list (ns.map .int)) :: List.replicate 29 .un
noncomputable def law1 (ns : List Int) : List Slot := .fz (.list (ns.map .int)) :: .fz .pool :: List.replicate 28 .un
noncomputable def pool0 (ns : List Int) : List Slot := .fz (.list (ns.map .int)) :: List.replicate 6 .un
theorem law_run (hOK : ∀ B ap, (∀ a o, s.heap.get? a = some o → B a = some o) → B ap = none → (mkG prog w s.heap mg mb B ap).OK)
    (hFn : ∀ B ap f d, tab f = some d → FnSpec (mkG prog w s.heap mg mb B ap) f d) (hLaw : ∀ B ap, FnOb (mkG prog w s.heap mg mb B ap) 184 f_law)
    (hl : s.heap.IsList l vs) (hi : IntsAre vs.toList ns) (hA : AOK (N + 2) A)
    (h1 : execs (lv srtF tab N).ex (b_law_pool.take 3) ⟨pool0 ns, none⟩ = some (.nx, σ₁))
    (h2 : (lv srtF tab N).ev (.list [.var 1, .int 0, .var 2]) (viewA σ₁.loc) σ₁.reg = some (.list [.list (figs.map .int), .int 0, .int mix], none))
    (h3 : execs (lv srtF tab (N + 1)).ex (b_law.drop 1) ⟨law1 ns, some [.list (figs.map .int), .int 0, .int mix]⟩ = some (.rt (.bool true), σ₂)) :
    codeAny (model prog w) A (.call (.ref 184) ⟨[.ref l], []⟩) (fun r s' => r = .ok (.ret (.bool true)) ∧ Ext0 s s') s := by
  have ok₁ := hOK s.heap.get? s.heap.objs.size (fun _ _ e => e) (get_size _)
  have lo₁ := lv_ok (srt := srtF) (tab := tab) ok₁ (sort_srt _) (hFn s.heap.get? s.heap.objs.size)
  have hints : RlAll s.heap.objs.size 31 (fun _ => False) s.heap vs.toList (ns.map .int) := by
    clear h1 h2 h3
    generalize vs.toList = us at hi
    induction hi with
    | nil => exact .nil
    | cons _ _ _ ih => exact .cons (.int _ _) ih
  have rv : RlAll s.heap.objs.size 31 (fun _ => False) s.heap [.ref l] [.list (ns.map .int)] := .cons (.list id hl hints) .nil
  have pr : Pre (mkG prog w s.heap mg mb s.heap.get? s.heap.objs.size) (N + 1 + 1) A (fun _ => False) none s := ⟨hA, fun _ q => q.elim, fun _ q => q.elim, fun q => (nomatch q), trivial, fun _ _ e => e⟩
  refine fn_enter (n := N + 1) ok₁ (hLaw _ _) (ps := [.list (ns.map .int)]) rfl rv pr fun {sc body env Mb s₁} hcor sk F S e0 hMb hMM hfr => ?_
  have hcor : CorSs f_law.nms fnN 25 sc (.asgF 1 (.call 15 [.var 0]) :: b_law.drop 1) body := hcor
  have S : SO (mkG prog w s.heap mg mb s.heap.get? s.heap.objs.size) (N + 1) (A.deeper env) Mb env f_law.nms 25 (fun _ => none) ⟨law0 ns, none⟩ s₁ := S
  cases hcor with
  | cons c1 c2 =>
        (refine el42 (c1.inv) ?_; intro nx ve np np' zq0 hv ce; subst zq0)
        (refine el42 (ce.inv) ?_; intro e' es cp cp' zq0 hg hs; subst zq0)
        have fs := hFn s.heap.get? s.heap.objs.size 15 f_law_pool rfl
        (refine el32 (fs.ob) ?_; intro o fd bd ho hd rest)
        (refine el03 (varAt_spec hv sk) ?_; intro hi' hx hk hn)
        simp only [isG, Bool.and_eq_true, beq_iff_eq, Bool.not_eq_true'] at hg
        refine wpAny_execs_cons (wpAny_Assign_Name ?_ (swaps_plain rfl))
        refine wpAny_Call_Name_kw (load_glob ok₁ S.pr (S.frF F) ((sk _).symm.trans hg.1) hg.2 fs.glob ?_)
        refine Calls.callWith_function (o := o) (fd := fd) (evalArgs_of hs (many_ (lo₁ (N + 1)).ev ok₁ sk _ hs (ps := [.list (ns.map .int)]) (P' := none) rfl (S.frF F) S.pr fun us s₂ x₁ pr₁ f₁ r₁ h₁ => ?_))
        refine ⟨⟨pr₁.kb _ _ ho, hd⟩, wpAny_call (codeAny_mono (fresh_run ok₁ (lo₁ N).ex (lo₁ N).fz (lo₁ N).ev (a := faN 15) (d := f_law_pool) (mk32 o fd bd ho hd rest) (ss := b_law_pool.take 3) (ps := [.list (ns.map .int)]) rfl rfl h1 h2 r₁ pr₁) fun r s₃ q => ?_)⟩
        (refine el13 q ?_; try clear q; intro b zq0 e2 hb hR; subst zq0)
        have x₁' : Ext0 s₁ s₂ := x₁.wk fun _ q => xr_none q
        have y3 : Ext0 s s₃ := (e0.tr x₁').tr e2
        have hbs : s.heap.get? b = none := old_none (e0.tr x₁') (fun _ q => q.elim) hb
        have S₂ : SO (mkG prog w s.heap mg mb s.heap.get? s.heap.objs.size) (N + 1) (A.deeper env) Mb env f_law.nms 25 (fun _ => none) ⟨law0 ns, none⟩ s₃ :=
          S.ev (fun _ q => .inl q) (fun _ q => q) ((x₁'.tr e2).wk fun _ q => q.elim) (pr₁.next0 ok₁ e2) rfl F
        have S₃ := to_g2 S₂ (hR.mono (fun _ _ _ e => e) fun a q => .inl (.inl q))
        have hnM : ∀ a o, s.heap.get? a = some o → ¬ (a = b ∨ Mb a) := by
          rintro a o e (rfl | q)
          · rw [hbs] at e; cases e
          · rcases hMb a q with q | q
            · exact q
            · rw [q] at e; cases e
        have ok₂ := hOK (B2 Mb b s₃.heap) b (fun a o e => by rw [B2_out (hnM a o e)]; exact y3.all a o e) (B2_in (.inl rfl))
        have lo₂ := lv_ok (srt := srtF) (tab := tab) ok₂ (sort_srt _) (hFn (B2 Mb b s₃.heap) b)
        have F₂ : FS (fun x => Mb x ∨ x = b) env f_law.nms 25 := F.wk fun _ q => .inl q
        refine S₃.storeF F₂ hi' hx hk Rl.pool fun s₄ x₄ S₄ => ?_
        have hup : upd (fun _ => none) 1 none = (fun _ => none : Nat → Option Addr) := by
          funext j
          unfold upd
          split <;> rfl
        rw [hup] at S₄
        refine wpAny_mono (execs_step (lo₂ (N + 1)).ex (lo₂ (N + 1)).fz ok₂ c2 h3 sk F₂ S₄) (fun f s₅ q => ?_) fun _ _ q => q
        (refine el14 q ?_; try clear q; intro ow' S' x' hw' hs' zr0; refine el01 zr0 ?_; clear zr0; intro _ hf)
        cases hf with
        | rt hr =>
          cases hr
          refine ⟨rfl, ?_⟩
          have z : Ext (fun a => a = b ∨ LC env a) s s₅ := by
            refine ((y3.wk fun _ q => q.elim).tr (x₄.wk fun _ q => .inr q)).tr (x'.wk fun a q => ?_)
            rcases q with q | q | ⟨i, q⟩
            · exact .inl q.2
            · exact .inr q
            · cases q
          exact ext_old z fun a q => q.elim (fun q => q ▸ hbs) (hfr a)
end
end Mine
end
section
open PySem PySem.W PyProof.Rows
set_option Elab.async false
set_option maxRecDepth 100000
set_option maxHeartbeats 8000000
namespace Mine
noncomputable def Plain (N : Nat) (ns : List Int) : Prop := ∃ (figs : List Int) (mix : Int) (σ₁ σ₂ : St),
  execs (lv srtF tab N).ex (b_law_pool.take 3) ⟨pool0 ns, none⟩ = some (.nx, σ₁) ∧
  (lv srtF tab N).ev (.list [.var 1, .int 0, .var 2]) (viewA σ₁.loc) σ₁.reg = some (.list [.list (figs.map .int), .int 0, .int mix], none) ∧
  execs (lv srtF tab (N + 1)).ex (b_law.drop 1) ⟨law1 ns, some [.list (figs.map .int), .int 0, .int mix]⟩ = some (.rt (.bool true), σ₂)
section
variable {K : Frag} {prog : Program} {w : World} {s : Shared} {mg mb : Str → Option Value} {p : Program} {loose : List Str} {mean : ExcName → Option Value}
theorem g_ok (KF : KFacts K) (KX : K.In s.heap) (T : Top p loose mean mg mb s.heap) (B : Addr → Option Obj) (ap : Addr) (hsys : ∃ o, s.heap.get? sysModules = some o) (base : ∀ a o, s.heap.get? a = some o → B a = some o) (hap : B ap = none) : (mkG prog w s.heap mg mb B ap).OK := by
  have X : ∀ h : Heap, (∀ b o, B b = some o → h.get? b = some o) → K.In h := fun h hb a o e => hb a o (base a o (KX a o e))
  have no : ∀ x ∈ (["len", "abs", "sorted", "int", "tuple", "range"] : List Str), nsIn K mainGlobals x = some none := fun x hx => nameOk_eq (List.all_eq_true.mp KF.noName x hx)
  refine ⟨base, hap, ?_, T.g, T.b, T.nolimit, ?_, ?_, ?_, ?_, ?_, ?_, .inl (mg_of KX T.g (KF.primName)), ?_, ?_, ?_⟩
  · (refine el10 hsys ?_; try clear hsys; intro o ho)
    exact ⟨o, base _ _ ho⟩
  · exact .inr ⟨mg_none_of KX T.g (no _ (by simp)), (T.builtins _ (by decide)).trans bb_len⟩
  · exact .inr ⟨mg_none_of KX T.g (no _ (by simp)), (T.builtins _ (by decide)).trans bb_abs⟩
  · exact .inr ⟨mg_none_of KX T.g (no _ (by simp)), (T.builtins _ (by decide)).trans bb_sorted⟩
  · exact .inr ⟨mg_none_of KX T.g (no _ (by simp)), (T.builtins _ (by decide)).trans bb_int⟩
  · exact .inr ⟨mg_none_of KX T.g (no _ (by simp)), (T.builtins _ (by decide)).trans bb_tuple⟩
  · exact .inr ⟨mg_none_of KX T.g (no _ (by simp)), (T.builtins _ (by decide)).trans bb_range⟩
  · intro A s' a dx od n v Q h1 h2 h3 h4 h5 h6 h7
    exact prim_attr (g := mkG prog w s.heap mg mb B ap) X (KF.prim) h1 h2 h3 h4 h5 h6 h7
  · intro A s' pos args Q h1 h2
    exact prim_call (g := mkG prog w s.heap mg mb B ap) X (KF.prim) h1 h2
  · intro A s' M vs l n h1 h2 h3 h4 h5
    exact prim_make (g := mkG prog w s.heap mg mb B ap) X (KF.prim) T.nolimit base h1 h2 h3 h4 h5
theorem g_fn (KF : KFacts K) (KX : K.In s.heap) (T : Top p loose mean mg mb s.heap) (B : Addr → Option Obj) (ap : Addr) (f : Nat) (d : FnD) (h : tab f = some d) : FnSpec (mkG prog w s.heap mg mb B ap) f d := by
  have all := KF.specs
  unfold allSpecs at all
  have hf : f < 22 := by
    exact (List.getElem?_eq_some_iff.mp (show tabL[f]? = some d from h)).1
  have := List.all_eq_true.mp all f (List.mem_range.mpr hf)
  rw [h, Bool.and_eq_true] at this
  exact fnSpec_of (g := mkG prog w s.heap mg mb B ap) KX T.g rfl (isRefAt_eq this.1) this.2
theorem g_law (KF : KFacts K) (KX : K.In s.heap) (B : Addr → Option Obj) (ap : Addr) : FnOb (mkG prog w s.heap mg mb B ap) 184 f_law := by
  (refine el30 (fdOK_of (KF.law)) ?_; intro o fd body x)
  exact (mk34 o fd body (KX _ _ x.at_) x.data x.bod x.clo (mk04 x.gl x.bu x.co x.gen (mk04 x.kind (codeRec_of KX x.code) x.bind x.cor x.ok)))
end
end Mine
end
section
open PySem PySem.W PyProof.Rows
set_option Elab.async false
set_option maxRecDepth 100000
namespace Mine
noncomputable def Gv {α β : Type} (r : Option (α × β)) (Q : α → β → Prop) : Prop := ∃ a b, r = some (a, b) ∧ Q a b
theorem Gv.mono {α β : Type} {r : Option (α × β)} {Q Q' : α → β → Prop} (h : Gv r Q) (k : ∀ a b, Q a b → Q' a b) : Gv r Q' := let ⟨a, b, e, q⟩ := h; (mk21 a b e (k a b q))
structure Wp where
  ev : X → Vw → Reg → (PV → Reg → Prop) → Prop
  evT : X → Vw → Reg → (Bool → Reg → Prop) → Prop
  ex : S → St → (Fl → St → Prop) → Prop
  fn : Nat → List PV → Reg → (PV → Reg → Prop) → Prop
noncomputable def wEs (f : X → Vw → Reg → (PV → Reg → Prop) → Prop) : List X → Vw → Reg → (List PV → Reg → Prop) → Prop
  | [], _, P, Q => Q [] P
  | x :: xs, ρ, P, Q => f x ρ P fun v P₁ => wEs f xs ρ P₁ fun vs P₂ => Q (v :: vs) P₂
noncomputable def wSs (f : S → St → (Fl → St → Prop) → Prop) : List S → St → (Fl → St → Prop) → Prop
  | [], σ, Q => Q .nx σ
  | s :: ss, σ, Q => f s σ fun fl σ₁ => match fl with
    | .nx => wSs f ss σ₁ Q
    | fl => Q fl σ₁
noncomputable def wCond (W : Wp) (c : Option X) (ρ : Vw) (P : Reg) (Q : Bool → Reg → Prop) : Prop := match c with
  | Option.none => Q true P
  | some c => W.evT c ρ P Q
noncomputable def wElt (W : Wp) (elt : X) (c : Option X) (t : Tgt) (ρ : Vw) (x : PV) (P : Reg) (Q : List PV → Reg → Prop) : Prop :=
  ∃ ρ₁, bindT t x ρ = some ρ₁ ∧ wCond W c ρ₁ P fun b P₁ => match b with
    | true => W.ev elt ρ₁ P₁ fun v P₂ => Q [v] P₂
    | false => Q [] P₁
noncomputable def stepWE (W : Wp) (L : Lv) (srt : List PV → Option (List PV)) (x : X) (ρ : Vw) (P : Reg) (Q : PV → Reg → Prop) : Prop :=
  match x with
  | .none => Q .none P
  | .bool b => Q (.bool b) P
  | .int i => Q (.int i) P
  | .sym k => k < stN ∧ Q (.sym k) P
  | .neg1 => Q (.int (-1)) P
  | .var i => ∃ p, lk ρ i = some p ∧ Q p P
  | .bin op a b => W.ev a ρ P fun x P₁ => W.ev b ρ P₁ fun y P₂ => ∃ r, opBin op x y = some r ∧ Q r P₂
  | .not _ => False
  | .and a b => W.ev a ρ P fun x P₁ => ∃ c, x = .bool c ∧ match c with
    | false => Q (.bool false) P₁
    | true => W.ev b ρ P₁ Q
  | .or a b => W.ev a ρ P fun x P₁ => ∃ c, x = .bool c ∧ match c with
    | true => Q (.bool true) P₁
    | false => W.ev b ρ P₁ Q
  | .cmp op a b => W.ev a ρ P fun x P₁ => W.ev b ρ P₁ fun y P₂ => ∃ r, opCmp op x y = some r ∧ Q (.bool r) P₂
  | .isNone a => W.ev a ρ P fun x P₁ => Q (.bool x.isNone) P₁
  | .notNone a => W.ev a ρ P fun x P₁ => Q (.bool (!x.isNone)) P₁
  | .ife t a b => W.evT t ρ P fun c P₁ => match c with
    | true => W.ev a ρ P₁ Q
    | false => W.ev b ρ P₁ Q
  | .call f args => wEs W.ev args ρ P fun vs P₁ => W.fn f vs P₁ Q
  | .len a => W.ev a ρ P fun x P₁ => ∃ r, opLen x = some r ∧ Q r P₁
  | .toInt a => W.ev a ρ P fun x P₁ => ∃ r, opInt x = some r ∧ Q r P₁
  | .abs a => W.ev a ρ P fun x P₁ => ∃ r, opAbs x = some r ∧ Q r P₁
  | .tupleOf a => W.ev a ρ P fun x P₁ => ∃ r, opTuple x = some r ∧ Q r P₁
  | .sorted a => W.ev a ρ P fun x P₁ => ∃ l r, x = .list l ∧ srt l = some r ∧ Q (.list r) P₁
  | .prim args => wEs W.ev args ρ P fun vs P₁ => vs.length = 7 ∧ Q (.prim vs) P₁
  | .attr a k => W.ev a ρ P fun x P₁ => ∃ r, opAttr x k = some r ∧ Q r P₁
  | .sub a i => W.ev a ρ P fun x P₁ => W.ev i ρ P₁ fun y P₂ => ∃ r, opSub P₂ x y = some r ∧ Q r P₂
  | .strAt cs i => W.ev i ρ P fun x P₁ => ∃ r, opStrAt cs x = some r ∧ Q r P₁
  | .sliceTo a u => W.ev a ρ P fun x P₁ => W.ev u ρ P₁ fun y P₂ => ∃ r, opSliceTo x y = some r ∧ Q r P₂
  | .sliceFrom1 a => W.ev a ρ P fun x P₁ => ∃ r, opSliceFrom1 x = some r ∧ Q r P₁
  | .tup l => l.length < 64 ∧ wEs W.ev l ρ P fun vs P₁ => Q (.tup vs) P₁
  | .list l => l.length < 64 ∧ wEs W.ev l ρ P fun vs P₁ => Q (.list vs) P₁
  | .dict0 => Q (.dict []) P
  | .get d k v => W.ev d ρ P fun x P₁ => W.ev k ρ P₁ fun y P₂ => W.ev v ρ P₂ fun z P₃ => ∃ r, opGet x y z = some r ∧ Q r P₃
  | .menu keys vals i => W.ev i ρ P fun x P₁ => ∃ r, opMenu keys vals x = some r ∧ Q r P₁
  | .comp1 elt t k e c hide => W.ev e ρ P fun src P₁ => ∃ items, iterItems k src = some items ∧ Gv (compLoop (compElt L elt c t (hideAll hide ρ)) items P₁) fun l P₂ => small l = true ∧ Q (.list l) P₂
  | .comp2 elt t₁ k₁ e₁ t₂ k₂ e₂ c hide => W.ev e₁ ρ P fun src P₁ => ∃ items, iterItems k₁ src = some items ∧ Gv (compLoop (compIn L elt c t₁ t₂ k₂ e₂ (hideAll hide ρ)) items P₁) fun l P₂ => small l = true ∧ Q (.list l) P₂
noncomputable def stepWT (W : Wp) (x : X) (ρ : Vw) (P : Reg) (Q : Bool → Reg → Prop) : Prop :=
  match x with
  | .not a => W.evT a ρ P fun b P₁ => Q (!b) P₁
  | .and a b => W.evT a ρ P fun c P₁ => match c with
    | false => Q false P₁
    | true => W.evT b ρ P₁ Q
  | .or a b => W.evT a ρ P fun c P₁ => match c with
    | true => Q true P₁
    | false => W.evT b ρ P₁ Q
  | .ife .. => False
  | x => W.ev x ρ P fun v P₁ => ∃ b, v = .bool b ∧ Q b P₁
noncomputable def bodyOf (L : Lv) (t : Tgt) (body : List S) (x : PV) (σ : St) : Option (Fl × St) := (bindS t x σ.loc).bind fun loc => execs L.ex body ⟨loc, σ.reg⟩
noncomputable def stepWX (W : Wp) (L : Lv) (s : S) (σ : St) (Q : Fl → St → Prop) : Prop :=
  match s with
  | .asg i e => W.ev e (viewA σ.loc) σ.reg fun p P => p.flat = true ∧ Q .nx ⟨σ.loc.set i (.fz p), P⟩
  | .asgF i e => W.ev e (viewF σ.loc) σ.reg fun p P => Q .nx ⟨σ.loc.set i (.fz p), P⟩
  | .own i e => freshForm e = true ∧ W.ev e (viewF σ.loc) σ.reg fun p P => p.ownable = true ∧ Q .nx ⟨σ.loc.set i (.ow p), P⟩
  | .unp is e => W.ev e (viewF σ.loc) σ.reg fun p P => ∃ l loc, p = .tup l ∧ setAllS is l σ.loc = some loc ∧ Q .nx ⟨loc, P⟩
  | .setIt i idx e => W.ev e (viewA σ.loc) σ.reg fun v P₁ => v.flat = true ∧ W.ev idx (viewA σ.loc) P₁ fun j P₂ =>
      (∃ l k, lkS σ.loc i = .ow (.list l) ∧ j = .int k ∧ (0 ≤ k ∧ k.toNat < l.length ∧ small l = true) ∧ Q .nx ⟨σ.loc.set i (.ow (.list (l.set k.toNat v))), P₂⟩) ∨
      (∃ d k u, lkS σ.loc i = .ow (.dict d) ∧ decK j = some k ∧ v = .int u ∧ d.length < 65536 ∧ Q .nx ⟨σ.loc.set i (.ow (.dict (dput d k u))), P₂⟩) ∨
      (∃ l k u, lkS σ.loc i = .fz .pool ∧ P₂ = some l ∧ j = .int k ∧ v = .int u ∧ (0 ≤ k ∧ k.toNat < l.length ∧ small l = true) ∧ Q .nx ⟨σ.loc, some (l.set k.toNat (.int u))⟩)
  | .augPool i j k => ∃ l a, lkS σ.loc i = .fz .pool ∧ σ.reg = some l ∧ small l = true ∧ l[j]? = some (.int a) ∧ Q .nx ⟨σ.loc, some (l.set j (.int (a + (k : Int))))⟩
  | .augI i op e => ∃ a, lkS σ.loc i = .fz (.int a) ∧ W.ev e (viewA σ.loc) σ.reg fun v P => ∃ b, v = .int b ∧
      ((op = 0 ∧ Q .nx ⟨σ.loc.set i (.fz (.int (a + b))), P⟩) ∨ (op ≠ 0 ∧ b = 840 ∧ Q .nx ⟨σ.loc.set i (.fz (.int (a.fdiv b))), P⟩))
  | .ext i e => freshForm e = true ∧ ∃ l, lkS σ.loc i = .ow (.list l) ∧ W.ev e (viewA σ.loc) σ.reg fun v P => ∃ m, v = .list m ∧ (flatL m && small l && small m) = true ∧ Q .nx ⟨σ.loc.set i (.ow (.list (l ++ m))), P⟩
  | .app i e => ∃ l, lkS σ.loc i = .ow (.list l) ∧ W.ev e (viewA σ.loc) σ.reg fun v P => (v.flat && small l) = true ∧ Q .nx ⟨σ.loc.set i (.ow (.list (l ++ [v]))), P⟩
  | .appF i e => ∃ l, lkS σ.loc i = .ow (.list l) ∧ W.ev e (viewF σ.loc) σ.reg fun v P => small l = true ∧ Q .nx ⟨σ.loc.set i (.ow (.list (l ++ [v]))), P⟩
  | .upd i e => ∃ d, lkS σ.loc i = .ow (.dict d) ∧ W.ev e (viewF σ.loc) σ.reg fun v P => ∃ m, v = .dict m ∧ (d.length < 65536 ∧ m.length < 65536 ∧ (m.all fun x => domK x.1) = true) ∧ Q .nx ⟨σ.loc.set i (.ow (.dict (dputAll d m))), P⟩
  | .ite t a b => W.evT t (viewA σ.loc) σ.reg fun c P => match c with
    | true => wSs W.ex a ⟨σ.loc, P⟩ Q
    | false => wSs W.ex b ⟨σ.loc, P⟩ Q
  | .for t k e body => W.ev e (viewF σ.loc) σ.reg fun src P => ∃ items, iterItems k src = some items ∧
      Gv (loopS (bodyOf L t body) items ⟨σ.loc, P⟩) Q
  | .forOwn t j body => ∃ c i e l, body = [.ite c [.app i e, .brk] []] ∧ lkS σ.loc j = .ow (.list l) ∧ (flatL l && !(tIdx t).contains j) = true ∧ Gv (findOwn L t c i e l σ) Q
  | .ret e => W.ev e (viewA σ.loc) σ.reg fun p P => Q (.rt p) ⟨σ.loc, P⟩
  | .brk => Q .br σ
  | .cont => Q .ct σ
  | .freeze i => ∃ p, lkS σ.loc i = .ow p ∧ Q .nx ⟨σ.loc.set i (.fz p), σ.reg⟩
noncomputable def wp (srt : List PV → Option (List PV)) (tab : Nat → Option FnD) : Nat → Wp
  | 0 => ⟨fun _ _ _ _ => False, fun _ _ _ _ => False, fun _ _ _ => False, fun _ _ _ _ => False⟩
  | n + 1 => ⟨stepWE (wp srt tab n) (lv srt tab n) srt, stepWT (wp srt tab n), stepWX (wp srt tab n) (lv srt tab n), fun f vs P Q => Gv ((lv srt tab (n + 1)).fn f vs P) Q⟩
structure WOK (W : Wp) (L : Lv) : Prop where
  ev : ∀ {x ρ P Q}, W.ev x ρ P Q → Gv (L.ev x ρ P) Q
  evT : ∀ {x ρ P Q}, W.evT x ρ P Q → Gv (L.evT x ρ P) Q
  ex : ∀ {s σ Q}, W.ex s σ Q → Gv (L.ex s σ) Q
  fn : ∀ {f vs P Q}, W.fn f vs P Q → Gv (L.fn f vs P) Q
end Mine
end
section
open PySem PySem.W PyProof.Rows
set_option Elab.async false
set_option maxRecDepth 100000
namespace Mine
section
variable {W : Wp} {L : Lv}
theorem Gv.ret {α β : Type} {a : α} {b : β} {Q : α → β → Prop} (h : Q a b) : Gv (some (a, b)) Q := mk21 a b rfl h
theorem Gv.then {α β γ δ : Type} {o : Option (α × β)} {f : α → β → Option (γ × δ)} {R : α → β → Prop} {Q : γ → δ → Prop} (h : Gv o R) (k : ∀ a b, R a b → Gv (f a b) Q) : Gv (ifS o f) Q :=
  el21 h fun a b e r => by rw [e]; exact k a b r
theorem Gv.mapS {α β γ : Type} {o : Option α} {g : α → γ} {c : β} {Q : γ → β → Prop} (h : ∃ r, o = some r ∧ Q (g r) c) : Gv (o.map fun r => (g r, c)) Q := el11 h fun r e q => by rw [e]; exact Gv.ret q
theorem Gv.map2 {α β γ : Type} {o : Option (α × β)} {g : α → γ} {Q : γ → β → Prop} (h : Gv o fun a b => Q (g a) b) : Gv (o.map fun r => (g r.1, r.2)) Q := el21 h fun a b e q => by rw [e]; exact Gv.ret q
theorem Gv.ifc {α β : Type} {o : Option (α × β)} {Q : α → β → Prop} {c : Prop} {_ : Decidable c} (hc : c) (h : Gv o Q) : Gv (if c then o else none) Q := by rw [if_pos hc]; exact h
theorem Gv.bd {α β γ : Type} {o : Option α} {f : α → Option (β × γ)} {Q : β → γ → Prop} {x : α} (e : o = some x) (h : Gv (f x) Q) : Gv (o.bind f) Q := by rw [e]; exact h
theorem Gv.ow {α β : Type} {s : Slot} {f : PV → Option (α × β)} {Q : α → β → Prop} {p : PV} (e : s = .ow p) (h : Gv (f p) Q) : Gv (s.onOw f) Q := by rw [e]; exact h
theorem Gv.fzI {α β : Type} {s : Slot} {f : Int → Option (α × β)} {Q : α → β → Prop} {a : Int} (e : s = .fz (.int a)) (h : Gv (f a) Q) : Gv (s.onFz fun q => q.onI none f) Q := by rw [e]; exact h
theorem Gv.fzP {α β : Type} {s : Slot} {o : Option (α × β)} {Q : α → β → Prop} (e : s = .fz .pool) (h : Gv o Q) : Gv (s.onFz fun q => if q.isPool then o else none) Q := by rw [e]; exact h
theorem Gv.asI {α β : Type} {p : PV} {f : Int → Option (α × β)} {Q : α → β → Prop} {a : Int} (e : p = .int a) (h : Gv (f a) Q) : Gv (p.onI none f) Q := by rw [e]; exact h
theorem Gv.asL {α β : Type} {p : PV} {f : List PV → Option (α × β)} {Q : α → β → Prop} {a : List PV} (e : p = .list a) (h : Gv (f a) Q) : Gv (p.onL none f) Q := by rw [e]; exact h
theorem Gv.asT {α β : Type} {p : PV} {f : List PV → Option (α × β)} {Q : α → β → Prop} {a : List PV} (e : p = .tup a) (h : Gv (f a) Q) : Gv (p.onT none f) Q := by rw [e]; exact h
theorem Gv.asD {α β : Type} {p : PV} {f : List (DK × Int) → Option (α × β)} {Q : α → β → Prop} {a : List (DK × Int)} (e : p = .dict a) (h : Gv (f a) Q) : Gv (p.onD none f) Q := by rw [e]; exact h
theorem wEs_ok (k : WOK W L) : ∀ {xs : List X} {ρ : Vw} {P : Reg} {Q : List PV → Reg → Prop}, wEs W.ev xs ρ P Q → Gv (evs L.ev xs ρ P) Q
  | [], _, _, _, h => .ret h
  | _ :: _, _, _, _, h => (k.ev h).then fun _ _ h => (wEs_ok k h).then fun _ _ h => .ret h
theorem wSs_ok (k : WOK W L) : ∀ {ss : List S} {σ : St} {Q : Fl → St → Prop}, wSs W.ex ss σ Q → Gv (execs L.ex ss σ) Q
  | [], _, _, h => .ret h
  | _ :: _, _, _, h => (k.ex h).then fun fl _ h => match fl, h with
    | .nx, h => wSs_ok k h
    | .br, h => .ret h
    | .ct, h => .ret h
    | .rt _, h => .ret h
theorem wElt_ok (k : WOK W L) {elt : X} {c : Option X} {t : Tgt} {ρ : Vw} {x : PV} {P : Reg} {Q : List PV → Reg → Prop} (h : wElt W elt c t ρ x P Q) : Gv (compElt L elt c t ρ x P) Q := by
  (refine el11 h ?_; try clear h; intro ρ₁ e h)
  have hc : Gv (condOk L c ρ₁ P) (fun b P₁ => match b with | true => W.ev elt ρ₁ P₁ fun v P₂ => Q [v] P₂ | false => Q [] P₁) := by
    cases c with
    | none => exact .ret h
    | some c => exact k.evT h
  exact .bd e (hc.then fun b P₁ h => match b, h with
    | true, h => (k.ev h).then fun _ _ h => .ret h
    | false, h => .ret h)
theorem op1_ok (k : WOK W L) {a : X} {f : PV → Option PV} {ρ : Vw} {P : Reg} {Q : PV → Reg → Prop} (h : W.ev a ρ P fun x P₁ => ∃ r, f x = some r ∧ Q r P₁) : Gv (op1 L a ρ P f) Q := (k.ev h).then fun _ _ h => .mapS h
theorem op2_ok (k : WOK W L) {a b : X} {f : Reg → PV → PV → Option PV} {ρ : Vw} {P : Reg} {Q : PV → Reg → Prop} (h : W.ev a ρ P fun x P₁ => W.ev b ρ P₁ fun y P₂ => ∃ r, f P₂ x y = some r ∧ Q r P₂) : Gv (op2 L a b ρ P f) Q := (k.ev h).then fun _ _ h => (k.ev h).then fun _ _ h => .mapS h
theorem stepWE_ok (k : WOK W L) {srt : List PV → Option (List PV)} {x : X} {ρ : Vw} {P : Reg} {Q : PV → Reg → Prop} (h : stepWE W L srt x ρ P Q) : Gv (stepEv L srt x ρ P) Q := by
  revert h
  delta stepWE stepEv
  cases x with
  | none => exact fun h => .ret h
  | bool b => exact fun h => .ret h
  | int i => exact fun h => .ret h
  | sym j => exact fun h => .ifc h.1 (.ret h.2)
  | neg1 => exact fun h => .ret h
  | var i => exact fun h => .mapS h
  | bin op a b => exact fun h => op2_ok k h
  | not a => exact fun h => h.elim
  | and a b => exact fun h => (k.ev h).then fun x P₁ h => el11 h fun c e h => e ▸ match c, h with
    | false, h => .ret h
    | true, h => k.ev h
  | or a b => exact fun h => (k.ev h).then fun x P₁ h => el11 h fun c e h => e ▸ match c, h with
    | true, h => .ret h
    | false, h => k.ev h
  | cmp op a b => exact fun h => (k.ev h).then fun x P₁ h => (k.ev h).then fun y P₂ h => el11 h fun r e h => .mapS (mk11 (.bool r) (by show (opCmp op x y).map PV.bool = _; rw [e]; rfl) h)
  | isNone a => exact fun h => (k.ev h).then fun x P₁ h => .mapS (mk11 _ rfl h)
  | notNone a => exact fun h => (k.ev h).then fun x P₁ h => .mapS (mk11 _ rfl h)
  | ife t a b => exact fun h => (k.evT h).then fun c P₁ h => match c, h with
    | true, h => k.ev h
    | false, h => k.ev h
  | call f args => exact fun h => (wEs_ok k h).then fun vs P₁ h => k.fn h
  | len a => exact fun h => op1_ok k h
  | toInt a => exact fun h => op1_ok k h
  | abs a => exact fun h => op1_ok k h
  | tupleOf a => exact fun h => op1_ok k h
  | sorted a => exact fun h => (k.ev h).then fun x P₁ h => el22 h fun l r e e' h => e ▸ .mapS (mk11 (.list r) (by show (srt l).map PV.list = _; rw [e']; rfl) h)
  | prim args => exact fun h => (wEs_ok k h).then fun vs P₁ h => .ifc h.1 (.ret h.2)
  | attr a j => exact fun h => op1_ok k h
  | sub a i => exact fun h => op2_ok k h
  | strAt cs i => exact fun h => op1_ok k h
  | sliceTo a u => exact fun h => op2_ok k h
  | sliceFrom1 a => exact fun h => op1_ok k h
  | tup l => exact fun h => .ifc h.1 (.map2 (wEs_ok k h.2))
  | list l => exact fun h => .ifc h.1 (.map2 (wEs_ok k h.2))
  | dict0 => exact fun h => .ret h
  | get d j v => exact fun h => (k.ev h).then fun _ _ h => (k.ev h).then fun _ _ h => (k.ev h).then fun _ _ h => .mapS h
  | menu keys vals i => exact fun h => op1_ok k h
  | comp1 elt t j e c hide => exact fun h => (k.ev h).then fun _ _ h => el11 h fun _ e h => .bd e (h.then fun _ _ h => .ifc h.1 (.ret h.2))
  | comp2 elt t₁ k₁ e₁ t₂ k₂ e₂ c hide => exact fun h => (k.ev h).then fun _ _ h => el11 h fun _ e h => .bd e (h.then fun _ _ h => .ifc h.1 (.ret h.2))
theorem dfltT (k : WOK W L) {x : X} {ρ : Vw} {P : Reg} {Q : Bool → Reg → Prop} (h : W.ev x ρ P fun v P₁ => ∃ b, v = .bool b ∧ Q b P₁) : Gv (ifS (L.ev x ρ P) fun p P₁ => p.onB Option.none fun b => some (b, P₁)) Q :=
  (k.ev h).then fun v P₁ h => el11 h fun b e h => e ▸ .ret h
theorem stepWT_ok (k : WOK W L) {x : X} {ρ : Vw} {P : Reg} {Q : Bool → Reg → Prop} (h : stepWT W x ρ P Q) : Gv (stepEvT L x ρ P) Q := by
  cases x with
  | not a => exact show Gv ((L.evT a ρ P).map fun r => (!r.1, r.2)) Q from .map2 (k.evT h)
  | and a b => exact show Gv (ifS (L.evT a ρ P) fun c P₁ => cond c (L.evT b ρ P₁) (some (false, P₁))) Q from (k.evT h).then fun c P₁ h => match c, h with
    | false, h => .ret h
    | true, h => k.evT h
  | or a b => exact show Gv (ifS (L.evT a ρ P) fun c P₁ => cond c (some (true, P₁)) (L.evT b ρ P₁)) Q from (k.evT h).then fun c P₁ h => match c, h with
    | true, h => .ret h
    | false, h => k.evT h
  | ife t a b => exact h.elim
  | _ => exact dfltT k h
theorem stepWX_ok (k : WOK W L) {s : S} {σ : St} {Q : Fl → St → Prop} (h : stepWX W L s σ Q) : Gv (stepEx L s σ) Q := by
  revert h
  delta stepWX stepEx
  cases s with
  | asg i e => exact fun h => (k.ev h).then fun _ _ h => .ifc h.1 (.ret h.2)
  | asgF i e => exact fun h => (k.ev h).then fun _ _ h => .ret h
  | own i e => exact fun h => .ifc h.1 ((k.ev h.2).then fun _ _ h => .ifc h.1 (.ret h.2))
  | unp is e => exact fun h => (k.ev h).then fun _ _ h => el22 h fun l loc e e' h => .asT e (by rw [e']; exact .ret h)
  | setIt i idx e =>
    refine fun h => (k.ev h).then fun v P₁ h => .ifc h.1 ((k.ev h.2).then fun j P₂ h => ?_)
    rcases h with h | h | h
    · exact el23 h fun l n hs ej hc h => by rw [hs, ej]; exact .ifc hc (.ret h)
    · exact el34 h fun d n u hs hk ev hd h => by rw [hs, ev]; exact .bd hk (.ifc hd (.ret h))
    · exact el34 h fun l n u hs eP ej ev z => by rw [hs, eP, ej, ev]; exact .ifc z.1 (.ret z.2)
  | augPool i j n => exact fun h => el24 h fun l a hs hr hm hl h => .fzP hs (.bd hr (.ifc hm (.bd hl (.ret h))))
  | augI i op e =>
    exact fun h => el11 h fun a hs h => .fzI hs ((k.ev h).then fun v P h => el11 h fun b e h => .asI e (h.elim (fun h => by rw [if_pos h.1]; exact .ret h.2) fun h => by rw [if_neg h.1, if_pos h.2.1]; exact .ret h.2.2))
  | ext i e => exact fun h => .ifc h.1 (el11 h.2 fun l hs h => .ow hs ((k.ev h).then fun _ _ h => el12 h fun m e hc h => .asL e (.ifc hc (.ret h))))
  | app i e => exact fun h => el11 h fun l hs h => .ow hs ((k.ev h).then fun _ _ h => .ifc h.1 (.ret h.2))
  | appF i e => exact fun h => el11 h fun l hs h => .ow hs ((k.ev h).then fun _ _ h => .ifc h.1 (.ret h.2))
  | upd i e => exact fun h => el11 h fun d hs h => .ow hs ((k.ev h).then fun _ _ h => el12 h fun m e hc h => .asD e (.ifc hc (.ret h)))
  | ite t a b => exact fun h => (k.evT h).then fun c _ h => match c, h with
    | true, h => wSs_ok k h
    | false, h => wSs_ok k h
  | «for» t j e body => exact fun h => (k.ev h).then fun _ _ h => el11 h fun _ e h => .bd e h
  | forOwn t j body => exact fun h => el43 h fun c i e l eb hs hc h => by rw [eb]; exact .ow (f := fun q => q.onL Option.none fun l => if flatL l && !(tIdx t).contains j then findOwn L t c i e l σ else Option.none) hs (.ifc hc h)
  | ret e => exact fun h => (k.ev h).then fun _ _ h => .ret h
  | brk => exact fun h => .ret h
  | cont => exact fun h => .ret h
  | freeze i => exact fun h => el11 h fun p hs h => .ow hs (.ret h)
end
theorem wp_ok (srt : List PV → Option (List PV)) (tab : Nat → Option FnD) : ∀ n, WOK (wp srt tab n) (lv srt tab n)
  | 0 => ⟨fun h => h.elim, fun h => h.elim, fun h => h.elim, fun h => h.elim⟩
  | n + 1 => ⟨fun h => stepWE_ok (wp_ok srt tab n) h, fun h => stepWT_ok (wp_ok srt tab n) h, fun h => stepWX_ok (wp_ok srt tab n) h, fun h => h⟩
theorem fn_wp {srt : List PV → Option (List PV)} {tab : Nat → Option FnD} {n f : Nat} {d : FnD} {vs : List PV} {P : Reg} {Q : PV → Reg → Prop} (hd : tab f = some d) (hl : vs.length = d.np)
    (h : wSs (wp srt tab n).ex d.body ⟨vs.map .fz ++ List.replicate (d.nv - d.np) .un, P⟩ fun fl σ => ∃ p, fl = .rt p ∧ Q p σ.reg) : Gv ((lv srt tab (n + 1)).fn f vs P) Q := by
  exact show Gv (stepFn tab (lv srt tab n) f vs P) Q from .bd hd (.ifc hl ((wSs_ok (wp_ok srt tab n) h).then fun fl σ h => el11 h fun p e h => e ▸ .ret h))
section
variable {W : Wp} {L : Lv}
theorem comp_map {f : PV → Reg → Option (List PV × Reg)} {gx : PV → List PV} {P : Reg} {Q : List PV → Reg → Prop} : ∀ {xs : List PV}, (∀ x ∈ xs, f x P = some (gx x, P)) → Q (xs.flatMap gx) P → Gv (compLoop f xs P) Q
  | [], _, h => (mk21 ([]) P rfl h)
  | x :: xs, k, h => by
    exact (show Gv (f x P) fun a P₁ => a = gx x ∧ P₁ = P from mk21 (gx x) P (k x (.head _)) ⟨rfl, rfl⟩).then fun a P₁ ha => (comp_map (f := f) (gx := gx) (P := P₁) (Q := fun b P₂ => b = xs.flatMap gx ∧ P₂ = P) (fun y hy => ha.2 ▸ k y (.tail _ hy)) ⟨rfl, ha.2⟩).then fun b P₂ hb => .ret (by rw [ha.1, hb.1, hb.2]; rw [List.flatMap_cons] at h; exact h)
theorem elt_eq (k : WOK W L) {elt : X} {c : Option X} {t : Tgt} {ρ : Vw} {x : PV} {P P' : Reg} {l : List PV} (h : wElt W elt c t ρ x P fun a P₁ => a = l ∧ P₁ = P') : compElt L elt c t ρ x P = some (l, P') := by
  (refine el22 (wElt_ok k h) ?_; intro a P₁ e zq0 zq1; subst zq0; subst zq1)
  exact e
theorem in_eq (k : WOK W L) {elt : X} {c : Option X} {t₁ t₂ : Tgt} {k₂ : IT} {e₂ : X} {ρ : Vw} {x : PV} {P P' : Reg} {l : List PV} (h : ∃ ρ₁, bindT t₁ x ρ = some ρ₁ ∧ W.ev e₂ ρ₁ P fun src P₁ => ∃ items, iterItems k₂ src = some items ∧ Gv (compLoop (compElt L elt c t₂ ρ₁) items P₁) fun a P₂ => a = l ∧ P₂ = P') :
    compIn L elt c t₁ t₂ k₂ e₂ ρ x P = some (l, P') := by
  refine el11 h fun ρ₁ e h => ?_
  have g : Gv (compIn L elt c t₁ t₂ k₂ e₂ ρ x P) fun a P₁ => a = l ∧ P₁ = P' := .bd e ((k.ev h).then fun src P₁ h => el11 h fun items e h => .bd e h)
  exact el21 g fun a P₁ e h => by rw [e, h.1, h.2]
end
end Mine
end
section
open PySem PySem.W PyProof.Rows
set_option Elab.async false
set_option maxRecDepth 100000
set_option maxHeartbeats 4000000
namespace Mine
noncomputable abbrev LV (n : Nat) : Lv := lv srtF tab n
noncomputable abbrev WP (n : Nat) : Wp := wp srtF tab n
noncomputable def lvl : PV → List Int
  | .sym 0 => [0]
  | .sym 1 => [1]
  | .sym 2 => [3]
  | .sym 3 => [0, 1]
  | .sym 4 => [0, 1, 3]
  | _ => []
noncomputable def isE : PV → Bool
  | .sym k => decide (5 ≤ k) && decide (k < 10)
  | .tup _ => true
  | _ => false
noncomputable def cross (l m : List Int) : List (Int × Int) := l.flatMap fun v => (m.filter fun w => !(v == w)).map fun w => (v, w)
noncomputable def prs : PV → List (Int × Int)
  | .sym 5 => [(0, 1)]
  | .sym 6 => [(1, 0)]
  | .sym 7 => [(0, 1), (0, 3), (3, 1)]
  | .sym 8 => [(1, 0), (1, 3), (3, 0)]
  | .tup [_, a, b] => cross (lvl a) (lvl b)
  | _ => cross [0, 1, 3] [0, 1, 3]
noncomputable def levs : List PV := [.sym 0, .sym 1, .sym 2, .sym 3, .sym 4]
noncomputable def syms : List PV := levs ++ [.sym 5, .sym 6, .sym 7, .sym 8, .sym 9] ++ levs.flatMap fun a => levs.map fun b => .tup [.sym 10, a, b]
noncomputable def prP (p : Int × Int) : PV := .tup [.int p.1, .int p.2]
noncomputable def intsP (l : List Int) : List PV := l.map .int
theorem fn_lc (m : Nat) (P : Reg) : ∀ s ∈ syms, (LV (m + 20)).fn 0 [s] P = some (.tup (intsP (lvl s)), P) :=
  List.map_inj_left.mp (by kernel_rfl)
theorem fn_ie (m : Nat) (P : Reg) : ∀ s ∈ syms, (LV (m + 20)).fn 1 [s] P = some (.bool (isE s), P) :=
  List.map_inj_left.mp (by kernel_rfl)
theorem fn_ep (m : Nat) (P : Reg) : ∀ s ∈ syms, (LV (m + 40)).fn 2 [s] P = some (.tup ((prs s).map prP), P) :=
  List.map_inj_left.mp (by kernel_rfl)
noncomputable def outs : List PV := [.sym 0, .sym 1, .sym 2, .sym 11]
noncomputable def outv (o : PV) (held : Int) : Int := match o with
  | .sym 11 => held
  | o => (lvl o).headD 0
theorem fn_ll (m : Nat) (P : Reg) : ∀ s ∈ levs, (LV (m + 20)).fn 17 [s] P = some (.list (intsP (lvl s)), P) :=
  List.map_inj_left.mp (by kernel_rfl)
theorem fn_ch (m : Nat) (P : Reg) : ∀ s ∈ syms, (LV (m + 40)).fn 18 [s] P = some (if isE s then .list ((prs s).map prP) else .none, P) :=
  List.map_inj_left.mp (by kernel_rfl)
theorem fn_oc (m : Nat) (P : Reg) (i : Int) : ∀ s ∈ outs, (LV (m + 40)).fn 9 [s, .int i] P = some (.int (outv s i), P) :=
  List.map_inj_left.mp (by kernel_rfl)
noncomputable def shareI (l m : List Int) : Bool := l.any fun x => m.contains x
noncomputable def shareP (l m : List (Int × Int)) : Bool := l.any fun x => m.contains x
theorem fn_shI (m : Nat) (P : Reg) : ∀ s ∈ syms.flatMap fun s => syms.map fun t => (s, t), (LV (m + 20)).fn 8 [.tup (intsP (lvl s.1)), .tup (intsP (lvl s.2))] P = some (.bool (shareI (lvl s.1) (lvl s.2)), P) :=
  List.map_inj_left.mp (by kernel_rfl)
theorem fn_shP (m : Nat) (P : Reg) : ∀ s ∈ syms.flatMap fun s => syms.map fun t => (s, t), (LV (m + 20)).fn 8 [.tup ((prs s.1).map prP), .tup ((prs s.2).map prP)] P = some (.bool (shareP (prs s.1) (prs s.2)), P) :=
  List.map_inj_left.mp (by kernel_rfl)
theorem pair_mem {s t : PV} (hs : s ∈ syms) (ht : t ∈ syms) : (s, t) ∈ syms.flatMap fun s => syms.map fun t => (s, t) := List.mem_flatMap.mpr (mk11 s hs (List.mem_map.mpr (mk11 t ht rfl)))
end Mine
end
section
open PySem PySem.W PyProof.Rows
set_option Elab.async false
set_option maxRecDepth 100000
set_option linter.unusedVariables false
namespace Mine
section
variable {n : Nat} {ρ : Vw} {P : Reg} {Q : PV → Reg → Prop} {T : Bool → Reg → Prop} {R : Fl → St → Prop} {σ : St}
theorem r_none (h : Q .none P) : (WP (n + 1)).ev .none ρ P Q := h
theorem r_bool {b : Bool} (h : Q (.bool b) P) : (WP (n + 1)).ev (.bool b) ρ P Q := h
theorem r_int {i : Int} (h : Q (.int i) P) : (WP (n + 1)).ev (.int i) ρ P Q := h
theorem r_neg1 (h : Q (.int (-1)) P) : (WP (n + 1)).ev .neg1 ρ P Q := h
theorem r_sym {k : Nat} (hk : k < stN) (h : Q (.sym k) P) : (WP (n + 1)).ev (.sym k) ρ P Q := ⟨hk, h⟩
theorem r_var {i : Nat} {p : PV} (e : lk ρ i = some p) (h : Q p P) : (WP (n + 1)).ev (.var i) ρ P Q := (mk11 p e h)
theorem r_bin {op : Nat} {a b : X} (h : (WP n).ev a ρ P fun x P₁ => (WP n).ev b ρ P₁ fun y P₂ => ∃ r, opBin op x y = some r ∧ Q r P₂) : (WP (n + 1)).ev (.bin op a b) ρ P Q := h
theorem r_and {a b : X} (h : (WP n).ev a ρ P fun x P₁ => ∃ c, x = .bool c ∧ match c with | false => Q (.bool false) P₁ | true => (WP n).ev b ρ P₁ Q) : (WP (n + 1)).ev (.and a b) ρ P Q := h
theorem r_or {a b : X} (h : (WP n).ev a ρ P fun x P₁ => ∃ c, x = .bool c ∧ match c with | true => Q (.bool true) P₁ | false => (WP n).ev b ρ P₁ Q) : (WP (n + 1)).ev (.or a b) ρ P Q := h
theorem r_cmp {op : Nat} {a b : X} (h : (WP n).ev a ρ P fun x P₁ => (WP n).ev b ρ P₁ fun y P₂ => ∃ r, opCmp op x y = some r ∧ Q (.bool r) P₂) : (WP (n + 1)).ev (.cmp op a b) ρ P Q := h
theorem r_isNone {a : X} (h : (WP n).ev a ρ P fun x P₁ => Q (.bool x.isNone) P₁) : (WP (n + 1)).ev (.isNone a) ρ P Q := h
theorem r_notNone {a : X} (h : (WP n).ev a ρ P fun x P₁ => Q (.bool (!x.isNone)) P₁) : (WP (n + 1)).ev (.notNone a) ρ P Q := h
theorem r_ife {t a b : X} (h : (WP n).evT t ρ P fun c P₁ => match c with | true => (WP n).ev a ρ P₁ Q | false => (WP n).ev b ρ P₁ Q) : (WP (n + 1)).ev (.ife t a b) ρ P Q := h
theorem r_call {f : Nat} {as : List X} (h : wEs (WP n).ev as ρ P fun vs P₁ => (WP n).fn f vs P₁ Q) : (WP (n + 1)).ev (.call f as) ρ P Q := h
theorem r_fn {f : Nat} {vs : List PV} {p : PV} {P' : Reg} (e : (LV (n + 1)).fn f vs P = some (p, P')) (h : Q p P') : (WP (n + 1)).fn f vs P Q := (mk21 p P' e h)
theorem r_fnG {f : Nat} {vs : List PV} (h : Gv ((LV (n + 1)).fn f vs P) Q) : (WP (n + 1)).fn f vs P Q := h
theorem r_len {a : X} (h : (WP n).ev a ρ P fun x P₁ => ∃ r, opLen x = some r ∧ Q r P₁) : (WP (n + 1)).ev (.len a) ρ P Q := h
theorem r_toInt {a : X} (h : (WP n).ev a ρ P fun x P₁ => ∃ r, opInt x = some r ∧ Q r P₁) : (WP (n + 1)).ev (.toInt a) ρ P Q := h
theorem r_abs {a : X} (h : (WP n).ev a ρ P fun x P₁ => ∃ r, opAbs x = some r ∧ Q r P₁) : (WP (n + 1)).ev (.abs a) ρ P Q := h
theorem r_tupleOf {a : X} (h : (WP n).ev a ρ P fun x P₁ => ∃ r, opTuple x = some r ∧ Q r P₁) : (WP (n + 1)).ev (.tupleOf a) ρ P Q := h
theorem r_sorted {a : X} (h : (WP n).ev a ρ P fun x P₁ => ∃ l r, x = .list l ∧ srtF l = some r ∧ Q (.list r) P₁) : (WP (n + 1)).ev (.sorted a) ρ P Q := h
theorem r_prim {as : List X} (h : wEs (WP n).ev as ρ P fun vs P₁ => vs.length = 7 ∧ Q (.prim vs) P₁) : (WP (n + 1)).ev (.prim as) ρ P Q := h
theorem r_attr {a : X} {k : Nat} (h : (WP n).ev a ρ P fun x P₁ => ∃ r, opAttr x k = some r ∧ Q r P₁) : (WP (n + 1)).ev (.attr a k) ρ P Q := h
theorem r_sub {a i : X} (h : (WP n).ev a ρ P fun x P₁ => (WP n).ev i ρ P₁ fun y P₂ => ∃ r, opSub P₂ x y = some r ∧ Q r P₂) : (WP (n + 1)).ev (.sub a i) ρ P Q := h
theorem r_strAt {cs : List Nat} {i : X} (h : (WP n).ev i ρ P fun x P₁ => ∃ r, opStrAt cs x = some r ∧ Q r P₁) : (WP (n + 1)).ev (.strAt cs i) ρ P Q := h
theorem r_sliceTo {a u : X} (h : (WP n).ev a ρ P fun x P₁ => (WP n).ev u ρ P₁ fun y P₂ => ∃ r, opSliceTo x y = some r ∧ Q r P₂) : (WP (n + 1)).ev (.sliceTo a u) ρ P Q := h
theorem r_sliceFrom1 {a : X} (h : (WP n).ev a ρ P fun x P₁ => ∃ r, opSliceFrom1 x = some r ∧ Q r P₁) : (WP (n + 1)).ev (.sliceFrom1 a) ρ P Q := h
theorem r_tup {l : List X} (hl : l.length < 64) (h : wEs (WP n).ev l ρ P fun vs P₁ => Q (.tup vs) P₁) : (WP (n + 1)).ev (.tup l) ρ P Q := ⟨hl, h⟩
theorem r_list {l : List X} (hl : l.length < 64) (h : wEs (WP n).ev l ρ P fun vs P₁ => Q (.list vs) P₁) : (WP (n + 1)).ev (.list l) ρ P Q := ⟨hl, h⟩
theorem r_dict0 (h : Q (.dict []) P) : (WP (n + 1)).ev .dict0 ρ P Q := h
theorem r_get {d k v : X} (h : (WP n).ev d ρ P fun x P₁ => (WP n).ev k ρ P₁ fun y P₂ => (WP n).ev v ρ P₂ fun z P₃ => ∃ r, opGet x y z = some r ∧ Q r P₃) : (WP (n + 1)).ev (.get d k v) ρ P Q := h
theorem r_comp1 {elt e : X} {t : Tgt} {k : IT} {c : Option X} {hide : List Nat} (h : (WP n).ev e ρ P fun src P₁ => ∃ items, iterItems k src = some items ∧ Gv (compLoop (compElt (LV n) elt c t (hideAll hide ρ)) items P₁) fun l P₂ => small l = true ∧ Q (.list l) P₂) : (WP (n + 1)).ev (.comp1 elt t k e c hide) ρ P Q := h
theorem r_comp2 {elt e₁ e₂ : X} {t₁ t₂ : Tgt} {k₁ k₂ : IT} {c : Option X} {hide : List Nat} (h : (WP n).ev e₁ ρ P fun src P₁ => ∃ items, iterItems k₁ src = some items ∧ Gv (compLoop (compIn (LV n) elt c t₁ t₂ k₂ e₂ (hideAll hide ρ)) items P₁) fun l P₂ => small l = true ∧ Q (.list l) P₂) : (WP (n + 1)).ev (.comp2 elt t₁ k₁ e₁ t₂ k₂ e₂ c hide) ρ P Q := h
theorem rs_nil (h : Q' ([] : List PV) P) : wEs (WP n).ev [] ρ P Q' := h
theorem rs_cons {x : X} {xs : List X} {Q' : List PV → Reg → Prop} (h : (WP n).ev x ρ P fun v P₁ => wEs (WP n).ev xs ρ P₁ fun vs P₂ => Q' (v :: vs) P₂) : wEs (WP n).ev (x :: xs) ρ P Q' := h
theorem t_not {a : X} (h : (WP n).evT a ρ P fun b P₁ => T (!b) P₁) : (WP (n + 1)).evT (.not a) ρ P T := h
theorem t_and {a b : X} (h : (WP n).evT a ρ P fun c P₁ => match c with | false => T false P₁ | true => (WP n).evT b ρ P₁ T) : (WP (n + 1)).evT (.and a b) ρ P T := h
theorem t_or {a b : X} (h : (WP n).evT a ρ P fun c P₁ => match c with | true => T true P₁ | false => (WP n).evT b ρ P₁ T) : (WP (n + 1)).evT (.or a b) ρ P T := h
theorem t_cmp {op : Nat} {a b : X} (h : (WP n).ev (.cmp op a b) ρ P fun v P₁ => ∃ b, v = .bool b ∧ T b P₁) : (WP (n + 1)).evT (.cmp op a b) ρ P T := h
theorem t_var {i : Nat} (h : (WP n).ev (.var i) ρ P fun v P₁ => ∃ b, v = .bool b ∧ T b P₁) : (WP (n + 1)).evT (.var i) ρ P T := h
theorem t_call {f : Nat} {as : List X} (h : (WP n).ev (.call f as) ρ P fun v P₁ => ∃ b, v = .bool b ∧ T b P₁) : (WP (n + 1)).evT (.call f as) ρ P T := h
theorem t_attr {a : X} {k : Nat} (h : (WP n).ev (.attr a k) ρ P fun v P₁ => ∃ b, v = .bool b ∧ T b P₁) : (WP (n + 1)).evT (.attr a k) ρ P T := h
theorem t_isNone {a : X} (h : (WP n).ev (.isNone a) ρ P fun v P₁ => ∃ b, v = .bool b ∧ T b P₁) : (WP (n + 1)).evT (.isNone a) ρ P T := h
theorem bo {b : Bool} {T : Bool → Prop} (h : T b) : ∃ c, PV.bool b = .bool c ∧ T c := (mk11 b rfl h)
theorem exv {o : Option PV} {v : PV} {Q : PV → Prop} (e : o = some v) (h : Q v) : ∃ r, o = some r ∧ Q r := (mk11 v e h)
theorem exb {o : Option Bool} {v : Bool} {Q : Bool → Prop} (e : o = some v) (h : Q v) : ∃ r, o = some r ∧ Q r := (mk11 v e h)
noncomputable def ifB (b : Bool) (A B : Prop) : Prop := match b with | true => A | false => B
theorem mb {b : Bool} {A B : Prop} (h1 : b = true → A) (h0 : b = false → B) : ifB b A B := by
  cases b
  · exact h0 rfl
  · exact h1 rfl
noncomputable def ifB' (b : Bool) (A B : Prop) : Prop := match b with | false => A | true => B
theorem mb' {b : Bool} {A B : Prop} (h0 : b = false → A) (h1 : b = true → B) : ifB' b A B := by
  cases b
  · exact h0 rfl
  · exact h1 rfl
theorem x_nil (h : R .nx σ) : wSs (WP n).ex [] σ R := h
theorem x_cons {s : S} {ss : List S} (h : (WP n).ex s σ fun fl σ₁ => match fl with | .nx => wSs (WP n).ex ss σ₁ R | fl => R fl σ₁) : wSs (WP n).ex (s :: ss) σ R := h
theorem x_asg {i : Nat} {e : X} (h : (WP n).ev e (viewA σ.loc) σ.reg fun p P => p.flat = true ∧ R .nx ⟨σ.loc.set i (.fz p), P⟩) : (WP (n + 1)).ex (.asg i e) σ R := h
theorem x_asgF {i : Nat} {e : X} (h : (WP n).ev e (viewF σ.loc) σ.reg fun p P => R .nx ⟨σ.loc.set i (.fz p), P⟩) : (WP (n + 1)).ex (.asgF i e) σ R := h
theorem x_own {i : Nat} {e : X} (hf : freshForm e = true) (h : (WP n).ev e (viewF σ.loc) σ.reg fun p P => p.ownable = true ∧ R .nx ⟨σ.loc.set i (.ow p), P⟩) : (WP (n + 1)).ex (.own i e) σ R := ⟨hf, h⟩
theorem x_unp {is : List Nat} {e : X} (h : (WP n).ev e (viewF σ.loc) σ.reg fun p P => ∃ l loc, p = .tup l ∧ setAllS is l σ.loc = some loc ∧ R .nx ⟨loc, P⟩) : (WP (n + 1)).ex (.unp is e) σ R := h
theorem x_app {i : Nat} {e : X} {l : List PV} (hs : lkS σ.loc i = .ow (.list l)) (h : (WP n).ev e (viewA σ.loc) σ.reg fun v P => (v.flat && small l) = true ∧ R .nx ⟨σ.loc.set i (.ow (.list (l ++ [v]))), P⟩) : (WP (n + 1)).ex (.app i e) σ R := (mk11 l hs h)
theorem x_appF {i : Nat} {e : X} {l : List PV} (hs : lkS σ.loc i = .ow (.list l)) (h : (WP n).ev e (viewF σ.loc) σ.reg fun v P => small l = true ∧ R .nx ⟨σ.loc.set i (.ow (.list (l ++ [v]))), P⟩) : (WP (n + 1)).ex (.appF i e) σ R := (mk11 l hs h)
theorem x_ext {i : Nat} {e : X} {l : List PV} (hf : freshForm e = true) (hs : lkS σ.loc i = .ow (.list l)) (h : (WP n).ev e (viewA σ.loc) σ.reg fun v P => ∃ m, v = .list m ∧ (flatL m && small l && small m) = true ∧ R .nx ⟨σ.loc.set i (.ow (.list (l ++ m))), P⟩) : (WP (n + 1)).ex (.ext i e) σ R := (mk01 hf (mk11 l hs h))
theorem x_upd {i : Nat} {e : X} {d : List (DK × Int)} (hs : lkS σ.loc i = .ow (.dict d)) (h : (WP n).ev e (viewF σ.loc) σ.reg fun v P => ∃ m, v = .dict m ∧ (d.length < 65536 ∧ m.length < 65536 ∧ (m.all fun x => domK x.1) = true) ∧ R .nx ⟨σ.loc.set i (.ow (.dict (dputAll d m))), P⟩) : (WP (n + 1)).ex (.upd i e) σ R := (mk11 d hs h)
theorem x_set {i : Nat} {idx e : X} (h : (WP n).ev e (viewA σ.loc) σ.reg fun v P₁ => v.flat = true ∧ (WP n).ev idx (viewA σ.loc) P₁ fun j P₂ =>
      (∃ l k, lkS σ.loc i = .ow (.list l) ∧ j = .int k ∧ (0 ≤ k ∧ k.toNat < l.length ∧ small l = true) ∧ R .nx ⟨σ.loc.set i (.ow (.list (l.set k.toNat v))), P₂⟩) ∨
      (∃ d k u, lkS σ.loc i = .ow (.dict d) ∧ decK j = some k ∧ v = .int u ∧ d.length < 65536 ∧ R .nx ⟨σ.loc.set i (.ow (.dict (dput d k u))), P₂⟩) ∨
      (∃ l k u, lkS σ.loc i = .fz .pool ∧ P₂ = some l ∧ j = .int k ∧ v = .int u ∧ (0 ≤ k ∧ k.toNat < l.length ∧ small l = true) ∧ R .nx ⟨σ.loc, some (l.set k.toNat (.int u))⟩)) : (WP (n + 1)).ex (.setIt i idx e) σ R := h
theorem x_pool {i j k : Nat} {l : List PV} {a : Int} (hs : lkS σ.loc i = .fz .pool) (hr : σ.reg = some l) (hm : small l = true) (hl : l[j]? = some (.int a)) (h : R .nx ⟨σ.loc, some (l.set j (.int (a + (k : Int))))⟩) : (WP (n + 1)).ex (.augPool i j k) σ R := (mk24 l a hs hr hm hl h)
theorem x_own2 {t : Tgt} {j i : Nat} {c : X} {e : X} {l : List PV} (hs : lkS σ.loc j = .ow (.list l)) (hc : (flatL l && !(tIdx t).contains j) = true) (h : Gv (findOwn (LV n) t c i e l σ) R) : (WP (n + 1)).ex (.forOwn t j [.ite c [.app i e, .brk] []]) σ R := (mk43 c i e l rfl hs hc h)
theorem x_augI0 {i : Nat} {e : X} {a : Int} (hs : lkS σ.loc i = .fz (.int a)) (h : (WP n).ev e (viewA σ.loc) σ.reg fun v P => ∃ b, v = .int b ∧ ((0 = 0 ∧ R .nx ⟨σ.loc.set i (.fz (.int (a + b))), P⟩) ∨ (0 ≠ 0 ∧ b = 840 ∧ R .nx ⟨σ.loc.set i (.fz (.int (a.fdiv b))), P⟩))) : (WP (n + 1)).ex (.augI i 0 e) σ R := (mk11 a hs h)
theorem x_augI1 {i : Nat} {e : X} {a : Int} (hs : lkS σ.loc i = .fz (.int a)) (h : (WP n).ev e (viewA σ.loc) σ.reg fun v P => ∃ b, v = .int b ∧ b = 840 ∧ R .nx ⟨σ.loc.set i (.fz (.int (a.fdiv b))), P⟩)
    (mono : ∀ {x ρ P} {Q Q' : PV → Reg → Prop}, (WP n).ev x ρ P Q → (∀ a b, Q a b → Q' a b) → (WP n).ev x ρ P Q') : (WP (n + 1)).ex (.augI i 1 e) σ R := (mk11 a hs (mono h fun v P ⟨b, e, hb, h⟩ => (mk11 b e (.inr ⟨by decide, hb, h⟩))))
theorem x_ite {t : X} {a b : List S} (h : (WP n).evT t (viewA σ.loc) σ.reg fun c P => match c with | true => wSs (WP n).ex a ⟨σ.loc, P⟩ R | false => wSs (WP n).ex b ⟨σ.loc, P⟩ R) : (WP (n + 1)).ex (.ite t a b) σ R := h
theorem x_for {t : Tgt} {k : IT} {e : X} {body : List S} (h : (WP n).ev e (viewF σ.loc) σ.reg fun src P => ∃ items, iterItems k src = some items ∧ Gv (loopS (bodyOf (LV n) t body) items ⟨σ.loc, P⟩) R) : (WP (n + 1)).ex (.for t k e body) σ R := h
theorem x_ret {e : X} (h : (WP n).ev e (viewA σ.loc) σ.reg fun p P => R (.rt p) ⟨σ.loc, P⟩) : (WP (n + 1)).ex (.ret e) σ R := h
theorem x_brk (h : R .br σ) : (WP (n + 1)).ex .brk σ R := h
theorem x_cont (h : R .ct σ) : (WP (n + 1)).ex .cont σ R := h
theorem x_freeze {i : Nat} {p : PV} (hs : lkS σ.loc i = .ow p) (h : R .nx ⟨σ.loc.set i (.fz p), σ.reg⟩) : (WP (n + 1)).ex (.freeze i) σ R := (mk11 p hs h)
theorem fn_go {f : Nat} {d : FnD} {vs : List PV} {p : PV} {P' : Reg} (hd : tab f = some d) (hl : vs.length = d.np)
    (h : wSs (WP n).ex d.body ⟨vs.map .fz ++ List.replicate (d.nv - d.np) .un, P⟩ fun fl σ => fl = .rt p ∧ σ.reg = P') : (LV (n + 1)).fn f vs P = some (p, P') := by
  (refine el22 (wSs_ok (wp_ok srtF tab n) h) ?_; intro fl σ e zq0 zq1; subst zq0; subst zq1)
  show (tab f).bind _ = _
  rw [hd]
  show (if vs.length = d.np then _ else _) = _
  rw [if_pos hl]
  exact congrArg (fun o => ifS o _) e
theorem loop_at {t : Tgt} {body : List S} {xs : List PV} (I : Nat → St → Prop) (h0 : I 0 σ) (hS : ∀ i x σ, xs[i]? = some x → I i σ → ∃ loc, bindS t x σ.loc = some loc ∧ wSs (WP n).ex body ⟨loc, σ.reg⟩ fun fl σ₁ => match fl with
    | .nx => I (i + 1) σ₁
    | .ct => I (i + 1) σ₁
    | .br => R .nx σ₁
    | .rt p => R (.rt p) σ₁) (hN : ∀ σ, I xs.length σ → R .nx σ) : Gv (loopS (bodyOf (LV n) t body) xs σ) R := by
  have key : ∀ (ys : List PV) (i : Nat) (σ : St), ys = xs.drop i → i ≤ xs.length → I i σ → Gv (loopS (bodyOf (LV n) t body) ys σ) R := by
    intro ys
    induction ys with
    | nil =>
      intro i σ e hi h
      have : xs.length ≤ i := by
        have := congrArg List.length e
        rw [List.length_drop] at this
        simp at this; lia
      rw [Nat.le_antisymm hi this] at h
      exact (mk21 .nx σ rfl (hN σ h))
    | cons x ys ih =>
      intro i σ e hi h
      have hx : xs[i]? = some x := by
        rw [← List.head?_drop, ← e]; rfl
      have hl : i < xs.length := (List.getElem?_eq_some_iff.mp hx).1
      have e' : ys = xs.drop (i + 1) := by
        rw [← List.tail_drop, ← e]; rfl
      (refine el11 (hS i x σ hx h) ?_; intro loc e₁ h₁)
      exact (Gv.bd (f := fun loc => execs (LV n).ex body ⟨loc, σ.reg⟩) e₁ (wSs_ok (wp_ok srtF tab n) h₁)).then fun fl σ₁ h₂ => match fl, h₂ with
        | .nx, h₂ => ih (i + 1) σ₁ e' hl h₂
        | .ct, h₂ => ih (i + 1) σ₁ e' hl h₂
        | .br, h₂ => .ret h₂
        | .rt p, h₂ => .ret h₂
  exact key xs 0 σ rfl (Nat.zero_le _) h0
theorem range_at {k i : Nat} {x : PV} (h : (rangeV k)[i]? = some x) : i < k ∧ x = .int i := by
  unfold rangeV at h
  rw [List.getElem?_map] at h
  by_cases hi : i < k
  · rw [List.getElem?_range hi] at h
    exact ⟨hi, by simpa using h.symm⟩
  · rw [List.getElem?_eq_none (by simpa using hi)] at h
    cases h
theorem range_len {k : Nat} : (rangeV k).length = k := by simp [rangeV]
theorem range_it {k : Nat} (h : k ≤ 65536) : iterItems .rng (.int k) = some (rangeV k) := by
  show (if _ then _ else _) = _
  rw [if_pos ⟨Int.natCast_nonneg k, by lia⟩]
  simp
theorem loop_ab {t : Tgt} {body : List S} {xs : List PV} (B : Nat → St → Prop) (h0 : B 0 σ) (k : ∀ I : Nat → St → Prop, (∀ i σ, B i σ → I i σ) → ∀ i x σ, xs[i]? = some x → B i σ → ∃ loc, bindS t x σ.loc = some loc ∧ wSs (WP n).ex body ⟨loc, σ.reg⟩ fun fl σ₁ => match fl with
    | .nx => I (i + 1) σ₁
    | .ct => I (i + 1) σ₁
    | .br => R .nx σ₁
    | .rt p => R (.rt p) σ₁) (hN : ∀ σ, B xs.length σ → R .nx σ) : Gv (loopS (bodyOf (LV n) t body) xs σ) R := loop_at B h0 (k B fun _ _ h => h) hN
theorem wSs_ab {ss : List S} {B : Fl → St → Prop} (k : ∀ R : Fl → St → Prop, (∀ fl σ, B fl σ → R fl σ) → wSs (WP n).ex ss σ R) : wSs (WP n).ex ss σ B := k B fun _ _ h => h
end
end Mine
end
local macro_rules | `(tactic| k_types) => `(tactic| (with_reducible first | (apply Mine.r_var; with_unfolding_all exact rfl) | (refine Mine.r_sym ?_ ?_; exact (by decide)) | (refine Mine.r_tup ?_ ?_; exact (by decide)) | refine Mine.r_int ?_ | refine Mine.r_neg1 ?_ | refine Mine.r_none ?_ | refine Mine.r_bool ?_ | refine Mine.r_cmp ?_ | refine Mine.r_sub ?_ | refine Mine.r_bin ?_ | refine Mine.r_len ?_ | refine Mine.r_call ?_ | refine Mine.rs_cons ?_ | refine Mine.rs_nil ?_ | refine Mine.r_attr ?_ | refine Mine.t_cmp ?_ | refine Mine.t_or ?_ | refine Mine.t_and ?_ | refine Mine.t_not ?_ | refine Mine.t_call ?_ | refine Mine.t_var ?_ | refine Mine.t_attr ?_ | refine Mine.t_isNone ?_ | refine Mine.r_isNone ?_ | refine Mine.x_nil ?_ | refine Mine.x_ret ?_ | refine Mine.x_cont ?_ | refine Mine.x_brk ?_ | refine Mine.x_asg ?_ | refine Mine.x_asgF ?_ | refine Mine.bo ?_ | (apply Mine.exv; with_unfolding_all exact rfl) | (apply Mine.exb; with_unfolding_all exact rfl)))
local macro_rules | `(tactic| k_units) => `(tactic| (repeat with_reducible first | refine Mine.x_cons ?_ | refine Mine.x_ite ?_ | k_types))
section
open PySem PySem.W PyProof.Rows
set_option Elab.async false
set_option maxRecDepth 100000
namespace Mine
noncomputable def okC (a : Option PV) (b : Option Int) : Bool := match a with
  | none => false
  | some s => (match b with
    | none => false
    | some c => !isE s && (lvl s).contains c)
noncomputable def okAt (ins : List PV) (codes : List Int) (skip : Int) (i : Nat) : Bool := decide ((i : Int) = skip) || okC ins[i]? codes[i]?
theorem okAt_eq {ins : List PV} {codes : List Int} {skip : Int} {i : Nat} {s : PV} {c : Int} (hs : ins[i]? = some s) (hc : codes[i]? = some c) : okAt ins codes skip i = (decide ((i : Int) = skip) || (!isE s && (lvl s).contains c)) := by
  unfold okAt; rw [hs, hc]; rfl
noncomputable def lmB (ins : List PV) (codes : List Int) (skip : Int) : Bool := (List.range ins.length).all (okAt ins codes skip)
theorem len_tup {l : List PV} (h : l.length < 65536) : opLen (.tup l) = some (.int l.length) := by
  show (if small l = true then some (PV.int l.length) else none) = _
  have e : small l = true := decide_eq_true h
  rw [if_pos e]
theorem len_list {l : List PV} (h : l.length < 65536) : opLen (.list l) = some (.int l.length) := by
  show (if small l = true then some (PV.int l.length) else none) = _
  have e : small l = true := decide_eq_true h
  rw [if_pos e]
theorem sub_tup {l : List PV} {i : Nat} {x : PV} {P : Reg} (hl : l.length < 65536) (h : l[i]? = some x) : opSub P (.tup l) (.int i) = some x := by
  show (if 0 ≤ (i : Int) ∧ small l = true then l[(i : Int).toNat]? else none) = _
  have e : small l = true := decide_eq_true hl
  rw [if_pos ⟨Int.natCast_nonneg i, e⟩]
  simpa using h
theorem sub_list {l : List PV} {i : Nat} {x : PV} {P : Reg} (hl : l.length < 65536) (h : l[i]? = some x) : opSub P (.list l) (.int i) = some x := by
  show (if 0 ≤ (i : Int) ∧ small l = true then l[(i : Int).toNat]? else none) = _
  have e : small l = true := decide_eq_true hl
  rw [if_pos ⟨Int.natCast_nonneg i, e⟩]
  simpa using h
theorem get_lt {α : Type} {l : List α} {i : Nat} (h : i < l.length) : ∃ x, l[i]? = some x ∧ x ∈ l := (mk11 (l[i]) (List.getElem?_eq_getElem h) (List.getElem_mem h))
theorem intsP_get {l : List Int} {i : Nat} {c : Int} (h : l[i]? = some c) : (intsP l)[i]? = some (.int c) := by
  unfold intsP; rw [List.getElem?_map, h]; rfl
theorem safe_intsP (l : List Int) (n : Nat) : safeL (intsP l) n = true := by
  induction l with
  | nil => rfl
  | cons i r ih => show ((PV.int i).safe n && safeL (intsP r) n) = true; rw [ih]; cases n <;> rfl
theorem in_ints {c : Int} {l : List Int} : inOp (.int c) (.tup (intsP l)) = some (l.contains c) := by
  show (if ((PV.int c).safe 4 && safeL (intsP l) 4) = true then some ((intsP l).any fun y => y.eq (.int c)) else none) = _
  have e : ((PV.int c).safe 4 && safeL (intsP l) 4) = true := by rw [safe_intsP]; rfl
  rw [if_pos e]
  clear e
  congr 1
  induction l with
  | nil => rfl
  | cons i r ih =>
    show ((PV.int i).eq (.int c) || (intsP r).any fun y => y.eq (.int c)) = _
    rw [ih, List.contains_cons]
    congr 1
    show decide (i = c) = (c == i)
    by_cases h : i = c
    · subst h; simp
    · simp [h, Ne.symm h]
theorem notin_ints {c : Int} {l : List Int} : opCmp 5 (.int c) (.tup (intsP l)) = some (!l.contains c) := by
  show (inOp _ _).map _ = _
  rw [in_ints]; rfl
theorem fn_lm (m : Nat) (P : Reg) {ins : List PV} {codes : List Int} {skip : Int} (hi : ∀ s ∈ ins, s ∈ syms) (hl : ins.length ≤ codes.length) (hc : codes.length < 100) :
    (LV (m + 60)).fn 11 [.tup ins, .list (intsP codes), .int skip] P = some (.bool (lmB ins codes skip), P) := by
  refine fn_go (d := f_levels_match) rfl rfl ?_
  dsimp only [f_levels_match, b_levels_match, List.map_cons, List.map_nil, List.replicate, List.cons_append, List.nil_append, Nat.reduceSub]
  refine x_cons (x_for ?_)
  k_units
  refine (mk11 _ (len_tup (by lia)) (mk11 _ (range_it (by lia)) ?_))
  refine loop_ab (fun i σ => (∃ sl, σ = ⟨[.fz (.tup ins), .fz (.list (intsP codes)), .fz (.int skip), sl], P⟩) ∧ ∀ j, j < i → okAt ins codes skip j = true) ⟨⟨_, rfl⟩, fun j hj => by lia⟩ (fun I hin i x σ hx hI => ?_) (fun σ hI => ?_)
  · (refine el01 (range_at hx) ?_; intro hi' zq0; subst zq0)
    (refine el01 hI ?_; try clear hI; intro zp0 hok; refine el10 zp0 ?_; clear zp0; intro sl zq1; subst zq1)
    (refine el11 (get_lt hi') ?_; intro s hs hsm)
    (refine el11 (get_lt (l := codes) (i := i) (by lia)) ?_; intro c hc' _)
    have hsy := hi s hsm
    refine (mk11 _ rfl ?_)
    k_units
    refine mb (fun hb => ?_) fun hb => ?_
    · k_units
      refine hin _ _ ⟨⟨_, rfl⟩, fun j hj => ?_⟩
      by_cases h : j = i
      · subst h
        have : (j : Int) = skip := of_decide_eq_true hb
        show (decide ((j : Int) = skip) || _) = true
        rw [decide_eq_true this]; rfl
      · exact hok j (by lia)
    · k_units
      refine (mk11 _ (sub_tup (by lia) hs) ?_)
      k_units
      refine r_fn (fn_ie _ _ s hsy) ?_
      k_units
      have bad : okAt ins codes skip i = false → lmB ins codes skip = false := fun h => by
        apply Bool.eq_false_iff.mpr
        intro h'
        rw [List.all_eq_true.mp h' i (List.mem_range.mpr hi')] at h
        cases h
      have hne : ¬ (i : Int) = skip := of_decide_eq_false hb
      refine mb (fun he => ?_) fun he => ?_
      · k_units
        refine ⟨?_, rfl⟩
        rw [bad (by rw [okAt_eq hs hc', decide_eq_false hne, he]; rfl)]
      · k_units
        refine (mk11 _ (sub_list (by simp [intsP]; lia) (intsP_get hc')) ?_)
        k_units
        refine (mk11 _ (sub_tup (by lia) hs) ?_)
        k_units
        refine r_fn (fn_lc _ _ s hsy) ?_
        refine (mk11 _ notin_ints ?_)
        k_units
        refine mb (fun hn => ?_) fun hn => ?_
        · k_units
          refine ⟨?_, rfl⟩
          rw [bad (by rw [okAt_eq hs hc', decide_eq_false hne, he]; simpa using hn)]
        · k_units
          refine hin _ _ ⟨⟨_, rfl⟩, fun j hj => ?_⟩
          by_cases h : j = i
          · subst h
            rw [okAt_eq hs hc', decide_eq_false hne, he]; simpa using hn
          · exact hok j (by lia)
  · (refine el01 hI ?_; try clear hI; intro zp0 hok; refine el10 zp0 ?_; clear zp0; intro sl zq1; subst zq1)
    k_units
    refine ⟨?_, rfl⟩
    rw [range_len] at hok
    have : lmB ins codes skip = true := List.all_eq_true.mpr fun j hj => hok j (List.mem_range.mp hj)
    rw [this]
end Mine
end
section
open PySem PySem.W PyProof.Rows
set_option Elab.async false
set_option maxRecDepth 100000
namespace Mine
noncomputable def rowP (ins : List PV) (st out : PV) : PV := .tup [.tup ins, st, out]
noncomputable def isAt (ins : List PV) (i : Nat) : Bool := match ins[i]? with
  | some s => isE s
  | none => false
noncomputable def epN (ins : List PV) : Int := match (List.range ins.length).find? (isAt ins) with
  | some i => (i : Int)
  | none => -1
theorem fn_pl (m : Nat) (P : Reg) {ins : List PV} {st out : PV} (hi : ∀ s ∈ ins, s ∈ syms) (hl : ins.length < 100) : (LV (m + 60)).fn 3 [rowP ins st out] P = some (.int (epN ins), P) := by
  unfold rowP
  refine fn_go (d := f_edge_place) rfl rfl ?_
  dsimp only [f_edge_place, b_edge_place, List.map_cons, List.map_nil, List.replicate, List.cons_append, List.nil_append, Nat.reduceSub]
  refine x_cons (x_for ?_)
  k_units
  refine (mk11 _ (len_tup (by lia)) (mk11 _ (range_it (by lia)) ?_))
  refine loop_ab (fun i σ => (∃ sl, σ = ⟨[.fz (.tup [.tup ins, st, out]), sl], P⟩) ∧ ∀ j, j < i → isAt ins j = false) ⟨⟨_, rfl⟩, fun j hj => by lia⟩ (fun I hin i x σ hx hI => ?_) (fun σ hI => ?_)
  · (refine el01 (range_at hx) ?_; intro hi' zq0; subst zq0)
    (refine el01 hI ?_; try clear hI; intro zp0 hok; refine el10 zp0 ?_; clear zp0; intro sl zq1; subst zq1)
    (refine el11 (get_lt hi') ?_; intro s hs hsm)
    have hsy := hi s hsm
    have hat : isAt ins i = isE s := by simp [isAt, hs]
    refine (mk11 _ rfl ?_)
    k_units
    refine (mk11 _ (sub_tup (by lia) hs) ?_)
    k_units
    refine r_fn (fn_ie _ _ s hsy) ?_
    k_units
    refine mb (fun he => ?_) fun he => ?_
    · k_units
      refine ⟨?_, rfl⟩
      have : (List.range ins.length).find? (isAt ins) = some i := List.find?_range_eq_some.mpr ⟨by rw [hat, he], List.mem_range.mpr hi', fun j hj => by rw [hok j hj]; rfl⟩
      simp [epN, this]
    · k_units
      refine hin _ _ ⟨⟨_, rfl⟩, fun j hj => ?_⟩
      by_cases h : j = i
      · subst h; rw [hat, he]
      · exact hok j (by lia)
  · (refine el01 hI ?_; try clear hI; intro zp0 hok; refine el10 zp0 ?_; clear zp0; intro sl zq1; subst zq1)
    k_units
    refine ⟨?_, rfl⟩
    rw [range_len] at hok
    have : (List.range ins.length).find? (isAt ins) = none := List.find?_eq_none.mpr fun j hj => by rw [hok j (List.mem_range.mp hj)]; simp
    simp [epN, this]
theorem fn_ct (m : Nat) (P : Reg) {ins : List PV} {st out : PV} (hi : ∀ s ∈ ins, s ∈ syms) : (LV (m + 60)).fn 4 [rowP ins st out] P = some (.int (ins.countP isE), P) := by
  unfold rowP
  refine fn_go (d := f_edge_count) rfl rfl ?_
  dsimp only [f_edge_count, b_edge_count, List.map_cons, List.map_nil, List.replicate, List.cons_append, List.nil_append, Nat.reduceSub]
  k_units
  refine ⟨rfl, ?_⟩
  refine x_cons (x_for ?_)
  k_units
  refine (mk11 _ rfl ?_)
  refine loop_ab (fun i σ => ∃ sl, σ = ⟨[.fz (.tup [.tup ins, st, out]), .fz (.int ((ins.take i).countP isE)), sl], P⟩) ⟨_, rfl⟩ (fun I hin i x σ hx hI => ?_) (fun σ hI => ?_)
  · (refine el10 hI ?_; try clear hI; intro sl zq0; subst zq0)
    have hsy := hi x (List.mem_of_getElem? hx)
    refine (mk11 _ rfl ?_)
    k_units
    refine r_fn (fn_ie _ _ x hsy) ?_
    k_units
    have ht : ins.take (i + 1) = ins.take i ++ [x] := by rw [List.take_add_one, hx]; rfl
    refine mb (fun he => ?_) fun he => ?_
    · refine x_cons (x_augI0 rfl ?_)
      k_units
      refine (mk11 _ rfl (.inl ⟨rfl, ?_⟩))
      k_units
      exact hin _ _ ⟨_, by rw [ht, List.countP_append]; simp [he]; rfl⟩
    · k_units
      exact hin _ _ ⟨_, by rw [ht, List.countP_append]; simp [he]; rfl⟩
  · (refine el10 hI ?_; try clear hI; intro sl zq0; subst zq0)
    k_units
    rw [List.take_length]
    exact ⟨rfl, rfl⟩
end Mine
end
section
open PySem PySem.W PyProof.Rows
set_option Elab.async false
set_option maxRecDepth 100000
namespace Mine
noncomputable def shAt (a b : PV) : Bool := if isE a then shareP (prs a) (prs b) else shareI (lvl a) (lvl b)
noncomputable def shAll (iu iv : List PV) : Bool := (List.range iu.length).all fun i => match iu[i]?, iv[i]? with
  | some a, some b => shAt a b
  | _, _ => false
noncomputable def stN2 (su : PV) : Prop := su = .none ∨ su ∈ levs
noncomputable def rcN (iu : List PV) (su ou : PV) (iv : List PV) (sv ov : PV) : Bool :=
  if epN iu ≠ epN iv then false else if shAll iu iv = false then false else if (su.isNone || sv.isNone) = true then !ou.eq ov else (lvl su).any fun x => (lvl sv).contains x && !decide (outv ou x = outv ov x)
theorem levs_syms {s : PV} (h : s ∈ levs) : s ∈ syms := by unfold syms; simp [h]
theorem outs_ne : ∀ a ∈ outs, ∀ b ∈ outs, opCmp 1 a b = some (!a.eq b) := by decide
theorem levs_not : ∀ a ∈ levs, a.isNone = false := by decide
theorem cmp_int1 {a b : Int} : opCmp 1 (.int a) (.int b) = some (!decide (a = b)) := rfl
theorem rc_last {iu iv : List PV} {su ou sv ov : PV} (h1 : epN iu = epN iv) (h2 : shAll iu iv = true) (h3 : su.isNone = false) (h4 : sv.isNone = false) : rcN iu su ou iv sv ov = (lvl su).any fun x => (lvl sv).contains x && !decide (outv ou x = outv ov x) := by
  unfold rcN
  rw [if_neg (by simp [h1]), if_neg (by simp [h2]), if_neg (by simp [h3, h4])]
theorem fn_rc (m : Nat) (P : Reg) {iu iv : List PV} {su ou sv ov : PV} (hu : ∀ s ∈ iu, s ∈ syms) (hv : ∀ s ∈ iv, s ∈ syms) (hl : iu.length = iv.length) (hz : iv.length < 100) (hsu : stN2 su) (hsv : stN2 sv) (hou : ou ∈ outs) (hov : ov ∈ outs) :
    (LV (m + 100)).fn 7 [rowP iu su ou, rowP iv sv ov] P = some (.bool (rcN iu su ou iv sv ov), P) := by
  have e3 := fun k => fn_pl k P (ins := iu) (st := su) (out := ou) hu (by omega)
  have e4 := fun k => fn_pl k P (ins := iv) (st := sv) (out := ov) hv hz
  unfold rowP at e3 e4 ⊢
  refine fn_go (d := f_rows_conflict) rfl rfl ?_
  dsimp only [f_rows_conflict, b_rows_conflict, List.map_cons, List.map_nil, List.replicate, List.cons_append, List.nil_append, Nat.reduceSub]
  k_units
  refine r_fn (e3 _) ?_
  k_units
  refine r_fn (e4 _) ?_
  refine exb cmp_int1 ?_
  k_units
  refine mb (fun hb => ?_) fun hb => ?_
  · k_units
    have : epN iu ≠ epN iv := by simpa using hb
    simp [rcN, this]
  have hep : epN iu = epN iv := by simpa using hb
  refine x_nil ?_
  refine x_cons (x_for ?_)
  k_units
  refine (mk11 _ (len_tup (by omega)) (mk11 _ (range_it (by omega)) ?_))
  refine loop_ab (fun i σ => (∃ sl, σ = ⟨[.fz (.tup [.tup iu, su, ou]), .fz (.tup [.tup iv, sv, ov]), sl, .un], P⟩) ∧ ∀ j, j < i → (match iu[j]?, iv[j]? with | some a, some b => shAt a b | _, _ => false) = true) ⟨⟨_, rfl⟩, fun j hj => by omega⟩ (fun I hin i x σ hx hI => ?_) (fun σ hI => ?_)
  · (refine el01 (range_at hx) ?_; intro hi' zq0; subst zq0)
    (refine el01 hI ?_; try clear hI; intro zp0 hok; refine el10 zp0 ?_; clear zp0; intro sl zq1; subst zq1)
    (refine el11 (get_lt hi') ?_; intro a ha ham)
    (refine el11 (get_lt (l := iv) (i := i) (by omega)) ?_; intro b hb hbm)
    have bad : shAt a b = false → rcN iu su ou iv sv ov = false := fun h => by
      have : shAll iu iv = false := by
        apply Bool.eq_false_iff.mpr
        intro h'
        have := List.all_eq_true.mp h' i (List.mem_range.mpr hi')
        simp only [ha, hb, h] at this
        cases this
      simp [rcN, hep, this]
    have good : shAt a b = true → ∀ j, j < i + 1 → (match iu[j]?, iv[j]? with | some a, some b => shAt a b | _, _ => false) = true := fun h j hj => by
      by_cases q : j = i
      · subst q; simp only [ha, hb, h]
      · exact hok j (by omega)
    have hA := hu a ham
    have hB := hv b hbm
    refine (mk11 _ rfl ?_)
    k_units
    refine (mk11 _ (sub_tup (by omega) ha) ?_)
    k_units
    refine r_fn (fn_ie _ _ a hA) ?_
    k_units
    refine mb (fun he => ?_) fun he => ?_
    · k_units
      refine (mk11 _ (sub_tup (by omega) ha) ?_)
      k_units
      refine r_fn (fn_ep _ _ a hA) ?_
      k_units
      refine (mk11 _ (sub_tup (by omega) hb) ?_)
      k_units
      refine r_fn (fn_ep _ _ b hB) ?_
      k_units
      refine r_fn (fn_shP _ _ (a, b) (pair_mem hA hB)) ?_
      k_units
      refine mb (fun hs => ?_) fun hs => ?_
      · k_units
        rw [bad (by simpa [shAt, he] using hs)]
        exact ⟨rfl, rfl⟩
      · k_units
        exact hin _ _ ⟨⟨_, rfl⟩, good (by simpa [shAt, he] using hs)⟩
    · k_units
      refine (mk11 _ (sub_tup (by omega) ha) ?_)
      k_units
      refine r_fn (fn_lc _ _ a hA) ?_
      k_units
      refine (mk11 _ (sub_tup (by omega) hb) ?_)
      k_units
      refine r_fn (fn_lc _ _ b hB) ?_
      k_units
      refine r_fn (fn_shI _ _ (a, b) (pair_mem hA hB)) ?_
      k_units
      refine mb (fun hs => ?_) fun hs => ?_
      · k_units
        rw [bad (by simpa [shAt, he] using hs)]
        exact ⟨rfl, rfl⟩
      · k_units
        exact hin _ _ ⟨⟨_, rfl⟩, good (by simpa [shAt, he] using hs)⟩
  · (refine el01 hI ?_; try clear hI; intro zp0 hok; refine el10 zp0 ?_; clear zp0; intro sl zq1; subst zq1)
    rw [range_len] at hok
    have hsh : shAll iu iv = true := List.all_eq_true.mpr fun j hj => hok j (List.mem_range.mp hj)
    k_units
    have hlast : (su.isNone || sv.isNone) = false → su ∈ levs ∧ sv ∈ levs := fun h => by
      simp only [Bool.or_eq_false_iff] at h
      refine ⟨hsu.resolve_left fun q => ?_, hsv.resolve_left fun q => ?_⟩
      · subst q; cases h.1
      · subst q; cases h.2
    refine mb (fun h1 => ?_) fun h1 => ?_
    · k_units
      refine exb (outs_ne _ hou _ hov) ?_
      k_units
      simp [rcN, hep, hsh, h1]
    · k_units
      refine mb (fun h2 => ?_) fun h2 => ?_
      · k_units
        refine exb (outs_ne _ hou _ hov) ?_
        k_units
        simp [rcN, hep, hsh, h1, h2]
      · (refine el01 (hlast (by rw [h1, h2]; rfl)) ?_; intro hSu hSv)
        k_units
        refine x_for ?_
        k_units
        refine r_fn (fn_lc _ _ su (levs_syms hSu)) ?_
        refine (mk11 _ rfl ?_)
        refine loop_ab (fun i σ => (∃ sl s2, σ = ⟨[.fz (.tup [.tup iu, su, ou]), .fz (.tup [.tup iv, sv, ov]), sl, s2], P⟩) ∧ ((lvl su).take i).any (fun x => (lvl sv).contains x && !decide (outv ou x = outv ov x)) = false) ⟨(mk20 _ _ rfl), rfl⟩ (fun I hin i x σ hx hI => ?_) (fun σ hI => ?_)
        · (refine el01 hI ?_; try clear hI; intro zp0 hok; refine el20 zp0 ?_; clear zp0; intro sl s2 zq1; subst zq1)
          unfold intsP at hx
          rw [List.getElem?_map] at hx
          (refine el11 (Option.map_eq_some_iff.mp hx) ?_; intro c hc zq0; subst zq0)
          have ht : (lvl su).take (i + 1) = (lvl su).take i ++ [c] := by rw [List.take_add_one, hc]; rfl
          have hcm := List.mem_of_getElem? hc
          refine (mk11 _ rfl ?_)
          k_units
          refine r_fn (fn_lc _ _ sv (levs_syms hSv)) ?_
          refine exb in_ints ?_
          k_units
          refine mb' (fun h3 => ?_) fun h3 => ?_
          · k_units
            exact hin _ _ ⟨(mk20 _ _ rfl), by rw [ht, List.any_append, hok]; simp only [List.any_cons, List.any_nil, h3]; rfl⟩
          · k_units
            refine r_fn (fn_oc _ _ c ou hou) ?_
            k_units
            refine r_fn (fn_oc _ _ c ov hov) ?_
            refine exb cmp_int1 ?_
            k_units
            refine mb (fun h4 => ?_) fun h4 => ?_
            · k_units
              rw [rc_last hep hsh h1 h2]
              refine ⟨?_, rfl⟩
              rw [List.any_eq_true.mpr (mk11 c hcm (by rw [h3, h4]; rfl))]
            · k_units
              exact hin _ _ ⟨(mk20 _ _ rfl), by rw [ht, List.any_append, hok]; simp only [List.any_cons, List.any_nil, h3, h4]; rfl⟩
        · (refine el01 hI ?_; try clear hI; intro zp0 hok; refine el20 zp0 ?_; clear zp0; intro sl s2 zq1; subst zq1)
          k_units
          rw [show (intsP (lvl su)).length = (lvl su).length by simp [intsP], List.take_length] at hok
          rw [rc_last hep hsh h1 h2, hok]
          exact ⟨rfl, rfl⟩
end Mine
end
section
open PySem PySem.W PyProof.Rows
set_option Elab.async false
set_option maxRecDepth 100000
namespace Mine
structure WM (W : Wp) : Prop where
  ev : ∀ {x ρ P} {Q Q' : PV → Reg → Prop}, W.ev x ρ P Q → (∀ a b, Q a b → Q' a b) → W.ev x ρ P Q'
  evT : ∀ {x ρ P} {Q Q' : Bool → Reg → Prop}, W.evT x ρ P Q → (∀ a b, Q a b → Q' a b) → W.evT x ρ P Q'
  ex : ∀ {s σ} {Q Q' : Fl → St → Prop}, W.ex s σ Q → (∀ a b, Q a b → Q' a b) → W.ex s σ Q'
  fn : ∀ {f vs P} {Q Q' : PV → Reg → Prop}, W.fn f vs P Q → (∀ a b, Q a b → Q' a b) → W.fn f vs P Q'
section
variable {W : Wp} {L : Lv}
theorem wEs_mono (k : WM W) : ∀ {xs : List X} {ρ : Vw} {P : Reg} {Q Q' : List PV → Reg → Prop}, wEs W.ev xs ρ P Q → (∀ a b, Q a b → Q' a b) → wEs W.ev xs ρ P Q'
  | [], _, _, _, _, h, q => q _ _ h
  | _ :: _, _, _, _, _, h, q => k.ev h fun _ _ h => wEs_mono k h fun _ _ h => q _ _ h
theorem wSs_mono (k : WM W) : ∀ {ss : List S} {σ : St} {Q Q' : Fl → St → Prop}, wSs W.ex ss σ Q → (∀ a b, Q a b → Q' a b) → wSs W.ex ss σ Q'
  | [], _, _, _, h, q => q _ _ h
  | _ :: _, _, _, _, h, q => k.ex h fun fl _ h => by
    cases fl with
    | nx => exact wSs_mono k h q
    | _ => exact q _ _ h
theorem stepWE_mono (k : WM W) {srt : List PV → Option (List PV)} {x : X} {ρ : Vw} {P : Reg} {Q Q' : PV → Reg → Prop} (h : stepWE W L srt x ρ P Q) (q : ∀ a b, Q a b → Q' a b) : stepWE W L srt x ρ P Q' := by
  cases x with
  | sym j => exact ⟨h.1, q _ _ h.2⟩
  | not a => exact h.elim
  | var i => (refine el11 h ?_; try clear h; intro p e h); exact (mk11 p e (q _ _ h))
  | none | bool _ | int _ | neg1 | dict0 => exact q _ _ h
  | bin op a b | cmp op a b | sub a b | sliceTo a b => exact k.ev h fun _ _ h => k.ev h fun _ _ ⟨r, e, h⟩ => (mk11 r e (q _ _ h))
  | and a b => exact k.ev h fun _ _ ⟨c, e, h⟩ => (mk11 c e (by
      cases c
      · exact q _ _ h
      · exact k.ev h q))
  | or a b => exact k.ev h fun _ _ ⟨c, e, h⟩ => (mk11 c e (by
      cases c
      · exact k.ev h q
      · exact q _ _ h))
  | isNone a | notNone a => exact k.ev h fun _ _ h => q _ _ h
  | ife t a b => exact k.evT h fun c _ h => by cases c <;> exact k.ev h q
  | call f as => exact wEs_mono k h fun _ _ h => k.fn h q
  | len a | toInt a | abs a | tupleOf a | sliceFrom1 a => exact k.ev h fun _ _ ⟨r, e, h⟩ => (mk11 r e (q _ _ h))
  | attr a j => exact k.ev h fun _ _ ⟨r, e, h⟩ => (mk11 r e (q _ _ h))
  | strAt cs a => exact k.ev h fun _ _ ⟨r, e, h⟩ => (mk11 r e (q _ _ h))
  | menu ks vs a => exact k.ev h fun _ _ ⟨r, e, h⟩ => (mk11 r e (q _ _ h))
  | sorted a => exact k.ev h fun _ _ ⟨l, r, e, e', h⟩ => (mk22 l r e e' (q _ _ h))
  | prim as => exact wEs_mono k h fun _ _ ⟨e, h⟩ => ⟨e, q _ _ h⟩
  | tup l | list l => exact ⟨h.1, wEs_mono k h.2 fun _ _ h => q _ _ h⟩
  | get d j v => exact k.ev h fun _ _ h => k.ev h fun _ _ h => k.ev h fun _ _ ⟨r, e, h⟩ => (mk11 r e (q _ _ h))
  | comp1 | comp2 => exact k.ev h fun _ _ ⟨l, e, h⟩ => (mk11 l e (h.mono fun _ _ ⟨e, h⟩ => ⟨e, q _ _ h⟩))
theorem stepWT_mono (k : WM W) {x : X} {ρ : Vw} {P : Reg} {Q Q' : Bool → Reg → Prop} (h : stepWT W x ρ P Q) (q : ∀ a b, Q a b → Q' a b) : stepWT W x ρ P Q' := by
  cases x with
  | not a => exact k.evT h fun _ _ h => q _ _ h
  | and a b =>
    exact k.evT h fun c _ h => by
      cases c
      · exact q _ _ h
      · exact k.evT h q
  | or a b =>
    exact k.evT h fun c _ h => by
      cases c
      · exact k.evT h q
      · exact q _ _ h
  | ife t a b => exact h.elim
  | _ => exact k.ev h fun _ _ ⟨b, e, h⟩ => (mk11 b e (q _ _ h))
theorem stepWX_mono (k : WM W) {s : S} {σ : St} {Q Q' : Fl → St → Prop} (h : stepWX W L s σ Q) (q : ∀ a b, Q a b → Q' a b) : stepWX W L s σ Q' := by
  cases s with
  | asg i e => exact k.ev h fun _ _ ⟨a, h⟩ => ⟨a, q _ _ h⟩
  | asgF i e => exact k.ev h fun _ _ h => q _ _ h
  | own i e => exact ⟨h.1, k.ev h.2 fun _ _ ⟨a, h⟩ => ⟨a, q _ _ h⟩⟩
  | unp is e => exact k.ev h fun _ _ ⟨l, loc, a, b, h⟩ => (mk22 l loc a b (q _ _ h))
  | setIt i idx e => exact k.ev h fun _ _ ⟨a, h⟩ => ⟨a, k.ev h fun _ _ h => by
      rcases h with ⟨l, n, a, b, c, h⟩ | ⟨d, n, u, a, b, c, e, h⟩ | ⟨l, n, u, a, b, c, e, f, h⟩
      · exact .inl (mk23 l n a b c (q _ _ h))
      · exact .inr (.inl (mk34 d n u a b c e (q _ _ h)))
      · exact .inr (.inr (mk34 l n u a b c e (mk01 f (q _ _ h))))⟩
  | augPool i j n => (refine el24 h ?_; try clear h; intro l a h1 h2 h3 h4 h); exact (mk24 l a h1 h2 h3 h4 (q _ _ h))
  | augI i op e => (refine el11 h ?_; try clear h; intro a h1 h); exact (mk11 a h1 (k.ev h fun _ _ ⟨b, e, h⟩ => (mk11 b e (h.imp (fun ⟨x, h⟩ => ⟨x, q _ _ h⟩) fun ⟨x, y, h⟩ => ⟨x, y, q _ _ h⟩))))
  | ext i e => (refine el01 h ?_; try clear h; intro hf zr0; refine el11 zr0 ?_; clear zr0; intro l h1 h); exact (mk01 hf (mk11 l h1 (k.ev h fun _ _ ⟨b, e, c, h⟩ => (mk12 b e c (q _ _ h)))))
  | app i e => (refine el11 h ?_; try clear h; intro l h1 h); exact (mk11 l h1 (k.ev h fun _ _ ⟨c, h⟩ => ⟨c, q _ _ h⟩))
  | appF i e => (refine el11 h ?_; try clear h; intro l h1 h); exact (mk11 l h1 (k.ev h fun _ _ ⟨c, h⟩ => ⟨c, q _ _ h⟩))
  | upd i e => (refine el11 h ?_; try clear h; intro l h1 h); exact (mk11 l h1 (k.ev h fun _ _ ⟨m, e, c, h⟩ => (mk12 m e c (q _ _ h))))
  | ite t a b => exact k.evT h fun c _ h => by cases c <;> exact wSs_mono k h q
  | «for» t j e body => exact k.ev h fun _ _ ⟨l, e, h⟩ => (mk11 l e (h.mono q))
  | forOwn t j body => (refine el43 h ?_; try clear h; intro c i e l h1 h2 h3 h); exact (mk43 c i e l h1 h2 h3 (h.mono q))
  | ret e => exact k.ev h fun _ _ h => q _ _ h
  | brk | cont => exact q _ _ h
  | freeze i => (refine el11 h ?_; try clear h; intro p h1 h); exact (mk11 p h1 (q _ _ h))
end
theorem wp_mono : ∀ n, WM (WP n)
  | 0 => ⟨fun h => h.elim, fun h => h.elim, fun h => h.elim, fun h => h.elim⟩
  | n + 1 => ⟨fun h q => stepWE_mono (wp_mono n) h q, fun h q => stepWT_mono (wp_mono n) h q, fun h q => stepWX_mono (wp_mono n) h q, fun h q => h.mono q⟩
section
variable {n : Nat} {ρ : Vw} {P : Reg} {R : Fl → St → Prop} {σ : St}
theorem flat_snoc {l : List PV} {v : PV} : flatL (l ++ [v]) = (flatL l && v.flat) := by
  induction l with
  | nil => simp [flatL]
  | cons a l ih => rw [List.cons_append, flatL, flatL, ih, Bool.and_assoc]
theorem x_iteApp {i : Nat} {t e : X} {v : PV} {l : List PV} (hs : lkS σ.loc i = .ow (.list l)) (hf : v.flat = true) (hm : small l = true)
    (he : ∀ P {Q : PV → Reg → Prop}, Q v P → (WP n).ev e (viewA σ.loc) P Q) (hset : σ.loc.set i (.ow (.list l)) = σ.loc)
    (h : (WP (n + 1)).evT t (viewA σ.loc) σ.reg fun c P => R .nx ⟨σ.loc.set i (.ow (.list (l ++ if c = true then [v] else []))), P⟩) : (WP (n + 2)).ex (.ite t [.app i e] []) σ R := by
  refine x_ite ((wp_mono _).evT h fun c P h => ?_)
  cases c with
  | true => exact x_cons (x_app hs (he P ⟨by rw [hf, hm]; rfl, x_nil h⟩))
  | false =>
    simp only [Bool.false_eq_true, if_false, List.append_nil, hset] at h
    exact x_nil h
end
end Mine
end
section
open PySem PySem.W PyProof.Rows
set_option Elab.async false
set_option maxRecDepth 100000
namespace Mine
noncomputable def primP (outp : PV) (inps : List PV) (seq : Bool) (rows : List PV) : PV := .prim [.sym 15, .int 0, outp, .tup inps, .bool seq, .int 3, .tup rows]
noncomputable def emp (s : PV) : Bool := isE s && (prs s).isEmpty
noncomputable def iff1 (b : Bool) (k : Nat) : List PV := if b = true then [.sym k] else []
noncomputable def rfN (nin : Nat) (seq : Bool) (ins : List PV) (out : PV) : List PV :=
  iff1 (!decide ((ins.length : Int) = nin)) 19 ++ (if seq = true then iff1 (decide ((ins.countP isE : Int) > 1)) 20 else iff1 (decide ((ins.countP isE : Int) > 0)) 21 ++ iff1 (out.eq (.sym 11)) 22) ++ (ins.filter emp).map fun _ => .sym 23
theorem iff1_len (b : Bool) (k : Nat) : (iff1 b k).length ≤ 1 := by cases b <;> simp [iff1]
theorem small_of {l : List PV} (h : l.length < 65536) : small l = true := decide_eq_true h
theorem out_eq : ∀ o ∈ outs, opCmp 0 o (.sym 11) = some (o.eq (.sym 11)) := by decide
theorem len_zero {l : List PV} : (PV.int l.length).eq (.int 0) = l.isEmpty := by
  show decide ((l.length : Int) = 0) = _
  cases l with
  | nil => rfl
  | cons a l => exact decide_eq_false (by simp only [List.length_cons]; lia)
theorem fn_rf (m : Nat) (P : Reg) {outp : PV} {inps rows : List PV} {seq : Bool} {ins : List PV} {st out : PV} (hi : ∀ s ∈ ins, s ∈ syms) (hl : ins.length < 100) (hn : inps.length < 100) (ho : out ∈ outs) :
    (LV (m + 100)).fn 6 [primP outp inps seq rows, rowP ins st out] P = some (.list (rfN inps.length seq ins out), P) := by
  have e4 := fun k => fn_ct k P (ins := ins) (st := st) (out := out) hi
  unfold rowP at e4 ⊢
  unfold primP
  refine fn_go (d := f_row_faults) rfl rfl ?_
  dsimp only [f_row_faults, b_row_faults, List.map_cons, List.map_nil, List.replicate, List.cons_append, List.nil_append, Nat.reduceSub]
  refine x_cons (x_own rfl ?_)
  refine r_list (by decide) ?_
  k_units
  refine ⟨rfl, ?_⟩
  refine x_cons (x_iteApp (v := .sym 19) rfl rfl rfl (fun P Q h => r_sym (by decide) h) rfl ?_)
  k_units
  refine (mk11 _ (len_tup (by lia)) ?_)
  k_units
  refine (mk11 _ (len_tup (by lia)) ?_)
  refine exb cmp_int1 ?_
  k_units
  refine r_fn (e4 _) ?_
  refine ⟨rfl, ?_⟩
  k_units
  have fin : ∀ {σ : St} {l : List PV} {sl s3 : Slot}, σ = ⟨[.fz (.prim [.sym 15, .int 0, outp, .tup inps, .bool seq, .int 3, .tup rows]), .fz (.tup [.tup ins, st, out]), .ow (.list l), sl, s3], P⟩ → l.length ≤ 3 → l ++ (ins.filter emp).map (fun _ => PV.sym 23) = rfN inps.length seq ins out →
      wSs (WP (m + 99)).ex [.for (.one 4) .val (.sub (.var 1) (.int 0)) [.ite (.and (.call 1 [(.var 4)]) (.cmp 0 (.len (.call 2 [(.var 4)])) (.int 0))) [.app 2 (.sym 23)] []], .ret (.var 2)] σ fun fl σ => fl = .rt (.list (rfN inps.length seq ins out)) ∧ σ.reg = P := by
    rintro σ l sl s3 rfl hll hfin
    refine x_cons (x_for ?_)
    k_units
    refine (mk11 _ rfl ?_)
    refine loop_ab (fun i σ => ∃ s3, σ = ⟨[.fz (.prim [.sym 15, .int 0, outp, .tup inps, .bool seq, .int 3, .tup rows]), .fz (.tup [.tup ins, st, out]), .ow (.list (l ++ ((ins.take i).filter emp).map fun _ => PV.sym 23)), sl, s3], P⟩) ⟨s3, by simp⟩ (fun I hin i x σ hx hI => ?_) (fun σ hI => ?_)
    · (refine el10 hI ?_; try clear hI; intro s3 zq0; subst zq0)
      have hsy := hi x (List.mem_of_getElem? hx)
      have ht : ins.take (i + 1) = ins.take i ++ [x] := by rw [List.take_add_one, hx]; rfl
      have hsm : (l ++ ((ins.take i).filter emp).map fun _ => PV.sym 23).length < 65536 := by
        have h1 := List.length_filter_le emp (ins.take i)
        have h2 := List.length_take_le i ins
        rw [List.length_append, List.length_map]
        have : (ins.take i).length ≤ ins.length := by rw [List.length_take]; lia
        lia
      refine (mk11 _ rfl ?_)
      refine x_cons (x_iteApp (v := .sym 23) rfl rfl (small_of hsm) (fun P Q h => r_sym (by decide) h) rfl ?_)
      k_units
      refine r_fn (fn_ie _ _ x hsy) ?_
      k_units
      have key : ∀ c : Bool, emp x = c → (l ++ List.map (fun _ => PV.sym 23) (List.filter emp (ins.take i)) ++ if c = true then [PV.sym 23] else []) = l ++ List.map (fun _ => PV.sym 23) (List.filter emp (ins.take (i + 1))) := by
        rintro c rfl
        rw [ht, List.filter_append, List.map_append, List.append_assoc]
        congr 2
        cases h : emp x <;> simp [h]
      refine mb' (fun he => ?_) fun he => ?_
      · k_units
        exact hin _ _ ⟨_, by rw [key false (by simp [emp, he])]; rfl⟩
      · k_units
        refine r_fn (fn_ep _ _ x hsy) ?_
        refine (mk11 _ (len_tup (by
          rw [List.length_map]
          have : ∀ s ∈ syms, (prs s).length < 65536 := by decide +kernel
          exact this x hsy)) ?_)
        k_units
        rw [len_zero]
        exact hin _ _ ⟨_, by rw [key _ (by simp [emp, he])]; rfl⟩
    · (refine el10 hI ?_; try clear hI; intro s3 zq0; subst zq0)
      k_units
      rw [List.take_length, hfin]
      exact ⟨rfl, rfl⟩
  have h19 := iff1_len (!decide ((ins.length : Int) = inps.length)) 19
  refine mb (fun hs => ?_) fun hs => ?_
  · subst hs
    refine x_cons (x_iteApp (v := .sym 20) rfl rfl (small_of (Nat.lt_of_le_of_lt h19 (by decide))) (fun P Q h => r_sym (by decide) h) rfl ?_)
    k_units
    refine fin rfl ?_ rfl
    have h20 := iff1_len (decide ((ins.countP isE : Int) > 1)) 20
    rw [List.length_append]
    exact Nat.le_trans (Nat.add_le_add h19 h20) (by decide)
  · subst hs
    have h21 := iff1_len (decide ((ins.countP isE : Int) > 0)) 21
    have h22 := iff1_len (out.eq (.sym 11)) 22
    refine x_cons (x_iteApp (v := .sym 21) rfl rfl (small_of (Nat.lt_of_le_of_lt h19 (by decide))) (fun P Q h => r_sym (by decide) h) rfl ?_)
    (repeat k_types)
    have h23 : (iff1 (!decide ((ins.length : Int) = inps.length)) 19 ++ iff1 (decide ((ins.countP isE : Int) > 0)) 21).length < 65536 := by
      rw [List.length_append]
      exact Nat.lt_of_le_of_lt (Nat.add_le_add h19 h21) (by decide)
    refine x_cons (x_iteApp (v := .sym 22) (l := iff1 (!decide ((ins.length : Int) = inps.length)) 19 ++ iff1 (decide ((ins.countP isE : Int) > 0)) 21) ?a rfl (small_of h23) (fun P Q h => r_sym (by decide) h) ?c ?_)
    case a => rfl
    case c => rfl
    k_units
    refine exb (out_eq out ho) ?_
    k_units
    refine fin rfl ?_ ?_
    · rw [List.length_append, List.length_append]
      exact Nat.le_trans (Nat.add_le_add (Nat.add_le_add h19 h21) h22) (by decide)
    · show (iff1 _ 19 ++ iff1 _ 21 ++ iff1 _ 22) ++ _ = iff1 _ 19 ++ (iff1 _ 21 ++ iff1 _ 22) ++ _
      rw [List.append_assoc (iff1 _ 19)]
end Mine
end
section
open PySem PySem.W PyProof.Rows
set_option Elab.async false
set_option maxRecDepth 100000
namespace Mine
structure Rw where
  ins : List PV
  st : PV
  out : PV
noncomputable def Rw.P (r : Rw) : PV := rowP r.ins r.st r.out
structure RwOK (c : Nat) (r : Rw) : Prop where
  syms : ∀ s ∈ r.ins, s ∈ syms
  len : r.ins.length = c
  st : stN2 r.st
  out : r.out ∈ outs
noncomputable def plainI (c : Int) : Int := if c = 2 then 3 else c
theorem fn_pn (m : Nat) (P : Reg) (c : Int) : (LV (m + 20)).fn 10 [.int c] P = some (.int (plainI c), P) := by
  refine fn_go (d := f_plain) rfl rfl ?_
  dsimp only [f_plain, b_plain, List.map_cons, List.map_nil, List.replicate, List.cons_append, List.nil_append, Nat.reduceSub]
  k_units
  refine mb (fun h => ?_) fun h => ?_
  · k_units
    have : c = 2 := of_decide_eq_true h
    simp [plainI, this]
  · k_units
    have : ¬ c = 2 := of_decide_eq_false h
    simp [plainI, this]
theorem find_take {α : Type} {p : α → Bool} {l : List α} {i : Nat} {x : α} (h : (l.take i).find? p = none) (hx : l[i]? = some x) (hp : p x = true) : l.find? p = some x := by
  have hl : i < l.length := (List.getElem?_eq_some_iff.mp hx).1
  have e : l = l.take i ++ x :: l.drop (i + 1) := by
    have h1 := (List.take_append_drop i l).symm
    rw [List.drop_eq_getElem_cons hl] at h1
    rwa [(List.getElem?_eq_some_iff.mp hx).2] at h1
  rw [e, List.find?_append, h, List.find?_cons, hp]
  rfl
theorem find_more {α : Type} {p : α → Bool} {l : List α} {i : Nat} {x : α} (h : (l.take i).find? p = none) (hx : l[i]? = some x) (hp : p x = false) : (l.take (i + 1)).find? p = none := by
  rw [List.take_add_one, hx, List.find?_append, h]
  simp [hp]
theorem in_prs {a b : Int} {l : List (Int × Int)} : opCmp 4 (.tup [.int a, .int b]) (.tup (l.map prP)) = some (l.contains (a, b)) := by
  have hs : safeL (l.map prP) 4 = true := by
    induction l with
    | nil => rfl
    | cons x r ih => show ((prP x).safe 4 && safeL (r.map prP) 4) = true; rw [ih]; rfl
  show (if ((PV.tup [.int a, .int b]).safe 4 && safeL (l.map prP) 4) = true then some ((l.map prP).any fun y => y.eq (.tup [.int a, .int b])) else none) = _
  have e : ((PV.tup [.int a, .int b]).safe 4 && safeL (l.map prP) 4) = true := by rw [hs]; rfl
  rw [if_pos e]
  clear hs e
  congr 1
  induction l with
  | nil => rfl
  | cons x r ih =>
    obtain ⟨u, v⟩ := x
    rw [List.map_cons, List.any_cons, ih, List.contains_cons]
    congr 1
    show (decide (u = a) && (decide (v = b) && true)) = ((a, b) == (u, v))
    by_cases h : (a, b) = (u, v)
    · cases h; simp
    · have h' : ¬ (u = a ∧ v = b) := fun q => h (by rw [q.1, q.2])
      rw [beq_eq_false_iff_ne.mpr h]
      by_cases h1 : u = a
      · have h2 : ¬ v = b := fun q => h' ⟨h1, q⟩
        simp [h2]
      · simp [h1]
theorem comp_plain {m : Nat} {P : Reg} {Q : List PV → Reg → Prop} {x : Nat} {ρ : Vw} {codes : List Int} (hx : ∀ (v : PV), lk (ρ.set x (some v)) x = some v) (h : Q (intsP (codes.map plainI)) P) :
    Gv (compLoop (compElt (LV (m + 25)) (.call 10 [.var x]) Option.none (.one x) ρ) (intsP codes) P) Q := by
  refine comp_map (gx := fun v => match v with | .int c => [.int (plainI c)] | _ => []) (fun v hv => ?_) ?_
  · (refine el11 (List.mem_map.mp hv) ?_; intro c _ zq0; subst zq0)
    refine elt_eq (wp_ok srtF tab _) (mk11 _ rfl ?_)
    show (WP (m + 25)).ev (.call 10 [.var x]) _ P fun v P₂ => [v] = _ ∧ P₂ = P
    refine r_call (rs_cons (r_var (hx _) ?_))
    k_units
    refine r_fn (fn_pn _ _ c) ?_
    exact ⟨rfl, rfl⟩
  · have : (intsP codes).flatMap (fun v => match v with | .int c => [.int (plainI c)] | _ => []) = intsP (codes.map plainI) := by
      clear h
      unfold intsP
      induction codes with
      | nil => rfl
      | cons c r ih => rw [List.map_cons, List.flatMap_cons, ih]; rfl
    rw [this]
    exact h
noncomputable def nlN (rows : List Rw) (now : List Int) : Int := match rows.find? fun r => lmB r.ins now (-1) with
  | some r => outv r.out 3
  | none => 3
theorem fn_nl (m : Nat) (P : Reg) {outp : PV} {inps : List PV} {seq : Bool} {rows : List Rw} {codes : List Int} (hr : ∀ r ∈ rows, RwOK codes.length r) (hc : codes.length < 100) :
    (LV (m + 100)).fn 12 [primP outp inps seq (rows.map Rw.P), .list (intsP codes)] P = some (.int (nlN rows (codes.map plainI)), P) := by
  unfold primP
  refine fn_go (d := f_next_level) rfl rfl ?_
  dsimp only [f_next_level, b_next_level, List.map_cons, List.map_nil, List.replicate, List.cons_append, List.nil_append, Nat.reduceSub]
  refine x_cons (x_asgF (r_comp1 ?_))
  k_units
  refine (mk11 _ rfl ?_)
  refine comp_plain (fun v => rfl) ?_
  refine ⟨small_of (by simp [intsP]; lia), ?_⟩
  refine x_cons (x_for ?_)
  k_units
  refine (mk11 _ rfl ?_)
  refine loop_ab (fun i σ => (∃ s3 s4 s5, σ = ⟨[.fz (.prim [.sym 15, .int 0, outp, .tup inps, .bool seq, .int 3, .tup (rows.map Rw.P)]), .fz (.list (intsP codes)), .fz (.list (intsP (codes.map plainI))), s3, s4, s5, .un], P⟩) ∧ (rows.take i).find? (fun r => lmB r.ins (codes.map plainI) (-1)) = none) ⟨(mk30 _ _ _ rfl), rfl⟩ (fun I hin i x σ hx hI => ?_) (fun σ hI => ?_)
  · (refine el01 hI ?_; try clear hI; intro zp0 hok; refine el30 zp0 ?_; clear zp0; intro s3 s4 s5 zq1; subst zq1)
    rw [List.getElem?_map] at hx
    (refine el11 (Option.map_eq_some_iff.mp hx) ?_; intro r hr' zq0; subst zq0)
    have ro := hr r (List.mem_of_getElem? hr')
    refine (mk11 _ rfl ?_)
    k_units
    refine r_fn (fn_lm _ _ ro.syms (by simp [ro.len]) (by simpa using hc)) ?_
    k_units
    refine mb (fun h => ?_) fun h => ?_
    · k_units
      refine r_fn (fn_oc _ _ 3 _ ro.out) ?_
      k_units
      have := find_take hok hr' h
      simp [nlN, this]
    · k_units
      exact hin _ _ ⟨(mk30 _ _ _ rfl), find_more hok hr' h⟩
  · (refine el01 hI ?_; try clear hI; intro zp0 hok; refine el30 zp0 ?_; clear zp0; intro s3 s4 s5 zq1; subst zq1)
    k_units
    rw [List.length_map, List.take_length] at hok
    simp [nlN, hok]
end Mine
end
section
open PySem PySem.W PyProof.Rows
set_option Elab.async false
set_option maxRecDepth 100000
namespace Mine
noncomputable def p1 (now : List Int) (state : Int) (r : Rw) : Bool := lmB r.ins now (-1) && (lvl r.st).contains state
noncomputable def p2 (now : List Int) (state : Int) (ch : Nat) (before : Int) (r : Rw) : Bool := isAt r.ins ch && (lvl r.st).contains state && (lmB r.ins now ch && (prs (r.ins.getD ch .none)).contains (before, now.getD ch 0))
noncomputable def ssN (rows : List Rw) (state : Int) (now : List Int) (ch : Nat) (before : Int) : Int := match rows.find? (p1 now state) with
  | some r => outv r.out state
  | none => match rows.find? (p2 now state ch before) with
    | some r => outv r.out state
    | none => 3
theorem fn_ss (m : Nat) (P : Reg) {outp : PV} {inps : List PV} {seq : Bool} {rows : List Rw} {now : List Int} {state before : Int} {ch : Nat} (hr : ∀ r ∈ rows, RwOK now.length r) (hs : ∀ r ∈ rows, r.st ∈ levs) (hc : now.length < 100) (hch : ch < now.length) :
    (LV (m + 100)).fn 14 [primP outp inps seq (rows.map Rw.P), .int state, .list (intsP now), .int ch, .int before] P = some (.int (ssN rows state now ch before), P) := by
  unfold primP
  refine fn_go (d := f_step_state) rfl rfl ?_
  dsimp only [f_step_state, b_step_state, List.map_cons, List.map_nil, List.replicate, List.cons_append, List.nil_append, Nat.reduceSub]
  refine x_cons (x_for ?_)
  k_units
  refine (mk11 _ rfl ?_)
  refine loop_ab (fun i σ => (∃ s3 s4 s5, σ = ⟨[.fz (.prim [.sym 15, .int 0, outp, .tup inps, .bool seq, .int 3, .tup (rows.map Rw.P)]), .fz (.int state), .fz (.list (intsP now)), .fz (.int ch), .fz (.int before), s3, s4, s5], P⟩) ∧ (rows.take i).find? (p1 now state) = none) ⟨(mk30 _ _ _ rfl), rfl⟩ (fun I hin i x σ hx hI => ?_) (fun σ hI => ?_)
  · (refine el01 hI ?_; try clear hI; intro zp0 hok; refine el30 zp0 ?_; clear zp0; intro s3 s4 s5 zq1; subst zq1)
    rw [List.getElem?_map] at hx
    (refine el11 (Option.map_eq_some_iff.mp hx) ?_; intro r hr' zq0; subst zq0)
    have hm := List.mem_of_getElem? hr'
    have ro := hr r hm
    refine (mk11 _ rfl ?_)
    k_units
    refine r_fn (fn_lm _ _ ro.syms (by simp [ro.len]) hc) ?_
    k_units
    refine mb' (fun h => ?_) fun h => ?_
    · k_units
      exact hin _ _ ⟨(mk30 _ _ _ rfl), find_more hok hr' (by simp [p1, h])⟩
    · k_units
      refine r_fn (fn_lc _ _ _ (levs_syms (hs r hm))) ?_
      refine exb in_ints ?_
      k_units
      refine mb (fun h2 => ?_) fun h2 => ?_
      · k_units
        refine r_fn (fn_oc _ _ state _ ro.out) ?_
        k_units
        have := find_take hok hr' (by rw [p1, h, h2]; rfl)
        simp [ssN, this]
      · k_units
        exact hin _ _ ⟨(mk30 _ _ _ rfl), find_more hok hr' (by rw [p1, h, h2]; rfl)⟩
  · (refine el01 hI ?_; try clear hI; intro zp0 hok1; refine el30 zp0 ?_; clear zp0; intro s3 s4 s5 zq1; subst zq1)
    rw [List.length_map, List.take_length] at hok1
    refine x_cons (x_for ?_)
    k_units
    refine (mk11 _ rfl ?_)
    refine loop_ab (fun i σ => (∃ s3 s4 s5, σ = ⟨[.fz (.prim [.sym 15, .int 0, outp, .tup inps, .bool seq, .int 3, .tup (rows.map Rw.P)]), .fz (.int state), .fz (.list (intsP now)), .fz (.int ch), .fz (.int before), s3, s4, s5], P⟩) ∧ (rows.take i).find? (p2 now state ch before) = none) ⟨(mk30 _ _ _ rfl), rfl⟩ (fun I hin i x σ hx hI => ?_) (fun σ hI => ?_)
    · (refine el01 hI ?_; try clear hI; intro zp0 hok; refine el30 zp0 ?_; clear zp0; intro s3 s4 s5 zq1; subst zq1)
      rw [List.getElem?_map] at hx
      (refine el11 (Option.map_eq_some_iff.mp hx) ?_; intro r hr' zq0; subst zq0)
      have hm := List.mem_of_getElem? hr'
      have ro := hr r hm
      (refine el11 (get_lt (l := r.ins) (i := ch) (by rw [ro.len]; exact hch)) ?_; intro s hs' hsm)
      (refine el11 (get_lt (l := now) (i := ch) hch) ?_; intro c hc' hcm)
      have hsy := ro.syms s hsm
      have hat : isAt r.ins ch = isE s := by simp [isAt, hs']
      have hgd : r.ins.getD ch .none = s := by rw [List.getD_eq_getElem?_getD, hs']; rfl
      have hgn : now.getD ch 0 = c := by rw [List.getD_eq_getElem?_getD, hc']; rfl
      refine (mk11 _ rfl ?_)
      k_units
      refine (mk11 _ (sub_tup (by rw [ro.len]; lia) hs') ?_)
      k_units
      refine r_fn (fn_ie _ _ s hsy) ?_
      k_units
      refine mb (fun h => ?_) fun h => ?_
      · k_units
        exact hin _ _ ⟨(mk30 _ _ _ rfl), find_more hok hr' (by simp only [Bool.not_eq_true'] at h; simp [p2, hat, h])⟩
      · k_units
        simp only [Bool.not_eq_false'] at h
        refine r_fn (fn_lc _ _ _ (levs_syms (hs r hm))) ?_
        refine exb notin_ints ?_
        k_units
        refine mb (fun h2 => ?_) fun h2 => ?_
        · k_units
          exact hin _ _ ⟨(mk30 _ _ _ rfl), find_more hok hr' (by simp only [Bool.not_eq_true'] at h2; rw [p2, h2]; simp)⟩
        · simp only [Bool.not_eq_false'] at h2
          k_units
          refine r_fn (fn_lm _ _ ro.syms (by simp [ro.len]) hc) ?_
          k_units
          refine mb' (fun h3 => ?_) fun h3 => ?_
          · k_units
            exact hin _ _ ⟨(mk30 _ _ _ rfl), find_more hok hr' (by rw [p2, h3]; simp)⟩
          · k_units
            refine (mk11 _ (sub_list (by simp [intsP]; lia) (intsP_get hc')) ?_)
            k_units
            refine (mk11 _ (sub_tup (by rw [ro.len]; lia) hs') ?_)
            k_units
            refine r_fn (fn_ep _ _ s hsy) ?_
            refine exb in_prs ?_
            k_units
            refine mb (fun h4 => ?_) fun h4 => ?_
            · k_units
              refine r_fn (fn_oc _ _ state _ ro.out) ?_
              k_units
              have := find_take hok hr' (by rw [p2, hat, h, h2, h3, hgd, hgn, h4]; rfl)
              simp [ssN, hok1, this]
            · k_units
              exact hin _ _ ⟨(mk30 _ _ _ rfl), find_more hok hr' (by rw [p2, hat, h, h2, h3, hgd, hgn, h4]; rfl)⟩
    · (refine el01 hI ?_; try clear hI; intro zp0 hok; refine el30 zp0 ?_; clear zp0; intro s3 s4 s5 zq1; subst zq1)
      k_units
      rw [List.length_map, List.take_length] at hok
      simp [ssN, hok1, hok]
noncomputable def nsGo (rows : List Rw) (new : List Int) : List Nat → Int × List Int → Int × List Int
  | [], s => s
  | i :: is, (state, now) =>
    let now' := now.set i (plainI (new.getD i 0))
    nsGo rows new is (if now'.getD i 0 = now.getD i 0 then state else ssN rows state now' i (now.getD i 0), now')
theorem nsGo_cons {rows : List Rw} {new : List Int} {i : Nat} {is : List Nat} {state : Int} {now : List Int} : nsGo rows new (i :: is) (state, now) = nsGo rows new is (if (now.set i (plainI (new.getD i 0))).getD i 0 = now.getD i 0 then state else ssN rows state (now.set i (plainI (new.getD i 0))) i (now.getD i 0), now.set i (plainI (new.getD i 0))) := rfl
noncomputable def nsN (rows : List Rw) (state : Int) (old new : List Int) : Int := (nsGo rows new (List.range new.length) (plainI state, old.map plainI)).1
end Mine
end
section
open PySem PySem.W PyProof.Rows
set_option Elab.async false
set_option maxRecDepth 100000
namespace Mine
theorem set_ints {l : List Int} {i : Nat} {c : Int} : (intsP l).set ((i : Int).toNat) (.int c) = intsP (l.set i c) := by
  unfold intsP
  rw [List.map_set]; rfl
theorem drop_range {n i : Nat} (h : i < n) : (List.range n).drop i = i :: (List.range n).drop (i + 1) := by
  rw [List.drop_eq_getElem_cons (by simpa using h)]
  simp
theorem fn_ns (m : Nat) (P : Reg) {outp : PV} {inps : List PV} {seq : Bool} {rows : List Rw} {old new : List Int} {state : Int} (hr : ∀ r ∈ rows, RwOK old.length r) (hs : ∀ r ∈ rows, r.st ∈ levs) (hc : old.length < 100) (hn : new.length = old.length) :
    (LV (m + 140)).fn 13 [primP outp inps seq (rows.map Rw.P), .int state, .list (intsP old), .list (intsP new)] P = some (.int (nsN rows state old new), P) := by
  have e14 := fun (k : Nat) (now : List Int) (st : Int) (ch : Nat) (b : Int) (h1 : now.length = old.length) (h2 : ch < now.length) => fn_ss k P (outp := outp) (inps := inps) (seq := seq) (rows := rows) (now := now) (state := st) (before := b) (ch := ch) (by rw [h1]; exact hr) hs (by lia) h2
  unfold primP at e14 ⊢
  refine fn_go (d := f_next_state) rfl rfl ?_
  dsimp only [f_next_state, b_next_state, List.map_cons, List.map_nil, List.replicate, List.cons_append, List.nil_append, Nat.reduceSub]
  refine x_cons (x_own rfl (r_comp1 ?_))
  k_units
  refine (mk11 _ rfl ?_)
  refine comp_plain (fun v => rfl) ?_
  refine ⟨small_of (by simp [intsP]; lia), ?_⟩
  refine ⟨by
    have : ∀ l : List Int, flatL (intsP l) = true := fun l => by
      induction l with
      | nil => rfl
      | cons c r ih => show (true && flatL (intsP r)) = true; rw [ih]; rfl
    exact this _, ?_⟩
  k_units
  refine r_fn (fn_pn _ _ state) ?_
  refine ⟨rfl, ?_⟩
  refine x_cons (x_for ?_)
  k_units
  refine (mk11 _ (len_list (by simp [intsP]; lia)) (mk11 _ (range_it (by simp [intsP]; lia)) ?_))
  have hlen : (intsP new).length = new.length := by simp [intsP]
  rw [hlen]
  refine loop_ab (fun i σ => ∃ st now s5 s6, σ = ⟨[.fz (.prim [.sym 15, .int 0, outp, .tup inps, .bool seq, .int 3, .tup (rows.map Rw.P)]), .fz (.int st), .fz (.list (intsP old)), .fz (.list (intsP new)), .ow (.list (intsP now)), s5, s6, .un], P⟩ ∧ now.length = old.length ∧
    nsGo rows new ((List.range new.length).drop i) (st, now) = nsGo rows new (List.range new.length) (plainI state, old.map plainI)) (mk42 _ _ _ _ rfl (by simp) rfl) (fun I hin i x σ hx hI => ?_) (fun σ hI => ?_)
  · (refine el01 (range_at hx) ?_; intro hi' zq0; subst zq0)
    (refine el42 hI ?_; try clear hI; intro st now s5 s6 zq0 hnl hgo; subst zq0)
    (refine el11 (get_lt (l := now) (i := i) (by lia)) ?_; intro c hc' hcm)
    (refine el11 (get_lt (l := new) (i := i) hi') ?_; intro d hd' hdm)
    have hgc : now.getD i 0 = c := by rw [List.getD_eq_getElem?_getD, hc']; rfl
    have hgd : new.getD i 0 = d := by rw [List.getD_eq_getElem?_getD, hd']; rfl
    rw [drop_range hi'] at hgo
    rw [nsGo_cons, hgc, hgd] at hgo
    have hset : (now.set i (plainI d))[i]? = some (plainI d) := by rw [List.getElem?_set]; simp; lia
    have hgs : (now.set i (plainI d)).getD i 0 = plainI d := by rw [List.getD_eq_getElem?_getD, hset]; rfl
    rw [hgs] at hgo
    refine (mk11 _ rfl ?_)
    k_units
    refine (mk11 _ (sub_list (by simp [intsP]; lia) (intsP_get hc')) ?_)
    refine ⟨rfl, ?_⟩
    refine x_cons (x_set ?_)
    k_units
    refine (mk11 _ (sub_list (by simp [intsP]; lia) (intsP_get hd')) ?_)
    k_units
    refine r_fn (fn_pn _ _ d) ?_
    refine ⟨rfl, ?_⟩
    k_units
    refine .inl (mk23 (intsP now) i rfl rfl ⟨Int.natCast_nonneg i, by simp [intsP]; lia, small_of (by simp [intsP]; lia)⟩ ?_)
    rw [set_ints]
    k_units
    refine (mk11 _ (sub_list (by simp [intsP]; lia) (intsP_get hset)) ?_)
    k_units
    refine mb (fun h => ?_) fun h => ?_
    · k_units
      refine r_fn (e14 _ (now.set i (plainI d)) st i c (by simpa using hnl) (by simp; lia)) ?_
      refine ⟨rfl, ?_⟩
      k_units
      have h' : ¬ plainI d = c := by
        have : (!decide (plainI d = c)) = true := h
        simpa using this
      rw [if_neg h'] at hgo
      exact hin _ _ (mk42 _ _ _ _ rfl (by simpa using hnl) hgo)
    · k_units
      have h' : plainI d = c := by
        have : (!decide (plainI d = c)) = false := h
        simpa using this
      rw [if_pos h'] at hgo
      exact hin _ _ (mk42 _ _ _ _ rfl (by simpa using hnl) hgo)
  · (refine el42 hI ?_; try clear hI; intro st now s5 s6 zq0 hnl hgo; subst zq0)
    k_units
    rw [range_len] at hgo
    have : (List.range new.length).drop new.length = [] := by simp
    rw [this] at hgo
    refine ⟨?_, rfl⟩
    rw [nsN, ← hgo]
    rfl
end Mine
end
section
open PySem PySem.W PyProof.Rows
set_option Elab.async false
set_option maxRecDepth 100000
namespace Mine
section
variable {n : Nat} {R : Fl → St → Prop} {σ : St}
theorem Gv.ct {α β : Type} {a b : Option (α × β)} {R : α → β → Prop} (h : Gv a R) : Gv (cond true a b) R := h
theorem Gv.cf {α β : Type} {a b : Option (α × β)} {R : α → β → Prop} (h : Gv b R) : Gv (cond false a b) R := h
theorem fl_nx {F : Fl → Prop} {fl : Fl} (e : fl = .nx) (h : F .nx) : F fl := e ▸ h
theorem find_at {t : Tgt} {c e : X} {k : Nat} {xs : List PV} (I : Nat → St → Prop) (h0 : I 0 σ) (hS : ∀ j x σ, xs[j]? = some x → I j σ → ∃ loc, bindS t x σ.loc = some loc ∧ (WP n).evT c (viewA loc) σ.reg fun b P => match b with
    | true => (WP n).ex (.app k e) ⟨loc, P⟩ fun fl σ₁ => fl = .nx ∧ R .nx σ₁
    | false => I (j + 1) ⟨loc, P⟩) (hN : ∀ σ, I xs.length σ → R .nx σ) : Gv (findOwn (LV n) t c k e xs σ) R := by
  have key : ∀ (ys : List PV) (i : Nat) (σ : St), ys = xs.drop i → i ≤ xs.length → I i σ → Gv (findOwn (LV n) t c k e ys σ) R := by
    intro ys
    induction ys with
    | nil =>
      intro i σ he hi h
      have : xs.length ≤ i := by
        have := congrArg List.length he
        rw [List.length_drop] at this
        simp at this; lia
      rw [Nat.le_antisymm hi this] at h
      exact (mk21 .nx σ rfl (hN σ h))
    | cons x ys ih =>
      intro i σ he hi h
      have hx : xs[i]? = some x := by
        rw [← List.head?_drop, ← he]; rfl
      have hl : i < xs.length := (List.getElem?_eq_some_iff.mp hx).1
      have he' : ys = xs.drop (i + 1) := by
        rw [← List.tail_drop, ← he]; rfl
      (refine el11 (hS i x σ hx h) ?_; intro loc e₁ h₁)
      exact Gv.bd e₁ (((wp_ok srtF tab n).evT h₁).then fun b P h₂ => match b, h₂ with
        | true, h₂ => Gv.ct (((wp_ok srtF tab n).ex h₂).then fun fl σ₁ h₃ => by refine fl_nx (F := fun fl => Gv (match (generalizing := false) fl with | .nx => _ | .br => _ | .ct => _ | .rt _ => _) R) h₃.1 (Gv.ret h₃.2))
        | false, h₂ => Gv.cf (ih (i + 1) ⟨loc, P⟩ he' hl h₂))
  exact key xs 0 σ rfl (Nat.zero_le _) h0
end
noncomputable def nmL : List PV := [.sym 12, .sym 13, .sym 3, .sym 14]
noncomputable def ftP (k : PV) (i : Int) : PV := .tup [k, .int i]
noncomputable def dupN : List PV → List PV → List PV
  | _, [] => []
  | pre, x :: xs => (if pre.any (fun y => y.eq x) = true then [ftP (.sym 16) (-1)] else []) ++ dupN (pre ++ [x]) xs
theorem find_ab {t : Tgt} {c e : X} {k : Nat} {xs : List PV} (B : Nat → St → Prop) (h0 : B 0 σ) (kk : ∀ I : Nat → St → Prop, (∀ i σ, B i σ → I i σ) → ∀ j x σ, xs[j]? = some x → B j σ → ∃ loc, bindS t x σ.loc = some loc ∧ (WP n).evT c (viewA loc) σ.reg fun b P => match b with
    | true => (WP n).ex (.app k e) ⟨loc, P⟩ fun fl σ₁ => fl = .nx ∧ R .nx σ₁
    | false => I (j + 1) ⟨loc, P⟩) (hN : ∀ σ, B xs.length σ → R .nx σ) : Gv (findOwn (LV n) t c k e xs σ) R := find_at B h0 (kk B fun _ _ h => h) hN
theorem rf_len {nin : Nat} {seq : Bool} {ins : List PV} {out : PV} : (rfN nin seq ins out).length ≤ 3 + ins.length := by
  unfold rfN
  have h1 := iff1_len (!decide ((ins.length : Int) = nin)) 19
  have h2 := iff1_len (decide ((ins.countP isE : Int) > 1)) 20
  have h3 := iff1_len (decide ((ins.countP isE : Int) > 0)) 21
  have h4 := iff1_len (out.eq (.sym 11)) 22
  have h5 := List.length_filter_le emp ins
  rw [List.length_append, List.length_append, List.length_map]
  split
  · lia
  · rw [List.length_append]; lia
theorem rf_flat {nin : Nat} {seq : Bool} {ins : List PV} {out : PV} : ∀ x ∈ rfN nin seq ins out, ∃ k, x = .sym k := by
  have h1 : ∀ b k, ∀ x ∈ iff1 b k, ∃ k, x = .sym k := by
    intro b k x hx
    cases b
    · cases hx
    · exact ⟨k, by simpa [iff1] using hx⟩
  intro x hx
  unfold rfN at hx
  rcases List.mem_append.mp hx with hx | hx
  · rcases List.mem_append.mp hx with hx | hx
    · exact h1 _ _ x hx
    · split at hx
      · exact h1 _ _ x hx
      · rcases List.mem_append.mp hx with hx | hx <;> exact h1 _ _ x hx
  · (refine el11 (List.mem_map.mp hx) ?_; intro _ _ zq0; subst zq0)
    exact ⟨23, rfl⟩
theorem rf_nil {nin : Nat} {seq : Bool} {ins : List PV} {out : PV} (h : rfN nin seq ins out = []) : ins.length = nin := by
  unfold rfN at h
  simp only [List.append_eq_nil_iff] at h
  have := h.1.1
  unfold iff1 at this
  by_cases q : (ins.length : Int) = nin
  · lia
  · simp [q] at this
noncomputable def rcR (rows : List Rw) (i j : Nat) : Bool := match rows[i]?, rows[j]? with
  | some u, some v => rcN u.ins u.st u.out v.ins v.st v.out
  | _, _ => false
noncomputable def cpStep (nin : Nat) (seq : Bool) (rows : List Rw) (s : List PV × List Nat) (i : Nat) : List PV × List Nat := match rows[i]? with
  | some r => if (rfN nin seq r.ins r.out).isEmpty = true then (s.1 ++ (if (s.2.any fun e => rcR rows e i) = true then [ftP (.sym 18) i] else []), s.2 ++ [i]) else (s.1 ++ (rfN nin seq r.ins r.out).map fun x => ftP x i, s.2)
  | none => s
noncomputable def cp0 (outp : PV) (inps : List PV) (rows : List Rw) : List PV := dupN [outp] inps ++ (if rows.isEmpty = true then [ftP (.sym 17) (-1)] else [])
noncomputable def cpN (outp : PV) (inps : List PV) (seq : Bool) (rows : List Rw) : List PV := ((List.range rows.length).foldl (cpStep inps.length seq rows) (cp0 outp inps rows, [])).1
theorem safe_nm : ∀ {l : List PV}, (∀ x ∈ l, x ∈ nmL) → safeL l 4 = true
  | [], _ => rfl
  | x :: l, h => by
    have h1 : ∀ x ∈ nmL, x.safe 4 = true := by decide
    show (x.safe 4 && safeL l 4) = true
    rw [h1 x (h x (.head _)), safe_nm fun y hy => h y (.tail _ hy)]; rfl
theorem flat_nm : ∀ x ∈ nmL, x.flat = true := by decide
theorem in_nm {x : PV} {l : List PV} (hx : x ∈ nmL) (h : ∀ x ∈ l, x ∈ nmL) : opCmp 4 x (.list l) = some (l.any fun y => y.eq x) := by
  have h1 : ∀ x ∈ nmL, x.safe 4 = true := by decide
  show (if (x.safe 4 && safeL l 4) = true then some (l.any fun y => y.eq x) else none) = _
  have e : (x.safe 4 && safeL l 4) = true := by rw [h1 x hx, safe_nm h]; rfl
  rw [if_pos e]
theorem dup_len : ∀ {pre l : List PV}, (dupN pre l).length ≤ l.length
  | _, [] => Nat.le_refl _
  | pre, x :: l => by
    show ((if pre.any (fun y => y.eq x) = true then [ftP (.sym 16) (-1)] else []) ++ dupN (pre ++ [x]) l).length ≤ l.length + 1
    rw [List.length_append, Nat.add_comm]
    refine Nat.add_le_add dup_len ?_
    split <;> first | exact Nat.le_refl _ | exact Nat.zero_le _
end Mine
end
section
open PySem PySem.W PyProof.Rows
set_option Elab.async false
set_option maxRecDepth 100000
set_option maxHeartbeats 1000000
namespace Mine
noncomputable def idx (l : List Nat) : List PV := l.map fun (i : Nat) => PV.int (i : Int)
theorem flat_idx (l : List Nat) : flatL (idx l) = true := by
  induction l with
  | nil => rfl
  | cons a l ih => show (true && flatL (idx l)) = true; rw [ih]; rfl
structure RwG (r : Rw) : Prop where
  syms : ∀ s ∈ r.ins, s ∈ syms
  len : r.ins.length < 10
  st : stN2 r.st
  out : r.out ∈ outs
theorem range_foldl {β : Type} {f : β → Nat → β} {b : β} {i : Nat} : (List.range (i + 1)).foldl f b = f ((List.range i).foldl f b) i := by
  rw [List.range_succ, List.foldl_append]; rfl
theorem fn_cp (m : Nat) (P : Reg) {outp : PV} {inps : List PV} {seq : Bool} {rows : List Rw} (hr : ∀ r ∈ rows, RwG r) (ho : outp ∈ nmL) (hi : ∀ x ∈ inps, x ∈ nmL) (hn : inps.length < 10) (hz : rows.length < 10) :
    (LV (m + 200)).fn 5 [primP outp inps seq (rows.map Rw.P)] P = some (.list (cpN outp inps seq rows), P) := by
  have e6 := fun (k : Nat) (r : Rw) (h : RwG r) => fn_rf k P (outp := outp) (inps := inps) (rows := rows.map Rw.P) (seq := seq) (ins := r.ins) (st := r.st) (out := r.out) h.syms (Nat.lt_trans h.len (by decide)) (by lia) h.out
  unfold primP at e6 ⊢
  refine fn_go (d := f_check_primitive) rfl rfl ?_
  dsimp only [f_check_primitive, b_check_primitive, List.map_cons, List.map_nil, List.replicate, List.cons_append, List.nil_append, Nat.reduceSub]
  refine x_cons (x_own rfl (r_list (by decide) ?_))
  k_units
  refine ⟨rfl, ?_⟩
  refine x_cons (x_own rfl (r_list (by decide) ?_))
  k_units
  refine ⟨by show (outp.flat && true) = true; rw [flat_nm outp ho]; rfl, ?_⟩
  refine x_cons (x_for ?_)
  k_units
  refine (mk11 _ rfl ?_)
  refine loop_ab (fun i σ => ∃ f s3, σ = ⟨[.fz (.prim [.sym 15, .int 0, outp, .tup inps, .bool seq, .int 3, .tup (rows.map Rw.P)]), .ow (.list f), .ow (.list (outp :: inps.take i)), s3, .un, .un, .un, .un, .un], P⟩ ∧ f ++ dupN (outp :: inps.take i) (inps.drop i) = dupN [outp] inps ∧ f.length ≤ i) (mk22 _ _ rfl rfl (Nat.le_refl _)) (fun I hin i x σ hx hI => ?_) (fun σ hI => ?_)
  · (refine el22 hI ?_; try clear hI; intro f s3 zq0 hd hfl; subst zq0)
    have hil : i < inps.length := (List.getElem?_eq_some_iff.mp hx).1
    have hxm := hi x (List.mem_of_getElem? hx)
    have ht : inps.take (i + 1) = inps.take i ++ [x] := by rw [List.take_add_one, hx]; rfl
    have hdr : inps.drop i = x :: inps.drop (i + 1) := by rw [List.drop_eq_getElem_cons hil, (List.getElem?_eq_some_iff.mp hx).2]
    rw [hdr, dupN] at hd
    refine (mk11 _ rfl ?_)
    refine x_cons (x_iteApp (v := ftP (.sym 16) (-1)) rfl rfl (small_of (by lia)) (fun P Q h => r_tup (by decide) (rs_cons (r_sym (by decide) (rs_cons (r_neg1 (rs_nil h)))))) rfl ?_)
    k_units
    refine exb (in_nm hxm (l := outp :: inps.take i) ?_) ?_
    · intro y hy
      rcases List.mem_cons.mp hy with rfl | hy
      · exact ho
      · exact hi y (List.mem_of_mem_take hy)
    (repeat k_types)
    refine x_cons (x_app rfl ?_)
    k_units
    refine ⟨by
      rw [flat_nm x hxm, small_of (by rw [List.length_cons, List.length_take]; lia)]; rfl, ?_⟩
    k_units
    refine hin _ _ (mk22 _ _ (by rw [ht]; rfl) ?_ ?_)
    · rw [ht, ← hd, List.append_assoc]
      rfl
    · rw [List.length_append]
      split
      · simp only [List.length_cons, List.length_nil]; lia
      · simp only [List.length_nil]; lia
  · (refine el22 hI ?_; try clear hI; intro f s3 zq0 hd hfl; subst zq0)
    rw [List.drop_length, dupN, List.append_nil] at hd
    subst hd
    have hrl : (rows.map Rw.P).length = rows.length := List.length_map ..
    refine x_cons (x_iteApp (v := ftP (.sym 17) (-1)) rfl rfl (small_of (by lia)) (fun P Q h => r_tup (by decide) (rs_cons (r_sym (by decide) (rs_cons (r_neg1 (rs_nil h)))))) rfl ?_)
    k_units
    refine (mk11 _ (len_tup (by rw [hrl]; lia)) ?_)
    (repeat k_types)
    rw [len_zero]
    refine x_cons (x_own rfl (r_list (by decide) ?_))
    k_units
    refine ⟨rfl, ?_⟩
    refine x_cons (x_for ?_)
    k_units
    refine (mk11 _ (len_tup (by rw [hrl]; lia)) (mk11 _ (range_it (by rw [hrl]; lia)) ?_))
    have hcp0 : (dupN [outp] inps ++ if (rows.map Rw.P).isEmpty = true then [ftP (.sym 17) (-1)] else []) = cp0 outp inps rows := by
      unfold cp0; cases rows <;> rfl
    have hc0 : (cp0 outp inps rows).length ≤ 20 := by
      unfold cp0
      rw [List.length_append]
      have : (if rows.isEmpty = true then [ftP (.sym 17) (-1)] else []).length ≤ 1 := by split <;> simp
      lia
    rw [hcp0, hrl]
    refine loop_ab (fun i σ => ∃ f sd s3 s6 s5 s7 s8, σ = ⟨[.fz (.prim [.sym 15, .int 0, outp, .tup inps, .bool seq, .int 3, .tup (rows.map Rw.P)]), .ow (.list f), .ow (.list (outp :: inps.take inps.length)), s3, .ow (.list (idx sd)), s5, s6, s7, s8], P⟩ ∧
      (f, sd) = (List.range i).foldl (cpStep inps.length seq rows) (cp0 outp inps rows, []) ∧ f.length ≤ 20 + 20 * i ∧ sd.length ≤ i ∧ (∀ e ∈ sd, ∃ r, rows[e]? = some r ∧ r.ins.length = inps.length)) (mk40 _ ([]) _ _ (mk34 _ _ _ rfl rfl (by lia) (Nat.le_refl _) (fun e he => (nomatch he)))) (fun I hin i x σ hx hI => ?_) (fun σ hI => ?_)
    · (refine el01 (range_at hx) ?_; intro hi' zq0; subst zq0)
      (refine el40 hI ?_; try clear hI; intro f sd s3 s6 zr1; refine el34 zr1 ?_; clear zr1; intro s5 s7 s8 zq0 hf hfl hsl hsd; subst zq0)
      (refine el11 (get_lt (l := rows) hi') ?_; intro r hr' hrm)
      have hrP : (rows.map Rw.P)[i]? = some r.P := by rw [List.getElem?_map, hr']; rfl
      have ro := hr r hrm
      have hstep := range_foldl (f := cpStep inps.length seq rows) (b := (cp0 outp inps rows, [])) (i := i)
      rw [← hf] at hstep
      unfold cpStep at hstep
      rw [hr'] at hstep
      simp only at hstep
      have hkl := rf_len (nin := inps.length) (seq := seq) (ins := r.ins) (out := r.out)
      have hrl10 := ro.len
      refine (mk11 _ rfl ?_)
      k_units
      refine (mk11 _ (sub_tup (by rw [hrl]; lia) hrP) ?_)
      k_units
      refine r_fn (e6 _ r ro) ?_
      refine x_cons (x_for ?_)
      k_units
      refine (mk11 _ rfl ?_)
      refine loop_ab (fun j σ => ∃ s7, σ = ⟨[.fz (.prim [.sym 15, .int 0, outp, .tup inps, .bool seq, .int 3, .tup (rows.map Rw.P)]), .ow (.list (f ++ ((rfN inps.length seq r.ins r.out).take j).map fun x => ftP x i)), .ow (.list (outp :: inps.take inps.length)), s3, .ow (.list (idx sd)), .fz (.int i), .fz (.list (rfN inps.length seq r.ins r.out)), s7, s8], P⟩) ⟨_, by rw [List.take_zero, List.map_nil, List.append_nil]; rfl⟩ (fun I' hin' j x σ hx hI => ?_) (fun σ hI => ?_)
      · (refine el10 hI ?_; try clear hI; intro s7 zq0; subst zq0)
        (refine el10 (rf_flat x (List.mem_of_getElem? hx)) ?_; intro k zq0; subst zq0)
        refine (mk11 _ rfl ?_)
        refine x_cons (x_app rfl ?_)
        k_units
        refine ⟨by
          have : small (f ++ ((rfN inps.length seq r.ins r.out).take j).map fun x => ftP x i) = true := small_of (by
            rw [List.length_append, List.length_map, List.length_take]; lia)
          rw [this]; rfl, ?_⟩
        k_units
        exact hin' _ _ ⟨_, by rw [List.take_add_one, hx, List.map_append, ← List.append_assoc]; rfl⟩
      · (refine el10 hI ?_; try clear hI; intro s7 zq0; subst zq0)
        rw [List.take_length]
        k_units
        refine (mk11 _ (len_list (by lia)) ?_)
        k_units
        have hke : ∀ b : Bool, decide (((rfN inps.length seq r.ins r.out).length : Int) > 0) = b → (rfN inps.length seq r.ins r.out).isEmpty = !b := by
          rintro b rfl
          cases rfN inps.length seq r.ins r.out with
          | nil => rfl
          | cons a l => show false = !decide (((l.length + 1 : Nat) : Int) > 0); rw [decide_eq_true (by lia)]; rfl
        refine mb (fun h => ?_) fun h => ?_
        · have h2 := hke true h
          rw [h2] at hstep
          k_units
          refine hin _ _ (mk40 _ _ _ _ (mk34 _ _ _ rfl hstep.symm ?_ (by lia) hsd))
          rw [List.length_append, List.length_map]; lia
        · have h2 := hke false h
          rw [h2] at hstep
          have hnil : rfN inps.length seq r.ins r.out = [] := List.isEmpty_iff.mp h2
          have hrin := rf_nil hnil
          refine x_nil ?_
          rw [hnil] at hstep ⊢
          simp only [List.map_nil, List.append_nil, Bool.not_false, if_true] at hstep ⊢
          have hsd' : ∀ e ∈ sd ++ [i], ∃ r, rows[e]? = some r ∧ r.ins.length = inps.length := fun e he => by
            rcases List.mem_append.mp he with he | he
            · exact hsd e he
            · rw [List.mem_singleton] at he
              subst he
              exact (mk11 r hr' hrin)
          -- what is left of the turn
          have rest : ∀ {f' : List PV} {s8 : Slot} {L₀ : List PV}, f' = f ++ (if (sd.any fun e => rcR rows e i) = true then [ftP (.sym 18) i] else []) →
              ∃ fA sdA s3A s6A s5A s7A s8A, (⟨[.fz (.prim [.sym 15, .int 0, outp, .tup inps, .bool seq, .int 3, .tup (rows.map Rw.P)]), .ow (.list f'), .ow (.list (outp :: inps.take inps.length)), s3, .ow (.list (idx sd ++ [.int i])), .fz (.int i), .fz (.list L₀), s7, s8], P⟩ : St) = ⟨[.fz (.prim [.sym 15, .int 0, outp, .tup inps, .bool seq, .int 3, .tup (rows.map Rw.P)]), .ow (.list fA), .ow (.list (outp :: inps.take inps.length)), s3A, .ow (.list (idx sdA)), s5A, s6A, s7A, s8A], P⟩ ∧
              (fA, sdA) = (List.range (i + 1)).foldl (cpStep inps.length seq rows) (cp0 outp inps rows, []) ∧ fA.length ≤ 20 + 20 * (i + 1) ∧ sdA.length ≤ i + 1 ∧ (∀ e ∈ sdA, ∃ r, rows[e]? = some r ∧ r.ins.length = inps.length) := by
            rintro f' s8 L₀ rfl
            refine (mk40 _ (sd ++ [i]) s3 _ (mk34 _ s7 s8 (by rw [show idx (sd ++ [i]) = idx sd ++ [.int i] from List.map_append]) hstep.symm ?_ (by simpa using hsl) hsd'))
            rw [List.length_append]
            have : (if (sd.any fun e => rcR rows e i) = true then [ftP (.sym 18) (i : Int)] else []).length ≤ 1 := by split <;> simp
            lia
          have hsm4 : small (idx sd) = true := small_of (by simp [idx]; lia)
          refine x_cons (x_own2 rfl (by rw [flat_idx]; rfl) ?_)
          refine find_ab (fun j σ => (∃ s8, σ = ⟨[.fz (.prim [.sym 15, .int 0, outp, .tup inps, .bool seq, .int 3, .tup (rows.map Rw.P)]), .ow (.list f), .ow (.list (outp :: inps.take inps.length)), s3, .ow (.list (idx sd)), .fz (.int i), .fz (.list []), s7, s8], P⟩) ∧ (sd.take j).any (fun e => rcR rows e i) = false) ⟨⟨_, rfl⟩, rfl⟩ (fun I' hin' j x σ hx hI => ?_) (fun σ hI => ?_)
          · (refine el01 hI ?_; try clear hI; intro zp0 hno; refine el10 zp0 ?_; clear zp0; intro s8 zq1; subst zq1)
            unfold idx at hx
            rw [List.getElem?_map] at hx
            (refine el11 (Option.map_eq_some_iff.mp hx) ?_; intro e he zq0; subst zq0)
            have hem := List.mem_of_getElem? he
            (refine el11 (hsd e hem) ?_; intro u hu hul)
            have ruo := hr u (List.mem_of_getElem? hu)
            have huP : (rows.map Rw.P)[e]? = some u.P := by rw [List.getElem?_map, hu]; rfl
            have hrcR : rcR rows e i = rcN u.ins u.st u.out r.ins r.st r.out := by unfold rcR; rw [hu, hr']
            refine (mk11 _ rfl ?_)
            k_units
            refine (mk11 _ (sub_tup (by rw [hrl]; lia) huP) ?_)
            k_units
            refine (mk11 _ (sub_tup (by rw [hrl]; lia) hrP) ?_)
            k_units
            refine r_fn (fn_rc _ P ruo.syms ro.syms (by rw [hul, hrin]) (by lia) ruo.st ro.st ruo.out ro.out) ?_
            k_units
            rw [← hrcR]
            refine mb (fun h3 => ?_) fun h3 => ?_
            · refine x_app rfl ?_
              k_units
              refine ⟨by rw [small_of (l := f) (by lia)]; rfl, rfl, ?_⟩
              refine x_cons (x_app rfl ?_)
              k_units
              refine ⟨by rw [hsm4]; rfl, ?_⟩
              k_units
              exact hin _ _ (rest (by rw [List.any_eq_true.mpr (mk11 e hem h3)]; rfl))
            · refine hin' _ _ ⟨⟨_, rfl⟩, ?_⟩
              rw [List.take_add_one, he, List.any_append, hno]
              simp [h3]
          · (refine el01 hI ?_; try clear hI; intro zp0 hno; refine el10 zp0 ?_; clear zp0; intro s8 zq1; subst zq1)
            rw [show (idx sd).length = sd.length from List.length_map .., List.take_length] at hno
            refine x_cons (x_app rfl ?_)
            k_units
            refine ⟨by rw [hsm4]; rfl, ?_⟩
            k_units
            exact hin _ _ (rest (by rw [hno]; simp))
    · (refine el40 hI ?_; try clear hI; intro f sd s3 s6 zr1; refine el34 zr1 ?_; clear zr1; intro s5 s7 s8 zq0 hf hfl hsl hsd; subst zq0)
      k_units
      rw [range_len] at hf
      refine ⟨?_, rfl⟩
      rw [cpN, ← hf]
end Mine
end
section
open PySem PySem.W PyProof.Rows
set_option Elab.async false
set_option maxRecDepth 100000
namespace Mine
structure PoolOK (l : List PV) : Prop where
  is : ∃ (figs : List Int) (c : Nat) (mix : Int), l = [.list (intsP figs), .int c, .int mix] ∧ figs.length < 60000 ∧ 0 ≤ mix ∧ mix < 1009
noncomputable def Pick (b : Int) (p : PV) (P : Reg) : Prop := ∃ v l', p = .int v ∧ P = some l' ∧ PoolOK l' ∧ 0 ≤ v ∧ v < b
theorem mod_ok {a b : Int} (hb : b ≠ 0) : opBin 3 (.int a) (.int b) = some (.int (a.fmod b)) := by
  show (if b = 0 then none else some (PV.int (a.fmod b))) = _
  rw [if_neg hb]
theorem mul_ok {a b : Int} (h : a.natAbs < 4096 ∧ b.natAbs < 4096) : opBin 2 (.int a) (.int b) = some (.int (a * b)) := by
  show (if a.natAbs < 4096 ∧ b.natAbs < 4096 then some (PV.int (a * b)) else none) = _
  rw [if_pos h]
theorem fn_pk (m : Nat) {l : List PV} {b : Int} (hb : 0 < b) (hl : PoolOK l) : Gv ((LV (m + 60)).fn 16 [.pool, .int b] (some l)) (Pick b) := by
  (refine el33 (hl.is) ?_; intro figs c mix zq0 hf h0 h1; subst zq0)
  have hfl : (intsP figs).length = figs.length := by simp [intsP]
  have fin : ∀ {v c' mix' : Int} {l' : List PV}, l' = [.list (intsP figs), .int c', .int mix'] → 0 ≤ c' → 0 ≤ mix' → mix' < 1009 → wSs (WP (m + 59)).ex [.ret (.bin 3 (.var 2) (.var 1))] ⟨[.fz .pool, .fz (.int b), .fz (.int v)], some l'⟩ fun fl σ => ∃ p, fl = .rt p ∧ Pick b p σ.reg := by
    rintro v c' mix' l' rfl hc h2 h3
    k_units
    refine exv (mod_ok (by lia)) ?_
    k_units
    refine (mk11 _ rfl (mk24 (v.fmod b) _ rfl rfl ⟨figs, c'.toNat, mix', by rw [Int.toNat_of_nonneg hc], hf, h2, h3⟩ (Int.fmod_nonneg_of_pos _ hb) (Int.fmod_lt_of_pos _ hb)))
  refine fn_wp (d := f_law_pick) rfl rfl ?_
  dsimp only [f_law_pick, b_law_pick, List.map_cons, List.map_nil, List.replicate, List.cons_append, List.nil_append, Nat.reduceSub]
  k_units
  refine exv (len_list (by lia)) ?_
  rw [hfl]
  k_units
  refine mb (fun h => ?_) fun h => ?_
  · have hlt : c < figs.length := by
      have : (c : Int) < figs.length := of_decide_eq_true h
      lia
    (refine el11 (get_lt hlt) ?_; intro x hx _)
    k_units
    refine exv (sub_list (by lia) (intsP_get hx)) ?_
    refine ⟨rfl, ?_⟩
    refine x_cons (x_pool (l := [.list (intsP figs), .int c, .int mix]) (a := c) rfl rfl rfl rfl ?_)
    refine x_nil ?_
    exact fin (c' := c + (1 : Nat)) rfl (by lia) h0 h1
  · k_units
    refine exv (len_list (by lia)) ?_
    rw [hfl]
    k_units
    refine mb (fun h2 => ?_) fun h2 => ?_
    · k_units
      refine ⟨rfl, ?_⟩
      refine x_nil (x_nil ?_)
      exact fin rfl (Int.natCast_nonneg c) h0 h1
    · refine x_cons (x_set ?_)
      k_units
      refine exv (mul_ok ⟨by lia, by decide⟩) ?_
      k_units
      refine ⟨rfl, ?_⟩
      k_units
      refine .inr (.inr (mk34 ([.list (intsP figs), .int c, .int mix]) 2 _ rfl rfl rfl rfl (mk01 ⟨by decide, by simp, rfl⟩ ?_)))
      k_units
      refine ⟨rfl, ?_⟩
      refine x_nil (x_nil ?_)
      exact fin (mix' := (mix * 37 + 11).fmod 1009) rfl (Int.natCast_nonneg c) (Int.fmod_nonneg_of_pos _ (by decide)) (Int.fmod_lt_of_pos _ (by decide))
theorem sym_levs {k : Nat} (h : k < 5) : PV.sym k ∈ levs := by
  have : k = 0 ∨ k = 1 ∨ k = 2 ∨ k = 3 ∨ k = 4 := by lia
  rcases this with rfl | rfl | rfl | rfl | rfl <;> simp [levs]
theorem sym_syms {k : Nat} (h : k < 10) : PV.sym k ∈ syms := by
  by_cases h5 : k < 5
  · exact levs_syms (sym_levs h5)
  · have : k = 5 ∨ k = 6 ∨ k = 7 ∨ k = 8 ∨ k = 9 := by lia
    rcases this with rfl | rfl | rfl | rfl | rfl <;> simp [syms]
theorem tri_syms {a b : PV} (ha : a ∈ levs) (hb : b ∈ levs) : PV.tup [.sym 10, a, b] ∈ syms := by
  unfold syms
  exact List.mem_append_right _ (List.mem_flatMap.mpr (mk11 a ha (List.mem_map.mpr (mk11 b hb rfl))))
theorem strAt_ok {cs : List Nat} {v : Int} (h0 : 0 ≤ v) (h1 : v < cs.length) (ha : cs.all one = true) (hl : cs.length < 65536) : ∃ k ∈ cs, opStrAt cs (.int v) = some (.sym k) := by
  have hv : v.toNat < cs.length := by lia
  refine (mk11 (cs[v.toNat]) (List.getElem_mem hv) ?_)
  show (if (0 ≤ v ∧ cs.length < 65536) ∧ cs.all one = true then (cs[v.toNat]?).map PV.sym else none) = _
  rw [if_pos ⟨⟨h0, hl⟩, ha⟩, List.getElem?_eq_getElem hv]; rfl
noncomputable def Syms (p : PV) (P : Reg) : Prop := ∃ l', P = some l' ∧ PoolOK l' ∧ p ∈ syms
theorem fn_sy (m : Nat) {l : List PV} {e : Bool} (hl : PoolOK l) : Gv ((LV (m + 100)).fn 21 [.pool, .bool e] (some l)) Syms := by
  refine fn_wp (d := f_law_symbol) rfl rfl ?_
  dsimp only [f_law_symbol, b_law_symbol, List.map_cons, List.map_nil, List.replicate, List.cons_append, List.nil_append, Nat.reduceSub]
  have rest : ∀ {v : Int} {l' : List PV}, PoolOK l' → 0 ≤ v → v < 12 → wSs (WP (m + 99)).ex [.ite (.cmp 2 (.var 2) (.int 6)) [.ret (.strAt [0, 1, 4, 3, 2, 4] (.var 2))] [],
    .ite (.cmp 2 (.var 2) (.int 11)) [.ret (.strAt [5, 6, 7, 8, 9] (.bin 1 (.var 2) (.int 6)))] [],
    .ret (.tup [(.sym 10), (.strAt [0, 1, 2, 4, 3] (.call 16 [(.var 0), (.int 5)])), (.strAt [0, 1, 2, 4, 3] (.call 16 [(.var 0), (.int 5)]))])] ⟨[.fz .pool, .fz (.bool e), .fz (.int v)], some l'⟩ fun fl σ => ∃ p, fl = .rt p ∧ Syms p σ.reg := by
    intro v l' hl' h0 h1
    k_units
    refine mb (fun h => ?_) fun h => ?_
    · have : v < 6 := of_decide_eq_true h
      (refine el11 (strAt_ok (cs := [0, 1, 4, 3, 2, 4]) h0 (by simpa using this) (by decide) (by decide)) ?_; intro k hk e)
      refine x_cons (x_ret (r_strAt ?_))
      k_units
      refine exv e ?_
      exact (mk11 _ rfl (mk12 _ rfl hl' (sym_syms ((by decide : ∀ k ∈ [0, 1, 4, 3, 2, 4], k < 10) k hk))))
    · have : ¬ v < 6 := of_decide_eq_false h
      k_units
      refine mb (fun h => ?_) fun h => ?_
      · have h11 : v < 11 := of_decide_eq_true h
        (refine el11 (strAt_ok (cs := [5, 6, 7, 8, 9]) (v := v - 6) (by lia) (by simp; lia) (by decide) (by decide)) ?_; intro k hk e)
        refine x_cons (x_ret (r_strAt ?_))
        k_units
        refine exv e ?_
        exact (mk11 _ rfl (mk12 _ rfl hl' (sym_syms ((by decide : ∀ k ∈ [5, 6, 7, 8, 9], k < 10) k hk))))
      · refine x_nil ?_
        refine x_cons (x_ret (r_tup (by decide) (rs_cons (r_sym (by decide) (rs_cons (r_strAt ?_))))))
        k_units
        refine r_fnG ((fn_pk _ (by decide) hl').mono ?_)
        rintro _ _ ⟨a, l1, rfl, rfl, hl1, ha0, ha1⟩
        (refine el11 (strAt_ok (cs := [0, 1, 2, 4, 3]) ha0 ha1 (by decide) (by decide)) ?_; intro k hk e)
        refine exv e ?_
        refine rs_cons (r_strAt ?_)
        k_units
        refine r_fnG ((fn_pk _ (by decide) hl1).mono ?_)
        rintro _ _ ⟨b, l2, rfl, rfl, hl2, hb0, hb1⟩
        (refine el11 (strAt_ok (cs := [0, 1, 2, 4, 3]) hb0 hb1 (by decide) (by decide)) ?_; intro j hj e)
        refine exv e ?_
        k_units
        exact (mk11 _ rfl (mk12 _ rfl hl2 (tri_syms (sym_levs ((by decide : ∀ k ∈ [0, 1, 2, 4, 3], k < 5) k hk)) (sym_levs ((by decide : ∀ k ∈ [0, 1, 2, 4, 3], k < 5) j hj)))))
  refine x_cons (x_asg (r_call (rs_cons (r_var rfl (rs_cons (r_ife (t_var (r_var rfl (mk11 _ rfl ?_)))))))))
  cases e with
  | true =>
    k_units
    refine r_fnG ((fn_pk _ (by decide) hl).mono ?_)
    rintro _ _ ⟨v, l', rfl, rfl, hl', h0, h1⟩
    exact ⟨rfl, rest hl' h0 h1⟩
  | false =>
    k_units
    refine r_fnG ((fn_pk _ (by decide) hl).mono ?_)
    rintro _ _ ⟨v, l', rfl, rfl, hl', h0, h1⟩
    exact ⟨rfl, rest hl' h0 (by lia)⟩
end Mine
end
section
open PySem PySem.W PyProof.Rows
set_option Elab.async false
set_option maxRecDepth 100000
namespace Mine
theorem loop_br {n : Nat} {R : Fl → St → Prop} {σ : St} {t : Tgt} {body : List S} {xs : List PV} (I : Nat → St → Prop) (J : St → Prop) (h0 : I 0 σ) (hS : ∀ i x σ, xs[i]? = some x → I i σ → ∃ loc, bindS t x σ.loc = some loc ∧ wSs (WP n).ex body ⟨loc, σ.reg⟩ fun fl σ₁ => match fl with
    | .nx => I (i + 1) σ₁
    | .ct => I (i + 1) σ₁
    | .br => J σ₁
    | .rt p => R (.rt p) σ₁) (hI : ∀ σ, I xs.length σ → J σ) (hN : ∀ σ, J σ → R .nx σ) : Gv (loopS (bodyOf (LV n) t body) xs σ) R :=
  loop_at I h0 (fun i x σ hx h => by
    (refine el11 (hS i x σ hx h) ?_; intro loc e h)
    refine (mk11 loc e (wSs_mono (wp_mono n) h fun fl σ₁ h => ?_))
    cases fl with
    | br => exact hN _ h
    | _ => exact h) fun σ h => hN σ (hI σ h)
theorem loop_br_ab {n : Nat} {R : Fl → St → Prop} {σ : St} {t : Tgt} {body : List S} {xs : List PV} (B : Nat → St → Prop) (C : St → Prop) (h0 : B 0 σ) (k : ∀ (I : Nat → St → Prop) (J : St → Prop), (∀ i σ, B i σ → I i σ) → (∀ σ, C σ → J σ) → ∀ i x σ, xs[i]? = some x → B i σ → ∃ loc, bindS t x σ.loc = some loc ∧ wSs (WP n).ex body ⟨loc, σ.reg⟩ fun fl σ₁ => match fl with
    | .nx => I (i + 1) σ₁
    | .ct => I (i + 1) σ₁
    | .br => J σ₁
    | .rt p => R (.rt p) σ₁) (hI : ∀ σ, B xs.length σ → C σ) (hN : ∀ σ, C σ → R .nx σ) : Gv (loopS (bodyOf (LV n) t body) xs σ) R :=
  loop_br B C h0 (k B C (fun _ _ h => h) fun _ h => h) hI hN
theorem pool_ok (m : Nat) (ns : List Int) (hn : ns.length ≤ 63) : ∃ (figs : List Int) (mix : Int) (σ₁ : St), figs.length < 60000 ∧ 0 ≤ mix ∧ mix < 1009 ∧
    execs (LV (m + 60)).ex (b_law_pool.take 3) ⟨.fz (.list (intsP ns)) :: List.replicate 6 .un, none⟩ = some (.nx, σ₁) ∧
    (LV (m + 60)).ev (.list [.var 1, .int 0, .var 2]) (viewA σ₁.loc) σ₁.reg = some (.list [.list (intsP figs), .int 0, .int mix], none) := by
  have key : wSs (WP (m + 60)).ex (b_law_pool.take 3) ⟨.fz (.list (intsP ns)) :: List.replicate 6 .un, none⟩ fun fl σ => fl = .nx ∧ ∃ (figs : List Int) (mix : Int) (s3 s4 s5 s6 : Slot), σ = ⟨[.fz (.list (intsP ns)), .ow (.list (intsP figs)), .fz (.int mix), s3, s4, s5, s6], none⟩ ∧ figs.length < 60000 ∧ 0 ≤ mix ∧ mix < 1009 := by
    refine wSs_ab fun R hR => ?_
    dsimp only [b_law_pool, List.take, List.replicate]
    refine x_cons (x_own rfl (r_list (by decide) ?_))
    k_units
    refine ⟨rfl, ?_⟩
    k_units
    refine ⟨rfl, ?_⟩
    refine x_cons (x_for (r_sliceTo ?_))
    k_units
    have hsl : opSliceTo (.list (intsP ns)) (.int 40) = some (.list (intsP (ns.take 40))) := by
      have e : small (intsP ns) = true := small_of (by simp [intsP]; lia)
      show (if 0 ≤ (40 : Int) ∧ (40 : Int) < 65536 ∧ small (intsP ns) = true then some (PV.list ((intsP ns).take (40 : Int).toNat)) else none) = _
      rw [if_pos ⟨by decide, by decide, e⟩]
      unfold intsP
      rw [List.map_take]; rfl
    refine exv hsl ?_
    refine (mk11 _ rfl ?_)
    refine loop_ab (fun i σ => ∃ (figs : List Int) (mix : Int) (s3 s4 s5 s6 : Slot), σ = ⟨[.fz (.list (intsP ns)), .ow (.list (intsP figs)), .fz (.int mix), s3, s4, s5, s6], none⟩ ∧ figs.length ≤ 60 * i ∧ 0 ≤ mix ∧ mix < 1009) (mk40 ([]) 5 _ _ (mk23 _ _ rfl (by simp) (by decide) (by decide))) (fun I hin i x σ hx hI => ?_) (fun σ hI => ?_)
    · (refine el40 hI ?_; try clear hI; intro figs mix s3 s4 zr1; refine el23 zr1 ?_; clear zr1; intro s5 s6 zq0 hf h0 h1; subst zq0)
      have hi40 : i < 40 := by
        have := (List.getElem?_eq_some_iff.mp hx).1
        simp only [intsP, List.length_map, List.length_take] at this
        lia
      unfold intsP at hx
      rw [List.getElem?_map] at hx
      (refine el11 (Option.map_eq_some_iff.mp hx) ?_; intro c hc zq0; subst zq0)
      refine (mk11 _ rfl ?_)
      refine x_cons (x_asg (r_toInt ?_))
      k_units
      refine ⟨rfl, ?_⟩
      k_units
      refine exv (mul_ok ⟨by lia, by decide⟩) ?_
      k_units
      refine ⟨rfl, ?_⟩
      refine x_cons (x_asg (r_abs ?_))
      k_units
      refine ⟨rfl, ?_⟩
      refine x_cons (x_for ?_)
      k_units
      refine (mk11 _ (range_it (k := 60) (by decide)) ?_)
      have hm0 := Int.fmod_nonneg_of_pos (mix * 31 + c) (show (0 : Int) < 1009 by decide)
      have hm1 := Int.fmod_lt_of_pos (mix * 31 + c) (show (0 : Int) < 1009 by decide)
      refine loop_br_ab (fun j σ => ∃ (figs : List Int) (r : Int) (s3 s4 s6 : Slot), σ = ⟨[.fz (.list (intsP ns)), .ow (.list (intsP figs)), .fz (.int ((mix * 31 + c).fmod 1009)), s3, s4, .fz (.int r), s6], none⟩ ∧ figs.length ≤ 60 * i + j)
        (fun σ => ∃ (figs : List Int) (r : Int) (s3 s4 s6 : Slot), σ = ⟨[.fz (.list (intsP ns)), .ow (.list (intsP figs)), .fz (.int ((mix * 31 + c).fmod 1009)), s3, s4, .fz (.int r), s6], none⟩ ∧ figs.length ≤ 60 * i + 60) (mk40 figs _ _ _ (mk11 _ rfl hf)) (fun I' J hin' hJ j x σ hx hI => ?_) (fun σ hI => ?_) (fun σ hI => ?_)
      · (refine el40 hI ?_; try clear hI; intro figs r s3 s4 zr1; refine el11 zr1 ?_; clear zr1; intro s6 zq0 hf; subst zq0)
        (refine el01 (range_at hx) ?_; intro hj zq0; subst zq0)
        refine (mk11 _ rfl ?_)
        refine x_cons (x_app rfl ?_)
        k_units
        have hsm : small (intsP figs) = true := small_of (by simp [intsP]; lia)
        refine ⟨by rw [hsm]; rfl, ?_⟩
        have hap : intsP figs ++ [.int (r.fmod 840)] = intsP (figs ++ [r.fmod 840]) := by simp [intsP]
        rw [hap]
        refine x_cons (x_augI1 rfl ?_ (wp_mono _).ev)
        k_units
        refine (mk12 _ rfl rfl ?_)
        k_units
        refine mb (fun h => ?_) fun h => ?_
        · k_units
          exact hJ _ (mk40 _ _ _ _ (mk11 _ rfl (by simp; lia)))
        · k_units
          exact hin' _ _ (mk40 _ _ _ _ (mk11 _ rfl (by simp; lia)))
      · (refine el40 hI ?_; try clear hI; intro figs r s3 s4 zr1; refine el11 zr1 ?_; clear zr1; intro s6 zq0 hf; subst zq0)
        rw [range_len] at hf
        exact (mk40 _ _ _ _ (mk11 _ rfl hf))
      · (refine el40 hI ?_; try clear hI; intro figs r s3 s4 zr1; refine el11 zr1 ?_; clear zr1; intro s6 zq0 hf; subst zq0)
        k_units
        refine exv (len_list (by simp [intsP]; lia)) ?_
        k_units
        refine mb (fun h => ?_) fun h => ?_
        · k_units
          exact hR _ _ (mk01 rfl (mk40 _ _ _ _ (mk23 _ _ rfl (by lia) hm0 hm1)))
        · k_units
          exact hin _ _ (mk40 _ _ _ _ (mk23 _ _ rfl (by lia) hm0 hm1))
    · (refine el40 hI ?_; try clear hI; intro figs mix s3 s4 zr1; refine el23 zr1 ?_; clear zr1; intro s5 s6 zq0 hf h0 h1; subst zq0)
      have hlen : (intsP (ns.take 40)).length ≤ 40 := by simp only [intsP, List.length_map, List.length_take]; lia
      k_units
      exact hR _ _ (mk01 rfl (mk40 _ _ _ _ (mk23 _ _ rfl (by lia) h0 h1)))
  (refine el22 (wSs_ok (wp_ok srtF tab _) key) ?_; intro fl σ₁ e zq0 zr2; refine el40 zr2 ?_; clear zr2; intro figs mix s3 s4 zr3; refine el23 zr3 ?_; clear zr3; intro s5 s6 zq1 hf h0 h1; subst zq0; subst zq1)
  refine (mk34 figs mix _ hf h0 h1 e ?_)
  have ev : (WP (m + 60)).ev (.list [.var 1, .int 0, .var 2]) (viewA [.fz (.list (intsP ns)), .ow (.list (intsP figs)), .fz (.int mix), s3, s4, s5, s6]) none fun p P => p = .list [.list (intsP figs), .int 0, .int mix] ∧ P = none := by
    refine r_list (by decide) ?_
    k_units
    exact ⟨rfl, rfl⟩
  (refine el22 ((wp_ok srtF tab _).ev ev) ?_; intro p P e' zq0 zq1; subst zq0; subst zq1)
  exact e'
end Mine
end
section
open PySem PySem.W PyProof.Rows
set_option Elab.async false
set_option maxRecDepth 100000
set_option maxHeartbeats 400000
namespace Mine
noncomputable abbrev Way := Int × Int × List Int
noncomputable def wayP (w : Way) : PV := .tup [.int w.1, .int w.2.1, .tup (intsP w.2.2)]
noncomputable def waysStep (ws : List Way) (i : Nat) (s : PV) : List Way := if isE s = true then ws.flatMap fun w => (prs s).map fun p => ((i : Int), p.1, w.2.2 ++ [p.2]) else ws.flatMap fun w => (lvl s).map fun n => (w.1, w.2.1, w.2.2 ++ [n])
noncomputable def waysN (ins : List PV) : List Way := (List.range ins.length).foldl (fun ws i => waysStep ws i (ins.getD i .none)) [(-1, -1, [])]
noncomputable def heldN (st : PV) : List Int := if st.isNone = true then [3] else lvl st
noncomputable def putAll (out : PV) (h : Int) (ws : List Way) (d : List (DK × Int)) : List (DK × Int) := ws.foldl (fun d w => dput d (w.1, w.2.1, w.2.2, h) (outv out h)) d
noncomputable def dictN (r : Rw) : List (DK × Int) := (heldN r.st).foldl (fun d h => putAll r.out h (waysN r.ins) d) []
theorem prs_len : ∀ s ∈ syms, (prs s).length ≤ 6 := by decide +kernel
theorem lvl_len : ∀ s ∈ syms, (lvl s).length ≤ 6 := by decide +kernel
theorem flatMap_len {α β : Type} {f : α → List β} {k : Nat} : ∀ {l : List α}, (∀ x ∈ l, (f x).length ≤ k) → (l.flatMap f).length ≤ l.length * k
  | [], _ => by simp
  | x :: l, h => by
    rw [List.flatMap_cons, List.length_append, List.length_cons, Nat.succ_mul]
    have := h x (.head _)
    have := flatMap_len (l := l) fun y hy => h y (.tail _ hy)
    lia
theorem step_len {ws : List Way} {i : Nat} {s : PV} (hs : s ∈ syms) : (waysStep ws i s).length ≤ ws.length * 6 := by
  unfold waysStep
  split
  · exact flatMap_len fun w _ => by rw [List.length_map]; exact prs_len s hs
  · exact flatMap_len fun w _ => by rw [List.length_map]; exact lvl_len s hs
theorem dput_len {d : List (DK × Int)} {k : DK} {v : Int} : (dput d k v).length ≤ d.length + 1 := by
  unfold dput
  split
  · rw [List.length_map]; lia
  · rw [List.length_append]; exact Nat.le_refl _
theorem flat_ints (l : List Int) : flatL (intsP l) = true := by
  induction l with
  | nil => rfl
  | cons c r ih => show (true && flatL (intsP r)) = true; rw [ih]; rfl
theorem decK_ok {a o h : Int} {n : List Int} : decK (.tup [.int a, .int o, .tup (intsP n), .int h]) = some (a, o, n, h) := by
  have : decInts (intsP n) = some n := by
    induction n with
    | nil => rfl
    | cons c r ih => show (decInts (intsP r)).map (c :: ·) = _; rw [ih]; rfl
  show (decInts (intsP n)).map _ = _
  rw [this]; rfl
theorem add_tup {l : List Int} {c : Int} (h : l.length < 65536) : opBin 0 (.tup (intsP l)) (.tup [.int c]) = some (.tup (intsP (l ++ [c]))) := by
  have e : small (intsP l) = true := small_of (by simpa [intsP] using h)
  show (if (small (intsP l) && small [PV.int c]) = true then some (PV.tup (intsP l ++ [.int c])) else none) = _
  have e' : (small (intsP l) && small [PV.int c]) = true := by rw [e]; rfl
  rw [if_pos e']
  simp [intsP]
theorem map_flatMap' {α β γ : Type} {f : α → List β} {g : β → γ} {l : List α} : (l.flatMap f).map g = l.flatMap fun x => (f x).map g := by
  induction l with
  | nil => rfl
  | cons a l ih => rw [List.flatMap_cons, List.map_append, ih, List.flatMap_cons]
theorem ifS_some {α β γ : Type} {a : α} {b : β} {f : α → β → Option γ} : ifS (some (a, b)) f = f a b := rfl
theorem compLoop_cons {f : PV → Reg → Option (List PV × Reg)} {x : PV} {xs : List PV} {P : Reg} : compLoop f (x :: xs) P = ifS (f x P) fun a P₁ => ifS (compLoop f xs P₁) fun b P₂ => some (a ++ b, P₂) := rfl
theorem comp_one {α : Type} {f : PV → Reg → Option (List PV × Reg)} {enc : α → PV} {g : α → PV} {P : Reg} {Q : List PV → Reg → Prop} : ∀ {l : List α}, (∀ x ∈ l, f (enc x) P = some ([g x], P)) → Q (l.map g) P → Gv (compLoop f (l.map enc) P) Q
  | [], _, h => (mk21 ([]) P rfl h)
  | x :: l, k, h => by
    (refine el22 (comp_one (f := f) (enc := enc) (g := g) (Q := fun b P₂ => b = l.map g ∧ P₂ = P) (fun y hy => k y (.tail _ hy)) ⟨rfl, rfl⟩) ?_; intro b P₂ e hb zq0; subst zq0)
    exact (mk21 ([g x] ++ b) P₂ (by rw [List.map_cons, compLoop_cons, k x (.head _)]; rw [ifS_some, e]; rfl) (by rw [hb]; exact h))
theorem comp_many {α : Type} {f : PV → Reg → Option (List PV × Reg)} {enc : α → PV} {g : α → List PV} {P : Reg} {Q : List PV → Reg → Prop} : ∀ {l : List α}, (∀ x ∈ l, f (enc x) P = some (g x, P)) → Q (l.flatMap g) P → Gv (compLoop f (l.map enc) P) Q
  | [], _, h => (mk21 ([]) P rfl h)
  | x :: l, k, h => by
    (refine el22 (comp_many (f := f) (enc := enc) (g := g) (Q := fun b P₂ => b = l.flatMap g ∧ P₂ = P) (fun y hy => k y (.tail _ hy)) ⟨rfl, rfl⟩) ?_; intro b P₂ e hb zq0; subst zq0)
    exact (mk21 (g x ++ b) P₂ (by rw [List.map_cons, compLoop_cons, k x (.head _)]; rw [ifS_some, e]; rfl) (by rw [hb]; rw [List.flatMap_cons] at h; exact h))
theorem lev_of {s : PV} (h : s ∈ syms) (he : isE s = false) : s ∈ levs := by
  unfold syms at h
  rcases List.mem_append.mp h with h | h
  · rcases List.mem_append.mp h with h | h
    · exact h
    · exfalso
      simp only [List.mem_cons, List.not_mem_nil, or_false] at h
      rcases h with rfl | rfl | rfl | rfl | rfl <;> cases he
  · exfalso
    (refine el11 (List.mem_flatMap.mp h) ?_; intro a _ h)
    (refine el11 (List.mem_map.mp h) ?_; intro b _ zq0; subst zq0)
    cases he
theorem ev_held {n : Nat} {ρ : Vw} {P : Reg} {Q : PV → Reg → Prop} {st : PV} (hst : stN2 st) (e : lk ρ 2 = some st) (h : Q (.list (intsP (heldN st))) P) : (WP (n + 40)).ev (.ife (.isNone (.var 2)) (.list [(.int 3)]) (.call 17 [(.var 2)])) ρ P Q := by
  refine r_ife (t_isNone (r_isNone (r_var e (mk11 _ rfl ?_))))
  rcases hst with rfl | hl
  · refine r_list (by decide) ?_
    k_units
    exact h
  · have hn := levs_not st hl
    have e2 : heldN st = lvl st := by unfold heldN; rw [hn]; rfl
    rw [hn]
    rw [e2] at h
    refine r_call (rs_cons (r_var e (rs_nil ?_)))
    exact r_fn (fn_ll _ _ st hl) h
theorem ev_outv {n : Nat} {ρ : Vw} {P : Reg} {Q : PV → Reg → Prop} {out : PV} {hd : Int} (ho : out ∈ outs) (e : lk ρ 3 = some out) (e8 : lk ρ 8 = some (.int hd)) (h : Q (.int (outv out hd)) P) : (WP (n + 40)).ev (.ife (.cmp 0 (.var 3) (.sym 11)) (.var 8) (.sub (.call 17 [(.var 3)]) (.int 0))) ρ P Q := by
  refine r_ife (t_cmp (r_cmp (r_var e (r_sym (by decide) (exb (out_eq out ho) (bo ?_))))))
  simp only [outs, List.mem_cons, List.not_mem_nil, or_false] at ho
  rcases ho with rfl | rfl | rfl | rfl
  · exact r_sub (r_call (rs_cons (r_var e (rs_nil (r_fn (fn_ll _ _ (.sym 0) (by simp [levs])) (r_int (exv rfl h)))))))
  · exact r_sub (r_call (rs_cons (r_var e (rs_nil (r_fn (fn_ll _ _ (.sym 1) (by simp [levs])) (r_int (exv rfl h)))))))
  · exact r_sub (r_call (rs_cons (r_var e (rs_nil (r_fn (fn_ll _ _ (.sym 2) (by simp [levs])) (r_int (exv rfl h)))))))
  · exact r_var e8 h
theorem put_len {out : PV} {h : Int} : ∀ {ws : List Way} {d : List (DK × Int)}, (putAll out h ws d).length ≤ d.length + ws.length
  | [], d => Nat.le_refl _
  | w :: ws, d => by
    have h1 := put_len (out := out) (h := h) (ws := ws) (d := dput d (w.1, w.2.1, w.2.2, h) (outv out h))
    have h2 := dput_len (d := d) (k := (w.1, w.2.1, w.2.2, h)) (v := outv out h)
    show (putAll out h ws (dput d (w.1, w.2.1, w.2.2, h) (outv out h))).length ≤ d.length + (ws.length + 1)
    lia
theorem put_snoc {out : PV} {h : Int} {ws : List Way} {w : Way} {d : List (DK × Int)} : putAll out h (ws ++ [w]) d = dput (putAll out h ws d) (w.1, w.2.1, w.2.2, h) (outv out h) := by
  unfold putAll
  rw [List.foldl_append]; rfl
theorem held_len {st : PV} (hst : stN2 st) : (heldN st).length ≤ 6 := by
  unfold heldN
  split
  · simp
  · rcases hst with rfl | h
    · decide
    · exact lvl_len st (levs_syms h)
theorem fn_st (m : Nat) (P : Reg) {r : Rw} (hs : ∀ s ∈ r.ins, s ∈ syms) (hl : r.ins.length ≤ 3) (hst : stN2 r.st) (ho : r.out ∈ outs) : (LV (m + 100)).fn 19 [r.P] P = some (.dict (dictN r), P) := by
  obtain ⟨ins, st, out⟩ := r
  simp only at hs hl hst ho
  unfold Rw.P rowP
  simp only
  refine fn_go (d := f_law_steps) rfl rfl ?_
  dsimp only [f_law_steps, b_law_steps, List.map_cons, List.map_nil, List.replicate, List.cons_append, List.nil_append, Nat.reduceSub]
  refine x_cons (x_unp ?_)
  k_units
  refine (mk22 _ _ rfl rfl ?_)
  refine x_cons (x_own rfl (r_dict0 ⟨rfl, ?_⟩))
  refine x_cons (x_asgF (r_list (by decide) ?_))
  k_units
  refine x_cons (x_for ?_)
  k_units
  refine (mk11 _ (len_tup (by lia)) (mk11 _ (range_it (by lia)) ?_))
  refine loop_ab (fun i σ => ∃ ws s6 s7, σ = ⟨[.fz (.tup [.tup ins, st, out]), .fz (.tup ins), .fz st, .fz out, .ow (.dict []), .fz (.list (ws.map wayP)), s6, s7, .un, .un, .un, .un, .un, .un, .un, .un, .un, .un, .un, .un, .un, .un], P⟩ ∧
    ws = (List.range i).foldl (fun ws i => waysStep ws i (ins.getD i .none)) [(-1, -1, [])] ∧ ws.length ≤ 6 ^ i ∧ (∀ w ∈ ws, w.2.2.length = i)) (mk33 ([(-1, -1, [])]) _ _ rfl rfl (by simp) (by simp)) (fun I hin i x σ hx hI => ?_) (fun σ hI => ?_)
  · (refine el01 (range_at hx) ?_; intro hi zq0; subst zq0)
    (refine el33 hI ?_; try clear hI; intro ws s6 s7 zq0 hw hwl hwn; subst zq0)
    (refine el11 (get_lt hi) ?_; intro s hs' hsm)
    have hsy := hs s hsm
    have hgd : ins.getD i .none = s := by rw [List.getD_eq_getElem?_getD, hs']; rfl
    have hp6 : 6 ^ i ≤ 36 := by
      have : i ≤ 2 := by lia
      have := Nat.pow_le_pow_right (show 0 < 6 by decide) this
      simpa using this
    have hnew : waysStep ws i s = (List.range (i + 1)).foldl (fun ws i => waysStep ws i (ins.getD i .none)) [(-1, -1, [])] := by rw [range_foldl, ← hw, hgd]
    have hnl := step_len (ws := ws) (i := i) hsy
    have hnl' : (waysStep ws i s).length ≤ 6 ^ (i + 1) := by rw [Nat.pow_succ]; lia
    have hnn : ∀ w ∈ waysStep ws i s, w.2.2.length = i + 1 := by
      intro w hw'
      unfold waysStep at hw'
      split at hw'
      · (refine el11 (List.mem_flatMap.mp hw') ?_; intro w0 h0 h1)
        (refine el11 (List.mem_map.mp h1) ?_; intro p _ zq0; subst zq0)
        simp [hwn w0 h0]
      · (refine el11 (List.mem_flatMap.mp hw') ?_; intro w0 h0 h1)
        (refine el11 (List.mem_map.mp h1) ?_; intro p _ zq0; subst zq0)
        simp [hwn w0 h0]
    refine (mk11 _ rfl ?_)
    k_units
    refine exv (sub_tup (by lia) hs') ?_
    k_units
    refine r_fn (fn_ch _ _ s hsy) ?_
    cases he : isE s with
    | false =>
      have hlev := lev_of hsy he
      have hwe : waysStep ws i s = ws.flatMap fun w => (lvl s).map fun n => (w.1, w.2.1, w.2.2 ++ [n]) := by unfold waysStep; rw [he]; rfl
      simp only [Bool.false_eq_true, if_false]
      k_units
      refine x_cons (x_asgF (r_comp2 ?_))
      k_units
      refine (mk11 _ rfl ?_)
      show Gv (compLoop (compIn (LV _) _ Option.none _ _ _ _ [some (.tup [.tup ins, st, out]), some (.tup ins), some st, some out, Option.none, some (.list (ws.map wayP)), some (.int i), some .none, Option.none, Option.none, Option.none, Option.none, Option.none, Option.none, Option.none, Option.none, Option.none, Option.none, Option.none, Option.none, Option.none, Option.none]) _ _) _
      refine comp_many (enc := wayP) (g := fun w => (lvl s).map fun n => wayP (w.1, w.2.1, w.2.2 ++ [n])) (fun w hw' => in_eq (wp_ok srtF tab _) (mk11 _ rfl ?_)) ?_
      · k_units
        refine exv (sub_tup (by lia) hs') ?_
        k_units
        refine r_fn (fn_ll _ _ s hlev) ?_
        refine (mk11 _ rfl ?_)
        refine comp_one (enc := PV.int) (g := fun n => wayP (w.1, w.2.1, w.2.2 ++ [n])) (fun n hn => elt_eq (wp_ok srtF tab _) (mk11 _ rfl ?_)) ⟨rfl, rfl⟩
        refine r_tup (by decide) ?_
        k_units
        refine exv (add_tup (by rw [hwn w hw']; lia)) ?_
        k_units
        exact ⟨rfl, rfl⟩
      · have e : (ws.flatMap fun w => (lvl s).map fun n => wayP (w.1, w.2.1, w.2.2 ++ [n])) = (waysStep ws i s).map wayP := by
          rw [hwe, map_flatMap']
          simp only [List.map_map]; rfl
        rw [e]
        refine ⟨small_of (by rw [List.length_map]; lia), ?_⟩
        k_units
        exact hin _ _ (mk33 _ _ _ rfl hnew hnl' hnn)
    | true =>
      have hwe : waysStep ws i s = ws.flatMap fun w => (prs s).map fun p => ((i : Int), p.1, w.2.2 ++ [p.2]) := by unfold waysStep; rw [he]; rfl
      simp only [if_true]
      k_units
      refine x_cons (x_asgF (r_comp2 ?_))
      k_units
      refine (mk11 _ rfl ?_)
      show Gv (compLoop (compIn (LV _) _ Option.none _ _ _ _ [some (.tup [.tup ins, st, out]), some (.tup ins), some st, some out, Option.none, some (.list (ws.map wayP)), some (.int i), some (.list ((prs s).map prP)), Option.none, Option.none, Option.none, Option.none, Option.none, Option.none, Option.none, Option.none, Option.none, Option.none, Option.none, Option.none, Option.none, Option.none]) _ _) _
      refine comp_many (enc := wayP) (g := fun w => (prs s).map fun p => wayP ((i : Int), p.1, w.2.2 ++ [p.2])) (fun w hw' => in_eq (wp_ok srtF tab _) (mk11 _ rfl ?_)) ?_
      · k_units
        refine (mk11 _ rfl ?_)
        refine comp_one (enc := prP) (g := fun p => wayP ((i : Int), p.1, w.2.2 ++ [p.2])) (fun p hp => elt_eq (wp_ok srtF tab _) (mk11 _ rfl ?_)) ⟨rfl, rfl⟩
        refine r_tup (by decide) ?_
        k_units
        refine exv (add_tup (by rw [hwn w hw']; lia)) ?_
        k_units
        exact ⟨rfl, rfl⟩
      · have e : (ws.flatMap fun w => (prs s).map fun p => wayP ((i : Int), p.1, w.2.2 ++ [p.2])) = (waysStep ws i s).map wayP := by
          rw [hwe, map_flatMap']
          simp only [List.map_map]; rfl
        rw [e]
        refine ⟨small_of (by rw [List.length_map]; lia), ?_⟩
        k_units
        exact hin _ _ (mk33 _ _ _ rfl hnew hnl' hnn)
  · (refine el33 hI ?_; try clear hI; intro ws s6 s7 zq0 hw hwl hwn; subst zq0)
    rw [range_len] at hw hwl hwn
    have hw6 : ws.length ≤ 216 := by
      have := Nat.pow_le_pow_right (show 0 < 6 by decide) hl
      lia
    have hWN : ws = waysN ins := hw
    have hh6 := held_len hst
    refine x_cons (x_for (ev_held hst rfl ?_))
    refine (mk11 _ rfl ?_)
    refine loop_ab (fun j σ => ∃ d s8 s9 s10 s11 s12, σ = ⟨[.fz (.tup [.tup ins, st, out]), .fz (.tup ins), .fz st, .fz out, .ow (.dict d), .fz (.list (ws.map wayP)), s6, s7, s8, s9, s10, s11, s12, .un, .un, .un, .un, .un, .un, .un, .un, .un], P⟩ ∧
      d = ((heldN st).take j).foldl (fun d h => putAll out h ws d) [] ∧ d.length ≤ 216 * j) (mk40 ([]) _ _ _ (mk22 _ _ rfl rfl (Nat.le_refl _))) (fun I hin j x σ hx hI => ?_) (fun σ hI => ?_)
    · (refine el40 hI ?_; try clear hI; intro d s8 s9 s10 zr1; refine el22 zr1 ?_; clear zr1; intro s11 s12 zq0 hd hdl; subst zq0)
      have hj : j < 6 := by
        have := (List.getElem?_eq_some_iff.mp hx).1
        simp only [intsP, List.length_map] at this
        lia
      unfold intsP at hx
      rw [List.getElem?_map] at hx
      (refine el11 (Option.map_eq_some_iff.mp hx) ?_; intro h hh zq0; subst zq0)
      have ht : ((heldN st).take (j + 1)).foldl (fun d h => putAll out h ws d) [] = putAll out h ws d := by
        rw [List.take_add_one, hh, List.foldl_append, ← hd]; rfl
      have hpl := put_len (out := out) (h := h) (ws := ws) (d := d)
      refine (mk11 _ rfl ?_)
      refine x_cons (x_asg (ev_outv ho rfl rfl ⟨rfl, ?_⟩))
      refine x_cons (x_for ?_)
      k_units
      refine (mk11 _ rfl ?_)
      refine loop_ab (fun k σ => ∃ s10 s11 s12, σ = ⟨[.fz (.tup [.tup ins, st, out]), .fz (.tup ins), .fz st, .fz out, .ow (.dict (putAll out h (ws.take k) d)), .fz (.list (ws.map wayP)), s6, s7, .fz (.int h), .fz (.int (outv out h)), s10, s11, s12, .un, .un, .un, .un, .un, .un, .un, .un, .un], P⟩) (mk30 _ _ _ rfl) (fun I' hin' k x σ hx hI => ?_) (fun σ hI => ?_)
      · (refine el30 hI ?_; try clear hI; intro s10 s11 s12 zq0; subst zq0)
        rw [List.getElem?_map] at hx
        (refine el11 (Option.map_eq_some_iff.mp hx) ?_; intro w hw' zq0; subst zq0)
        have hpk := put_len (out := out) (h := h) (ws := ws.take k) (d := d)
        rw [List.length_take] at hpk
        have htk : putAll out h (ws.take (k + 1)) d = dput (putAll out h (ws.take k) d) (w.1, w.2.1, w.2.2, h) (outv out h) := by
          rw [List.take_add_one, hw']; exact put_snoc
        refine (mk11 _ rfl ?_)
        refine x_cons (x_set ?_)
        k_units
        refine ⟨rfl, ?_⟩
        k_units
        refine .inr (.inl (mk34 _ _ _ rfl decK_ok rfl (by lia) ?_))
        refine x_nil ?_
        exact hin' _ _ (mk30 _ _ _ (by rw [htk]; rfl))
      · (refine el30 hI ?_; try clear hI; intro s10 s11 s12 zq0; subst zq0)
        rw [List.length_map, List.take_length]
        exact hin _ _ (mk40 _ _ _ _ (mk22 _ _ rfl ht.symm (by lia)))
    · (refine el40 hI ?_; try clear hI; intro d s8 s9 s10 zr1; refine el22 zr1 ?_; clear zr1; intro s11 s12 zq0 hd hdl; subst zq0)
      k_units
      refine ⟨?_, rfl⟩
      have e : (intsP (heldN st)).length = (heldN st).length := List.length_map ..
      rw [e, List.take_length, hWN] at hd
      rw [hd]; rfl
end Mine
end
section
open PySem PySem.W PyProof.Rows
set_option Elab.async false
set_option maxRecDepth 100000
set_option maxHeartbeats 800000
namespace Mine
noncomputable def chP (s : PV) : PV := if isE s then .list ((prs s).map prP) else .none
noncomputable def edP (ins : List PV) : List PV := (ins.filter isE).map fun s => .list ((prs s).map prP)
noncomputable def cfl (a b : Option Int) : Bool := match a with
  | none => false
  | some a => (match b with
    | none => false
    | some b => !decide (a = b))
theorem cfl_el {a b : Option Int} (h : cfl a b = true) : ∃ x y, a = some x ∧ b = some y ∧ x ≠ y := by
  cases a with
  | none => exact ff_ h
  | some x => cases b with
    | none => exact ff_ h
    | some y => exact mk22 x y rfl rfl fun e => by rw [show cfl (some x) (some y) = !decide (x = y) from rfl, decide_eq_true e] at h; exact ff_ h
theorem cfl_ne {a b : Int} (h : a ≠ b) : cfl (some a) (some b) = true := by
  show (!decide (a = b)) = true
  rw [decide_eq_false h]; rfl
noncomputable def confl (o d : List (DK × Int)) : Bool := d.any fun x => cfl (dget o x.1) (dget d x.1)
theorem dget_mem {d : List (DK × Int)} {x : DK × Int} (h : x ∈ d) : ∃ v, dget d x.1 = some v := by
  unfold dget
  cases e : d.find? fun y => decide (y.1 = x.1) with
  | some y => exact ⟨y.2, rfl⟩
  | none =>
    have := List.find?_eq_none.mp e x h
    simp at this
theorem safe_prs : ∀ s ∈ syms, (PV.list ((prs s).map prP)).safe 5 = true := by decide +kernel
theorem safe_ed {ins : List PV} (h : ∀ s ∈ ins, s ∈ syms) : (PV.list (edP ins)).safe 6 = true := by
  show safeL (edP ins) 5 = true
  unfold edP
  have : ∀ l : List PV, (∀ s ∈ l, s ∈ syms) → safeL (l.map fun s => PV.list ((prs s).map prP)) 5 = true := by
    intro l
    induction l with
    | nil => intro _; rfl
    | cons s l ih =>
      intro h
      show ((PV.list ((prs s).map prP)).safe 5 && _) = true
      rw [safe_prs s (h s (.head _)), ih fun y hy => h y (.tail _ hy)]; rfl
  exact this _ fun s hs => h s (List.mem_filter.mp hs).1
theorem eq_nil {l : List PV} : (PV.list l).eq (.list []) = l.isEmpty := by
  show eqL l [] = _
  cases l <;> rfl
theorem cmp0_nil {l : List PV} (h : (PV.list l).safe 6 = true) : opCmp 0 (.list l) (.list []) = some l.isEmpty := by
  show (if ((PV.list l).safe 6 && (PV.list []).safe 6) = true then some ((PV.list l).eq (.list [])) else none) = _
  have e : ((PV.list l).safe 6 && (PV.list []).safe 6) = true := by rw [h]; rfl
  rw [if_pos e, eq_nil]
theorem cmp1_nil {l : List PV} (h : (PV.list l).safe 6 = true) : opCmp 1 (.list l) (.list []) = some (!l.isEmpty) := by
  show (if ((PV.list l).safe 6 && (PV.list []).safe 6) = true then some (!(PV.list l).eq (.list [])) else none) = _
  have e : ((PV.list l).safe 6 && (PV.list []).safe 6) = true := by rw [h]; rfl
  rw [if_pos e, eq_nil]
theorem safe_sym : ∀ s ∈ syms, s.safe 3 = true := by decide +kernel
theorem safe_out : ∀ s ∈ outs, s.safe 4 = true := by decide +kernel
theorem safe_lev : ∀ s ∈ levs, s.safe 4 = true := by decide +kernel
theorem safeL_of {l : List PV} {n : Nat} (h : ∀ x ∈ l, x.safe n = true) : safeL l n = true := by
  induction l with
  | nil => rfl
  | cons x l ih =>
    show (x.safe n && safeL l n) = true
    rw [h x (.head _), ih fun y hy => h y (.tail _ hy)]; rfl
theorem safe_row {r : Rw} (h : RwG r) : r.P.safe 5 = true := by
  have h1 : safeL r.ins 3 = true := safeL_of fun s hs => safe_sym s (h.syms s hs)
  have h2 : r.st.safe 4 = true := by
    rcases h.st with e | e
    · rw [e]; rfl
    · exact safe_lev _ e
  show (safeL r.ins 3 && (r.st.safe 4 && (r.out.safe 4 && true))) = true
  rw [h1, h2, safe_out _ h.out]; rfl
theorem safe_rows {rows : List Rw} (h : ∀ r ∈ rows, RwG r) : (PV.list (rows.map Rw.P)).safe 6 = true :=
  safeL_of fun x hx => by
    (refine el11 (List.mem_map.mp hx) ?_; intro r hr zq0; subst zq0)
    exact safe_row (h r hr)
noncomputable def lfStep (nin : Nat) (seq : Bool) (rows : List Rw) (s : List PV × List (List (DK × Int)) × List Nat) (i : Nat) : List PV × List (List (DK × Int)) × List Nat := match rows[i]? with
  | some r => if (rfN nin seq r.ins r.out).isEmpty = true then
      (if (s.2.1.any fun o => confl o (dictN r)) = true then (s.1 ++ [ftP (.sym 18) i], s.2.1 ++ [dictN r], s.2.2) else (s.1, s.2.1 ++ [dictN r], s.2.2 ++ [i]))
    else (s.1 ++ (rfN nin seq r.ins r.out).map fun x => ftP x i, s.2)
  | none => s
noncomputable def lfN (names : List PV) (seq : Bool) (rows : List Rw) : List PV × List (List (DK × Int)) × List Nat :=
  (List.range rows.length).foldl (lfStep (names.length - 1) seq rows) (dupN [] names ++ (if rows.isEmpty = true then [ftP (.sym 17) (-1)] else []), [], [])
theorem isEmpty_app (a b : List PV) : (a ++ b).isEmpty = (a.isEmpty && b.isEmpty) := by cases a <;> rfl
theorem dec_enc (k : DK) : decK (encK k) = some k := decK_ok
theorem in_dict {k : DK} {d : List (DK × Int)} : opCmp 4 (encK k) (.dict d) = some (dget d k).isSome := by
  show (decK (encK k)).map _ = _
  rw [dec_enc]; rfl
theorem sub_dict {k : DK} {d : List (DK × Int)} {v : Int} {P : Reg} (h : dget d k = some v) : opSub P (.dict d) (encK k) = some (.int v) := by
  show (decK (encK k)).bind (fun k => (dget d k).map PV.int) = _
  rw [dec_enc]; show (dget d k).map PV.int = _; rw [h]; rfl
theorem comp_confl {n : Nat} {P : Reg} {Q : List PV → Reg → Prop} {ρ : Vw} {ds : List (List (DK × Int))} {d : List (DK × Int)} (hρ : ∀ v w : PV, lk ((ρ.set 18 (some v)).set 19 (some w)) 18 = some v ∧ lk ((ρ.set 18 (some v)).set 19 (some w)) 19 = some w ∧ lk ((ρ.set 18 (some v)).set 19 (some w)) 13 = some (.dict d) ∧ lk (ρ.set 18 (some v)) 13 = some (.dict d))
    (h : ∀ l : List PV, (∀ x ∈ l, x = .int 1) → (l.isEmpty = !(ds.any fun o => confl o d)) → l.length ≤ ds.length * d.length → Q l P) :
    Gv (compLoop (compIn (LV (n + 20)) (.int 1) (some (.and (.cmp 4 (.var 19) (.var 18)) (.cmp 1 (.sub (.var 18) (.var 19)) (.sub (.var 13) (.var 19))))) (.one 18) (.one 19) .val (.var 13) ρ) (ds.map PV.dict) P) Q := by
  let tst : List (DK × Int) → DK × Int → Bool := fun o x => cfl (dget o x.1) (dget d x.1)
  refine comp_many (g := fun o => d.flatMap fun x => if tst o x = true then [.int 1] else []) (fun o ho => in_eq (wp_ok srtF tab _) (mk11 _ rfl (r_var (hρ _ .none).2.2.2 (mk11 _ rfl ?_)))) ?_
  · refine comp_many (enc := fun x : DK × Int => encK x.1) (g := fun x => if tst o x = true then [.int 1] else []) (fun x hx => elt_eq (wp_ok srtF tab _) (mk11 _ rfl ?_)) ⟨rfl, rfl⟩
    (refine el10 (dget_mem hx) ?_; intro b hb)
    (refine el03 (hρ (.dict o) (encK x.1)) ?_; intro h18 h19 h13 _)
    refine t_and (t_cmp (r_cmp (r_var h19 (r_var h18 (exb in_dict (bo ?_))))))
    cases ha : dget o x.1 with
    | none =>
      have ht : tst o x = false := by show cfl (dget o x.1) _ = false; rw [ha]; rfl
      show [] = _ ∧ _
      rw [ht]
      exact ⟨rfl, rfl⟩
    | some a =>
      have ht : tst o x = !decide (a = b) := by show cfl (dget o x.1) (dget d x.1) = _; rw [ha, hb]; rfl
      refine t_cmp (r_cmp (r_sub (r_var h18 (r_var h19 (exv (sub_dict ha) (r_sub (r_var h13 (r_var h19 (exv (sub_dict hb) (exb cmp_int1 (bo ?_)))))))))))
      rw [ht]
      cases !decide (a = b) with
      | true => exact r_int ⟨rfl, rfl⟩
      | false => exact ⟨rfl, rfl⟩
  · refine h _ (fun x hx => ?_) ?_ ?_
    · (refine el11 (List.mem_flatMap.mp hx) ?_; intro o _ hx)
      (refine el11 (List.mem_flatMap.mp hx) ?_; intro y _ hx)
      split at hx
      · simpa using hx
      · cases hx
    · have e : (ds.any fun o => confl o d) = ds.any fun o => d.any (tst o) := rfl
      rw [e]
      generalize tst = t
      have inner : ∀ (l : List (DK × Int)) (o : List (DK × Int)), (l.flatMap fun x => if t o x = true then [PV.int 1] else []).isEmpty = !l.any (t o) := by
        intro l o
        induction l with
        | nil => rfl
        | cons x l ih =>
          rw [List.flatMap_cons, List.any_cons]
          cases t o x with
          | true => rfl
          | false => simpa using ih
      have outer : ∀ l : List (List (DK × Int)), (l.flatMap fun o => d.flatMap fun x => if t o x = true then [PV.int 1] else []).isEmpty = !l.any fun o => d.any (t o) := by
        intro l
        induction l with
        | nil => rfl
        | cons o l ih =>
          rw [List.flatMap_cons, List.any_cons, isEmpty_app, ih, inner]
          simp
      exact outer ds
    · exact flatMap_len fun o _ => by
        have := flatMap_len (l := d) (k := 1) (f := fun x => if tst o x = true then [PV.int 1] else []) fun x _ => by split <;> simp
        lia
end Mine
end
section
open PySem PySem.W PyProof.Rows
set_option Elab.async false
set_option maxRecDepth 100000
set_option maxHeartbeats 800000
namespace Mine
section
variable {n : Nat} {ρ : Vw} {P : Reg} {T : Bool → Reg → Prop}
theorem t_andV {i : Nat} {b : X} {s B : Bool} (e : lk ρ i = some (.bool s)) (hb : (WP (n + 2)).evT b ρ P fun c P' => c = B ∧ P' = P) (h : T (s && B) P) : (WP (n + 3)).evT (.and (.var i) b) ρ P T := by
  refine t_and (t_var (r_var e (bo ?_)))
  cases s with
  | false => exact h
  | true => exact (wp_mono _).evT hb fun c P' ⟨e1, e2⟩ => by subst e1 e2; exact h
theorem t_andN {i : Nat} {b : X} {s B : Bool} (e : lk ρ i = some (.bool s)) (hb : (WP (n + 3)).evT b ρ P fun c P' => c = B ∧ P' = P) (h : T (!s && B) P) : (WP (n + 4)).evT (.and (.not (.var i)) b) ρ P T := by
  refine t_and (t_not (t_var (r_var e (bo ?_))))
  cases s with
  | true => exact h
  | false => exact (wp_mono _).evT hb fun c P' ⟨e1, e2⟩ => by subst e1 e2; exact h
end
theorem dup_flat : ∀ {pre l : List PV}, flatL (dupN pre l) = true
  | _, [] => rfl
  | pre, x :: l => by
    rw [dupN]
    split
    · show (true && flatL (dupN (pre ++ [x]) l)) = true; rw [dup_flat]; rfl
    · exact dup_flat
theorem dup_idx {names : List PV} : ∀ {l pre : List PV}, pre ++ l = names → dupN pre l = (List.range' pre.length l.length).flatMap fun i => if (names.take i).any (fun y => y.eq (names.getD i .none)) = true then [ftP (.sym 16) (-1)] else []
  | [], _, _ => rfl
  | x :: l, pre, h => by
    have h1 : names.take pre.length = pre := by rw [← h]; simp
    have h2 : names.getD pre.length .none = x := by rw [List.getD_eq_getElem?_getD, ← h]; simp
    rw [dupN, List.length_cons, List.range'_succ, List.flatMap_cons, h1, h2, dup_idx (names := names) (l := l) (pre := pre ++ [x]) (by rw [← h]; simp), List.length_append]
    rfl
theorem ed_len {ins : List PV} : (edP ins).length = ins.countP isE := by
  unfold edP
  rw [List.length_map, List.countP_eq_length_filter]
theorem ed_empty {ins : List PV} : (!(edP ins).isEmpty) = decide ((ins.countP isE : Int) > 0) := by
  rw [← ed_len]
  cases edP ins with
  | nil => rfl
  | cons a l => show true = decide (((l.length + 1 : Nat) : Int) > 0); rw [decide_eq_true (by lia)]
theorem rf_same {nin : Nat} {seq : Bool} {ins : List PV} {out : PV} : iff1 (!decide ((ins.length : Int) = nin)) 19 ++ iff1 (seq && decide ((ins.countP isE : Int) > 1)) 20 ++ iff1 (!seq && decide ((ins.countP isE : Int) > 0)) 21 ++ iff1 (!seq && out.eq (.sym 11)) 22 ++ (ins.filter emp).map (fun _ => PV.sym 23) = rfN nin seq ins out := by
  unfold rfN
  cases seq with
  | true => simp [iff1]
  | false => simp [iff1]
theorem slice_list {l : List PV} {u : Int} (h : 0 ≤ u ∧ u < 65536 ∧ small l = true) : opSliceTo (.list l) (.int u) = some (PV.list (l.take u.toNat)) := by
  show (PV.int u).onI Option.none (fun u => if 0 ≤ u ∧ u < 65536 ∧ small l then some (PV.list (l.take u.toNat)) else Option.none) = _
  show (if 0 ≤ u ∧ u < 65536 ∧ small l = true then some (PV.list (l.take u.toNat)) else Option.none) = _
  exact if_pos h
theorem slice_tup {l : List PV} {u : Int} (h : 0 ≤ u ∧ u < 65536 ∧ small l = true) : opSliceTo (.tup l) (.int u) = some (PV.tup (l.take u.toNat)) := by
  show (PV.int u).onI Option.none (fun u => if 0 ≤ u ∧ u < 65536 ∧ small l then some (PV.tup (l.take u.toNat)) else Option.none) = _
  show (if 0 ≤ u ∧ u < 65536 ∧ small l = true then some (PV.tup (l.take u.toNat)) else Option.none) = _
  exact if_pos h
theorem names_dup {m : Nat} {P : Reg} {Q : List PV → Reg → Prop} {ρ : Vw} {names : List PV} (hn : ∀ x ∈ names, x ∈ nmL) (hl : names.length < 100) (hρ : ∀ v : PV, lk (ρ.set 14 (some v)) 14 = some v ∧ lk (ρ.set 14 (some v)) 0 = some (.list names)) (h : Q (dupN [] names) P) :
    Gv (compLoop (compElt (LV (m + 20)) (.tup [(.sym 16), .neg1]) (some (.cmp 4 (.sub (.var 0) (.var 14)) (.sliceTo (.var 0) (.var 14)))) (.one 14) ρ) (rangeV names.length) P) Q := by
  have e := dup_idx (names := names) (l := names) (pre := []) rfl
  rw [List.length_nil, ← List.range_eq_range'] at e
  rw [e] at h
  refine comp_many (enc := fun i : Nat => PV.int (i : Int)) (fun i hi => elt_eq (wp_ok srtF tab _) (mk11 _ rfl ?_)) h
  have hi' := List.mem_range.mp hi
  (refine el11 (get_lt hi') ?_; intro x hx hxm)
  (refine el01 (hρ (.int i)) ?_; intro h14 h0)
  have hg : names.getD i .none = x := by rw [List.getD_eq_getElem?_getD, hx]; rfl
  have hsl : opSliceTo (.list names) (.int i) = some (.list (names.take i)) := by
    have e : small names = true := small_of (by lia)
    exact slice_list ⟨Int.natCast_nonneg i, by lia, e⟩
  refine t_cmp (r_cmp (r_sub (r_var h0 (r_var h14 (exv (sub_list (by lia) hx) (r_sliceTo (r_var h0 (r_var h14 (exv hsl (exb (in_nm (hn x hxm) fun y hy => hn y (List.mem_of_mem_take hy)) (bo ?_)))))))))))
  rw [hg]
  cases (names.take i).any fun y => y.eq x with
  | true => exact r_tup (by decide) (rs_cons (r_sym (by decide) (rs_cons (r_neg1 (rs_nil ⟨rfl, rfl⟩)))))
  | false => exact ⟨rfl, rfl⟩
end Mine
end
section
open PySem PySem.W PyProof.Rows
set_option Elab.async false
set_option maxRecDepth 100000
set_option maxHeartbeats 1600000
namespace Mine
theorem ways_len {ins : List PV} (h : ∀ s ∈ ins, s ∈ syms) : (waysN ins).length ≤ 6 ^ ins.length := by
  have key : ∀ i, i ≤ ins.length → ((List.range i).foldl (fun ws i => waysStep ws i (ins.getD i .none)) [(-1, -1, [])]).length ≤ 6 ^ i := by
    intro i
    induction i with
    | zero => intro _; simp
    | succ i ih =>
      intro hi
      rw [range_foldl]
      (refine el11 (get_lt (l := ins) (i := i) (by lia)) ?_; intro s hs hsm)
      have hg : ins.getD i .none = s := by rw [List.getD_eq_getElem?_getD, hs]; rfl
      rw [hg]
      have := step_len (ws := (List.range i).foldl (fun ws i => waysStep ws i (ins.getD i .none)) [(-1, -1, [])]) (i := i) (h s hsm)
      have := ih (by lia)
      rw [Nat.pow_succ]
      lia
  exact key _ (Nat.le_refl _)
theorem dict_len {r : Rw} (h : ∀ s ∈ r.ins, s ∈ syms) (hl : r.ins.length ≤ 3) (hst : stN2 r.st) : (dictN r).length ≤ 1296 := by
  have hw := ways_len h
  have h3 := Nat.pow_le_pow_right (show 0 < 6 by decide) hl
  have hh := held_len hst
  have key : ∀ (hs : List Int) (d : List (DK × Int)), (hs.foldl (fun d h => putAll r.out h (waysN r.ins) d) d).length ≤ d.length + hs.length * 216 := by
    intro hs
    induction hs with
    | nil => intro d; simp
    | cons a hs ih =>
      intro d
      have h1 := ih (putAll r.out a (waysN r.ins) d)
      have h2 := put_len (out := r.out) (h := a) (ws := waysN r.ins) (d := d)
      rw [List.foldl_cons, List.length_cons, Nat.succ_mul]
      lia
  have := key (heldN r.st) []
  unfold dictN
  simp only [List.length_nil, Nat.zero_add] at this
  have h5 : (heldN r.st).length * 216 ≤ 6 * 216 := Nat.mul_le_mul_right _ hh
  lia
theorem t_notNone {n : Nat} {ρ : Vw} {P : Reg} {T : Bool → Reg → Prop} {a : X} (h : (WP n).ev (.notNone a) ρ P fun v P₁ => ∃ b, v = .bool b ∧ T b P₁) : (WP (n + 1)).evT (.notNone a) ρ P T := h
theorem flatMap_one {α β : Type} {g : α → β} {l : List α} : (l.flatMap fun x => [g x]) = l.map g := by
  induction l with
  | nil => rfl
  | cons a l ih => rw [List.flatMap_cons, ih]; rfl
theorem flatMap_ed {ins : List PV} : (ins.flatMap fun s => if isE s = true then [chP s] else []) = edP ins := by
  unfold edP
  induction ins with
  | nil => rfl
  | cons s l ih =>
    rw [List.flatMap_cons, ih, List.filter_cons]
    cases h : isE s
    · rfl
    · simp only [if_true, List.map_cons]
      unfold chP
      rw [h]; rfl
theorem flatMap_emp {ins : List PV} : ((ins.filter isE).flatMap fun s => if (prs s).isEmpty = true then [PV.sym 23] else []) = (ins.filter emp).map fun _ => PV.sym 23 := by
  induction ins with
  | nil => rfl
  | cons s l ih =>
    rw [List.filter_cons, List.filter_cons]
    cases h : isE s
    · have : emp s = false := by unfold emp; rw [h]; rfl
      rw [this]; simpa using ih
    · have : emp s = (prs s).isEmpty := by unfold emp; rw [h]; rfl
      rw [this]
      simp only [if_true, List.flatMap_cons, ih]
      cases (prs s).isEmpty <;> rfl
theorem ch_none : ∀ s ∈ syms, (chP s).isNone = !isE s := by
  intro s _
  unfold chP
  cases isE s <;> rfl
theorem prs_list : ∀ s ∈ syms, opCmp 0 (.list ((prs s).map prP)) (.list []) = some (prs s).isEmpty := by
  intro s hs
  rw [cmp0_nil]
  · cases prs s <;> rfl
  · have := safe_prs s hs
    have mono : ∀ l : List (Int × Int), safeL (l.map prP) 5 = true := fun l => by
      induction l with
      | nil => rfl
      | cons x l ih => show ((prP x).safe 5 && safeL (l.map prP) 5) = true; rw [ih]; rfl
    exact mono _
theorem rf_safe {nin : Nat} {seq : Bool} {ins : List PV} {out : PV} : (PV.list (rfN nin seq ins out)).safe 6 = true := by
  have h1 : ∀ b k, k < stN → ∀ x ∈ iff1 b k, x.safe 5 = true := by
    intro b k hk x hx
    cases b
    · cases hx
    · have : x = .sym k := by simpa [iff1] using hx
      subst this
      exact Nat.ble_eq_true_of_le hk
  refine safeL_of fun x hx => ?_
  unfold rfN at hx
  rcases List.mem_append.mp hx with hx | hx
  · rcases List.mem_append.mp hx with hx | hx
    · exact h1 _ 19 (by decide) x hx
    · split at hx
      · exact h1 _ 20 (by decide) x hx
      · rcases List.mem_append.mp hx with hx | hx
        · exact h1 _ 21 (by decide) x hx
        · exact h1 _ 22 (by decide) x hx
  · (refine el11 (List.mem_map.mp hx) ?_; intro _ _ zq0; subst zq0)
    rfl
theorem flat_app {l m : List PV} (h1 : flatL l = true) (h2 : flatL m = true) : flatL (l ++ m) = true := by
  induction l with
  | nil => exact h2
  | cons x l ih =>
    rw [flatL, Bool.and_eq_true] at h1
    rw [List.cons_append, flatL, h1.1, ih h1.2]; rfl
theorem len_if {l : List PV} {c : Bool} {v : PV} {k : Nat} (h : l.length ≤ k) : (l ++ if c = true then [v] else []).length ≤ k + 1 := by
  rw [List.length_append]
  split
  · simp only [List.length_cons, List.length_nil]; lia
  · simp only [List.length_nil]; lia
theorem flat_ft' {l : List PV} {i : Nat} (h : ∀ x ∈ l, ∃ k, x = .sym k) : flatL (l.map fun x => ftP x i) = true := by
  induction l with
  | nil => rfl
  | cons x l ih =>
    (refine el10 (h x (.head _)) ?_; intro k zq0; subst zq0)
    show (true && flatL (l.map fun x => ftP x i)) = true
    rw [ih fun y hy => h y (.tail _ hy)]; rfl
theorem flatMap_one' {α β : Type} {g : α → β} {l : List α} : (l.flatMap fun x => [g x]) = l.map g := by
  induction l with
  | nil => rfl
  | cons a l ih => rw [List.flatMap_cons, ih]; rfl
theorem lf_end {m : Nat} {P : Reg} {R : Fl → St → Prop} {a0 a1 a2 : Slot} {f : List PV} {a4 a5 a7 a8 a9 a10 a11 a13 : Slot} {i : Nat} {W : List PV} (hW : ∀ x ∈ W, ∃ k, x = .sym k) (hwl : W.length < 100) (hfl : f.length < 1000)
    (hR : R .nx ⟨[a0, a1, a2, .ow (.list (f ++ W.map fun x => ftP x i)), a4, a5, .fz (.int i), a7, a8, a9, a10, a11, .ow (.list W), a13, .un, .un, .un, .un, .un, .un, .un], P⟩) :
    wSs (WP (m + 60)).ex [.ext 3 (.comp1 (.tup [(.var 20), (.var 6)]) (.one 20) .val (.var 12) Option.none [20])] ⟨[a0, a1, a2, .ow (.list f), a4, a5, .fz (.int i), a7, a8, a9, a10, a11, .ow (.list W), a13, .un, .un, .un, .un, .un, .un, .un], P⟩ R := by
  refine x_cons (x_ext rfl rfl (r_comp1 (r_var rfl (mk11 _ rfl ?_))))
  refine comp_map (gx := fun x => [ftP x i]) (fun x hx => elt_eq (wp_ok srtF tab _) (mk11 _ rfl ?_)) ?_
  · refine r_tup (by decide) ?_
    k_units
    exact ⟨rfl, rfl⟩
  rw [flatMap_one']
  refine (mk01 (small_of (by rw [List.length_map]; lia)) (mk12 _ rfl ?_ (x_nil hR)))
  rw [flat_ft' hW, small_of (by lia), small_of (by rw [List.length_map]; lia)]; rfl
theorem safe_ones {l : List PV} (h : ∀ x ∈ l, x = .int 1) : (PV.list l).safe 6 = true := safeL_of fun x hx => by rw [h x hx]; rfl
theorem lf_tail {m : Nat} {P : Reg} {R : Fl → St → Prop} {a0 a1 a7 a8 a9 a10 a11 a13 : Slot} {nin : Nat} {seq : Bool} {rows : List Rw} {f : List PV} {ds : List (List (DK × Int))} {kept : List Nat} {i : Nat} {r : Rw} {W : List PV}
    (hr' : rows[i]? = some r) (ro : RwG r) (hnin : nin ≤ 3) (hz : rows.length < 10) (hW : W = rfN nin seq r.ins r.out) (hfl : f.length ≤ 20 + 20 * i) (hdl : ds.length ≤ i) (hkl : kept.length ≤ i) (hff : flatL f = true)
    (hR : ∀ f' ds' kept' a12 a13, (f', ds', kept') = lfStep nin seq rows (f, ds, kept) i → f'.length ≤ 20 + 20 * (i + 1) → ds'.length ≤ i + 1 → kept'.length ≤ i + 1 → flatL f' = true →
      R .nx ⟨[a0, a1, .fz (.list (rows.map Rw.P)), .ow (.list f'), .ow (.list (ds'.map PV.dict)), .ow (.list (idx kept')), .fz (.int i), a7, a8, a9, a10, a11, a12, a13, .un, .un, .un, .un, .un, .un, .un], P⟩) :
    wSs (WP (m + 160)).ex [.ite (.cmp 0 (.var 12) (.list [])) [.asgF 13 (.call 19 [(.sub (.var 2) (.var 6))]),
    .ite (.cmp 1 (.comp2 (.int 1) (.one 18) .val (.var 4) (.one 19) .val (.var 13) (some (.and (.cmp 4 (.var 19) (.var 18)) (.cmp 1 (.sub (.var 18) (.var 19)) (.sub (.var 13) (.var 19))))) [18, 19]) (.list [])) [.app 12 (.sym 18)] [.app 5 (.var 6)],
    .appF 4 (.var 13)] [],
    .ext 3 (.comp1 (.tup [(.var 20), (.var 6)]) (.one 20) .val (.var 12) Option.none [20])]
      ⟨[a0, a1, .fz (.list (rows.map Rw.P)), .ow (.list f), .ow (.list (ds.map PV.dict)), .ow (.list (idx kept)), .fz (.int i), a7, a8, a9, a10, a11, .ow (.list W), a13, .un, .un, .un, .un, .un, .un, .un], P⟩ R := by
  have hi : i < rows.length := (List.getElem?_eq_some_iff.mp hr').1
  have hl10 := ro.len
  have hrl : (rows.map Rw.P).length = rows.length := List.length_map ..
  have hrP : (rows.map Rw.P)[i]? = some r.P := by rw [List.getElem?_map, hr']; rfl
  have hrf := rf_len (nin := nin) (seq := seq) (ins := r.ins) (out := r.out)
  have hstep : lfStep nin seq rows (f, ds, kept) i = if (rfN nin seq r.ins r.out).isEmpty = true then
      (if (ds.any fun o => confl o (dictN r)) = true then (f ++ [ftP (.sym 18) i], ds ++ [dictN r], kept) else (f, ds ++ [dictN r], kept ++ [i]))
    else (f ++ (rfN nin seq r.ins r.out).map fun x => ftP x i, ds, kept) := by
    unfold lfStep; rw [hr']
  subst hW
  refine x_cons (x_ite (t_cmp (r_cmp (r_var rfl (r_list (by decide) (rs_nil (exb (cmp0_nil rf_safe) (bo ?_))))))))
  refine mb (fun h => ?_) fun h => ?_
  · have hnil : rfN nin seq r.ins r.out = [] := List.isEmpty_iff.mp h
    have hlen := rf_nil hnil
    rw [h] at hstep
    rw [hnil]
    have hdn := dict_len ro.syms (by lia) ro.st
    refine x_cons (x_asgF ?_)
    k_units
    refine exv (sub_list (by rw [hrl]; lia) hrP) ?_
    k_units
    refine r_fn (fn_st _ _ ro.syms (by lia) ro.st ro.out) ?_
    refine x_cons (x_ite (t_cmp (r_cmp (r_comp2 (r_var rfl (mk11 _ rfl ?_))))))
    refine comp_confl (fun v w => (mk03 rfl rfl rfl rfl)) fun l hl1 hle hll => ⟨small_of ?_, r_list (by decide) (rs_nil (exb (cmp1_nil (safe_ones hl1)) (bo ?_)))⟩
    · have : ds.length * (dictN r).length ≤ 10 * 1296 := Nat.mul_le_mul (by lia) hdn
      lia
    rw [hle, Bool.not_not]
    have hdm : ds.map PV.dict ++ [PV.dict (dictN r)] = (ds ++ [dictN r]).map PV.dict := by simp
    refine mb (fun hc => ?_) fun hc => ?_
    · rw [hc] at hstep
      simp only [if_true] at hstep
      refine x_cons (x_app rfl (r_sym (by decide) ⟨rfl, x_nil ?_⟩))
      refine x_cons (x_appF rfl (r_var rfl ⟨small_of (by rw [List.length_map]; lia), x_nil ?_⟩))
      rw [hdm]
      refine lf_end (W := [.sym 18]) (fun x hx => ⟨18, by simpa using hx⟩) (by decide) (by lia) ?_
      exact hR _ _ _ _ _ hstep.symm (by simp; lia) (by simp; lia) (by lia) (flat_app hff rfl)
    · rw [hc] at hstep
      simp only [if_true, Bool.false_eq_true, if_false] at hstep
      refine x_cons (x_app rfl (r_var rfl ⟨by rw [small_of (l := idx kept) (by simp [idx]; lia)]; rfl, x_nil ?_⟩))
      refine x_cons (x_appF rfl (r_var rfl ⟨small_of (by rw [List.length_map]; lia), x_nil ?_⟩))
      rw [hdm]
      have hix : idx kept ++ [PV.int (i : Int)] = idx (kept ++ [i]) := by simp [idx]
      rw [hix]
      refine lf_end (W := []) (fun x hx => nomatch hx) (by decide) (by lia) ?_
      rw [List.map_nil, List.append_nil]
      exact hR _ _ _ _ _ hstep.symm (by lia) (by simp; lia) (by simp; lia) hff
  · rw [h] at hstep
    simp only [Bool.false_eq_true, if_false] at hstep
    refine x_nil ?_
    refine lf_end (fun x hx => rf_flat x hx) (by lia) (by lia) ?_
    exact hR _ _ _ _ _ hstep.symm (by rw [List.length_append, List.length_map]; lia) (by lia) (by lia) (flat_app hff (flat_ft' fun x hx => rf_flat x hx))
end Mine
end
section
open PySem PySem.W PyProof.Rows
set_option Elab.async false
set_option maxRecDepth 100000
set_option maxHeartbeats 1600000
namespace Mine
theorem fn_lf (m : Nat) (P : Reg) {names : List PV} {seq : Bool} {rows : List Rw} {srt : List PV} (hr : ∀ r ∈ rows, RwG r) (hn : ∀ x ∈ names, x ∈ nmL) (hn1 : 1 ≤ names.length) (hn4 : names.length ≤ 4) (hz : rows.length < 10) (hs : srtF (lfN names seq rows).1 = some srt) :
    (LV (m + 200)).fn 20 [.list names, .bool seq, .list (rows.map Rw.P)] P = some (.tup [.list srt, .list (idx (lfN names seq rows).2.2)], P) := by
  have hrl : (rows.map Rw.P).length = rows.length := List.length_map ..
  refine fn_go (d := f_law_faults) rfl rfl ?_
  dsimp only [f_law_faults, b_law_faults, List.map_cons, List.map_nil, List.replicate, List.cons_append, List.nil_append, Nat.reduceSub]
  refine x_cons (x_own rfl (r_comp1 ?_))
  k_units
  refine exv (len_list (by lia)) ?_
  refine (mk11 _ (range_it (by lia)) ?_)
  refine names_dup hn (by lia) (fun v => ⟨rfl, rfl⟩) ?_
  have hd0 : (dupN [] names).length ≤ 4 := Nat.le_trans dup_len hn4
  refine ⟨small_of (by lia), dup_flat, ?_⟩
  refine x_cons (x_iteApp (v := ftP (.sym 17) (-1)) rfl rfl (small_of (by lia)) (fun P Q h => r_tup (by decide) (rs_cons (r_sym (by decide) (rs_cons (r_neg1 (rs_nil h)))))) rfl ?_)
  refine t_cmp (r_cmp (r_var rfl (r_list (by decide) (rs_nil (exb (cmp0_nil (safe_rows hr)) (bo ?_))))))
  have hre : (rows.map Rw.P).isEmpty = rows.isEmpty := by cases rows <;> rfl
  rw [hre]
  have hc0 : (dupN [] names ++ if rows.isEmpty = true then [ftP (.sym 17) (-1)] else []).length ≤ 5 := by
    rw [List.length_append]
    have : (if rows.isEmpty = true then [ftP (.sym 17) (-1)] else []).length ≤ 1 := by split <;> simp
    lia
  refine x_cons (x_own rfl (r_list (by decide) (rs_nil ⟨rfl, ?_⟩)))
  refine x_cons (x_own rfl (r_list (by decide) (rs_nil ⟨rfl, ?_⟩)))
  refine x_cons (x_for ?_)
  k_units
  refine exv (len_list (by rw [hrl]; lia)) ?_
  refine (mk11 _ (range_it (by rw [hrl]; lia)) ?_)
  rw [hrl]
  refine loop_ab (fun i σ => ∃ f ds kept s6 s7 s8 s9 s10 s11 s12 s13, σ = ⟨[.fz (.list names), .fz (.bool seq), .fz (.list (rows.map Rw.P)), .ow (.list f), .ow (.list (ds.map PV.dict)), .ow (.list (idx kept)), s6, s7, s8, s9, s10, s11, s12, s13, .un, .un, .un, .un, .un, .un, .un], P⟩ ∧
    (f, ds, kept) = (List.range i).foldl (lfStep (names.length - 1) seq rows) (dupN [] names ++ (if rows.isEmpty = true then [ftP (.sym 17) (-1)] else []), [], []) ∧ f.length ≤ 20 + 20 * i ∧ ds.length ≤ i ∧ kept.length ≤ i ∧ flatL f = true) (mk40 _ ([]) ([]) _ (mk40 _ _ _ _ (mk34 _ _ _ rfl rfl (by lia) (Nat.le_refl _) (mk01 (Nat.le_refl _) ?_)))) (fun I hin i x σ hx hI => ?_) (fun σ hI => ?_)
  · split
    · rw [flat_snoc, dup_flat]; rfl
    · rw [List.append_nil]; exact dup_flat
  · (refine el01 (range_at hx) ?_; intro hi zq0; subst zq0)
    (refine el40 hI ?_; try clear hI; intro f ds kept s6 zr1; refine el40 zr1 ?_; clear zr1; intro s7 s8 s9 s10 zr2; refine el34 zr2 ?_; clear zr2; intro s11 s12 s13 zq0 hf hfl hdl zr3; refine el01 zr3 ?_; clear zr3; intro hkl hff; subst zq0)
    (refine el11 (get_lt (l := rows) hi) ?_; intro r hr' hrm)
    have hrP : (rows.map Rw.P)[i]? = some r.P := by rw [List.getElem?_map, hr']; rfl
    have ro := hr r hrm
    have hstep := range_foldl (f := lfStep (names.length - 1) seq rows) (b := (dupN [] names ++ (if rows.isEmpty = true then [ftP (.sym 17) (-1)] else []), [], [])) (i := i)
    rw [← hf] at hstep
    have hsy := ro.syms
    have hl10 := ro.len
    have hout := ro.out
    refine (mk11 _ rfl ?_)
    refine x_cons (x_unp ?_)
    k_units
    refine exv (sub_list (by rw [hrl]; lia) hrP) ?_
    refine (mk22 _ _ rfl rfl ?_)
    refine x_cons (x_asgF (r_comp1 ?_))
    k_units
    refine (mk11 _ rfl ?_)
    refine comp_map (gx := fun s => [chP s]) (fun s hs => elt_eq (wp_ok srtF tab _) (mk11 _ rfl (r_call (rs_cons (r_var rfl (rs_nil (r_fn (fn_ch _ _ s (hsy s hs)) ⟨rfl, rfl⟩))))))) ?_
    rw [flatMap_one]
    refine ⟨small_of (by rw [List.length_map]; lia), ?_⟩
    refine x_cons (x_asgF (r_comp1 ?_))
    k_units
    refine (mk11 _ rfl ?_)
    refine comp_many (enc := chP) (g := fun s => if isE s = true then [chP s] else []) (fun s hs => elt_eq (wp_ok srtF tab _) (mk11 _ rfl ?_)) ?_
    · refine t_notNone (r_notNone (r_var rfl (bo ?_)))
      rw [ch_none s (hsy s hs), Bool.not_not]
      cases isE s with
      | true => exact r_var rfl ⟨rfl, rfl⟩
      | false => exact ⟨rfl, rfl⟩
    rw [flatMap_ed]
    have hel : (edP r.ins).length ≤ r.ins.length := by rw [ed_len]; exact List.countP_le_length
    refine ⟨small_of (by lia), ?_⟩
    refine x_cons (x_own rfl (r_list (by decide) (rs_nil ⟨rfl, ?_⟩)))
    refine x_cons (x_iteApp (v := .sym 19) rfl rfl rfl (fun P Q h => r_sym (by decide) h) rfl ?_)
    k_units
    refine exv (len_tup (by lia)) ?_
    k_units
    refine exv (len_list (by lia)) ?_
    (repeat k_types)
    have hnin : decide ((r.ins.length : Int) = (names.length : Int) - 1) = decide ((r.ins.length : Int) = ((names.length - 1 : Nat) : Int)) := by
      congr 1
      apply propext
      lia
    have hW : (((([] ++ if (!decide ((r.ins.length : Int) = (names.length : Int) - 1)) = true then [PV.sym 19] else []) ++ if (seq && decide (((edP r.ins).length : Int) > 1)) = true then [PV.sym 20] else []) ++ if (!seq && !(edP r.ins).isEmpty) = true then [PV.sym 21] else []) ++ if (!seq && r.out.eq (.sym 11)) = true then [PV.sym 22] else []) ++ (r.ins.filter emp).map (fun _ => PV.sym 23) = rfN (names.length - 1) seq r.ins r.out := by
      rw [← rf_same, hnin, ed_empty, ed_len]; rfl
    have z0 : ([] : List PV).length ≤ 0 := Nat.le_refl _
    refine x_cons (x_iteApp (v := .sym 20) (l := ?hL0) ?hA0 rfl ?hB0 (fun P Q h => r_sym (by decide) h) ?hC0 ?_)
    case hA0 => rfl
    case hB0 => exact small_of (Nat.lt_of_le_of_lt (len_if z0) (by decide))
    case hC0 => rfl
    refine t_andV rfl (t_cmp (r_cmp (r_len (r_var rfl (exv (len_list (by lia)) (r_int (exb rfl (bo ⟨rfl, rfl⟩)))))))) ?_
    refine x_cons (x_iteApp (v := .sym 21) (l := ?hL1) ?hA1 rfl ?hB1 (fun P Q h => r_sym (by decide) h) ?hC1 ?_)
    case hA1 => rfl
    case hB1 => exact small_of (Nat.lt_of_le_of_lt (len_if (len_if z0)) (by decide))
    case hC1 => rfl
    refine t_andN rfl (t_cmp (r_cmp (r_var rfl (r_list (by decide) (rs_nil (exb (cmp1_nil (safe_ed hsy)) (bo ⟨rfl, rfl⟩))))))) ?_
    refine x_cons (x_iteApp (v := .sym 22) (l := ?hL2) ?hA2 rfl ?hB2 (fun P Q h => r_sym (by decide) h) ?hC2 ?_)
    case hA2 => rfl
    case hB2 => exact small_of (Nat.lt_of_le_of_lt (len_if (len_if (len_if z0))) (by decide))
    case hC2 => rfl
    refine t_andN rfl (t_cmp (r_cmp (r_var rfl (r_sym (by decide) (exb (out_eq r.out hout) (bo ⟨rfl, rfl⟩)))))) ?_
    refine x_cons (x_ext rfl rfl (r_comp1 (r_var rfl (mk11 _ rfl ?_))))
    refine comp_many (enc := fun s => .list ((prs s).map prP)) (l := r.ins.filter isE) (g := fun s => if (prs s).isEmpty = true then [PV.sym 23] else []) (fun s hs => elt_eq (wp_ok srtF tab _) (mk11 _ rfl ?_)) ?_
    · refine t_cmp (r_cmp (r_var rfl (r_list (by decide) (rs_nil (exb (prs_list s (hsy s (List.mem_filter.mp hs).1)) (bo ?_))))))
      cases (prs s).isEmpty with
      | true => exact r_sym (by decide) ⟨rfl, rfl⟩
      | false => exact ⟨rfl, rfl⟩
    rw [flatMap_emp]
    have hem : ((r.ins.filter emp).map fun _ => PV.sym 23).length ≤ r.ins.length := by rw [List.length_map]; exact List.length_filter_le ..
    have hemf : flatL ((r.ins.filter emp).map fun _ => PV.sym 23) = true := by
      have : ∀ l : List PV, flatL (l.map fun _ => PV.sym 23) = true := fun l => by
        induction l with
        | nil => rfl
        | cons x l ih => show (true && flatL (l.map fun _ => PV.sym 23)) = true; rw [ih]; rfl
      exact this _
    refine (mk01 (small_of (by lia)) (mk12 _ rfl ?_ ?_))
    · rw [hemf, small_of (Nat.lt_of_le_of_lt (len_if (len_if (len_if (len_if z0)))) (by decide)), small_of (by lia)]; rfl
    refine lf_tail hr' ro (by lia) hz hW hfl hdl hkl hff fun f' ds' kept' a12 a13 e b1 b2 b3 b4 => ?_
    exact hin _ _ (mk40 f' ds' kept' _ (mk40 _ _ _ _ (mk34 _ _ _ rfl (e.trans hstep.symm) b1 b2 (mk01 b3 b4))))
  · (refine el40 hI ?_; try clear hI; intro f ds kept s6 zr1; refine el40 zr1 ?_; clear zr1; intro s7 s8 s9 s10 zr2; refine el34 zr2 ?_; clear zr2; intro s11 s12 s13 zq0 hf hfl hdl zr3; refine el01 zr3 ?_; clear zr3; intro hkl hff; subst zq0)
    rw [range_len] at hf
    have hf' : lfN names seq rows = (f, ds, kept) := hf.symm
    rw [hf'] at hs ⊢
    refine x_cons (x_ret (r_tup (by decide) (rs_cons (r_sorted (r_var rfl (mk22 _ _ rfl hs ?_))))))
    k_units
    exact ⟨rfl, rfl⟩
end Mine
end
section
open PySem PySem.W PyProof.Rows
set_option Elab.async false
set_option maxRecDepth 100000
namespace Mine
theorem dget_nil (k : DK) : dget [] k = none := rfl
theorem dget_cons {x : DK × Int} {d : List (DK × Int)} {k : DK} : dget (x :: d) k = if x.1 = k then some x.2 else dget d k := by
  unfold dget
  rw [List.find?_cons]
  by_cases h : x.1 = k
  · simp [h]
  · simp [h]
theorem dget_app {d e : List (DK × Int)} {k : DK} : dget (d ++ e) k = (dget d k).or (dget e k) := by
  induction d with
  | nil => simp [dget_nil]
  | cons x d ih =>
    rw [List.cons_append, dget_cons, dget_cons, ih]
    split <;> simp
theorem dget_map {d : List (DK × Int)} {k j : DK} {v : Int} : dget (d.map fun x => if x.1 = k then (x.1, v) else x) j = if k = j then (dget d j).map (fun _ => v) else dget d j := by
  induction d with
  | nil => simp [dget_nil]
  | cons x d ih =>
    rw [List.map_cons, dget_cons, dget_cons, ih]
    by_cases h1 : x.1 = k <;> by_cases h2 : k = j <;> by_cases h3 : x.1 = j
    all_goals simp_all
theorem dget_dput {d : List (DK × Int)} {k j : DK} {v : Int} : dget (dput d k v) j = if k = j then some v else dget d j := by
  unfold dput
  split
  · rename_i h
    rw [dget_map]
    by_cases e : k = j
    · subst e
      (refine el10 (Option.isSome_iff_exists.mp h) ?_; intro w hw)
      simp [hw]
    · simp [e]
  · rename_i h
    have hn : dget d k = none := by
      cases q : dget d k with
      | none => rfl
      | some w => rw [q] at h; exact absurd rfl h
    rw [dget_app, dget_cons, dget_nil]
    by_cases e : k = j
    · subst e; simp [hn]
    · simp [e]
theorem dget_putAll {out : PV} {h : Int} : ∀ {ws : List Way} {d : List (DK × Int)} {j : DK}, dget (putAll out h ws d) j = if (j.1, j.2.1, j.2.2.1) ∈ ws ∧ j.2.2.2 = h then some (outv out h) else dget d j
  | [], d, j => by simp [putAll]
  | w :: ws, d, j => by
    have e : putAll out h (w :: ws) d = putAll out h ws (dput d (w.1, w.2.1, w.2.2, h) (outv out h)) := rfl
    rw [e, dget_putAll, dget_dput]
    obtain ⟨a, o, n, hh⟩ := j
    obtain ⟨a', o', n'⟩ := w
    by_cases h1 : hh = h
    · subst h1
      by_cases h2 : (a, o, n) ∈ ws
      · simp [h2]
      · by_cases h3 : (a, o, n) = (a', o', n')
        · cases h3; simp
        · have h4 : ¬ ((a', o', n', hh) : DK) = (a, o, n, hh) := fun q => h3 (by cases q; rfl)
          simp [h2, h3, h4]
    · have h4 : ¬ ((a', o', n', h) : DK) = (a, o, n, hh) := fun q => h1 (by cases q; rfl)
      simp [h1, h4]
theorem dget_dict {r : Rw} {j : DK} : dget (dictN r) j = if (j.1, j.2.1, j.2.2.1) ∈ waysN r.ins ∧ j.2.2.2 ∈ heldN r.st then some (outv r.out j.2.2.2) else none := by
  have key : ∀ (hs : List Int) (d : List (DK × Int)), dget (hs.foldl (fun d h => putAll r.out h (waysN r.ins) d) d) j = if (j.1, j.2.1, j.2.2.1) ∈ waysN r.ins ∧ j.2.2.2 ∈ hs then some (outv r.out j.2.2.2) else dget d j := by
    intro hs
    induction hs with
    | nil => intro d; simp
    | cons a hs ih =>
      intro d
      rw [List.foldl_cons, ih, dget_putAll]
      by_cases h1 : (j.1, j.2.1, j.2.2.1) ∈ waysN r.ins
      · by_cases h2 : j.2.2.2 ∈ hs
        · simp [h1, h2]
        · by_cases h3 : j.2.2.2 = a
          · simp [h1, h3]
          · simp [h1, h2, h3]
      · simp [h1]
  have := key (heldN r.st) []
  rw [dget_nil] at this
  exact this
end Mine
end
section
open PySem PySem.W PyProof.Rows
set_option Elab.async false
set_option maxRecDepth 100000
namespace Mine
theorem ways_snoc {ins : List PV} {s : PV} : waysN (ins ++ [s]) = waysStep (waysN ins) ins.length s := by
  unfold waysN
  rw [List.length_append, List.length_singleton, range_foldl]
  have h1 : (ins ++ [s]).getD ins.length .none = s := by rw [List.getD_eq_getElem?_getD]; simp
  rw [h1]
  congr 1
  have key : ∀ i, i ≤ ins.length → (List.range i).foldl (fun ws i => waysStep ws i ((ins ++ [s]).getD i .none)) [(-1, -1, [])] = (List.range i).foldl (fun ws i => waysStep ws i (ins.getD i .none)) [(-1, -1, [])] := by
    intro i
    induction i with
    | zero => intro _; rfl
    | succ i ih =>
      intro hi
      rw [range_foldl, range_foldl, ih (by lia)]
      congr 1
      rw [List.getD_eq_getElem?_getD, List.getD_eq_getElem?_getD, List.getElem?_append_left (by lia)]
  exact key _ (Nat.le_refl _)
noncomputable def okL (ins : List PV) (now : List Int) : Prop := now.length = ins.length ∧ ∀ (i : Nat) (s : PV) (c : Int), ins[i]? = some s → now[i]? = some c → isE s = false → c ∈ lvl s
theorem getS {α : Type} {l : List α} {x y : α} {e : Nat} : (l ++ [x])[e]? = some y ↔ l[e]? = some y ∨ (e = l.length ∧ y = x) := by
  rw [List.getElem?_append]
  split
  · rename_i h
    exact ⟨.inl, fun q => q.elim id fun q => absurd q.1 (Nat.ne_of_lt h)⟩
  · rename_i h
    constructor
    · intro q
      have h1 : e - l.length < 1 := (List.getElem?_eq_some_iff.mp q).1
      obtain rfl : e = l.length := Nat.le_antisymm (Nat.sub_eq_zero_iff_le.mp (Nat.lt_one_iff.mp h1)) (Nat.le_of_not_lt h)
      rw [Nat.sub_self] at q
      exact .inr ⟨rfl, (Option.some.inj q).symm⟩
    · rintro (q | ⟨rfl, rfl⟩)
      · exact absurd (List.getElem?_eq_some_iff.mp q).1 h
      · rw [Nat.sub_self]; rfl
theorem get_end {α : Type} {l : List α} {x : α} {n : Nat} {P : Prop} (h : l[n]? = some x) (e : n = l.length) : P := absurd (List.getElem?_eq_some_iff.mp h).1 (by rw [e]; exact Nat.lt_irrefl _)
theorem okL_snoc {ins : List PV} {s : PV} {now : List Int} : okL (ins ++ [s]) now ↔ ∃ now' c, now = now' ++ [c] ∧ okL ins now' ∧ (isE s = false → c ∈ lvl s) := by
  constructor
  · rintro ⟨hl, h⟩
    rcases List.eq_nil_or_concat now with rfl | ⟨now', c, rfl⟩
    · rw [List.length_append] at hl; exact nomatch hl
    · rw [List.concat_eq_append] at hl h ⊢
      rw [List.length_append, List.length_append] at hl
      have hl := Nat.succ.inj hl
      exact mk22 now' c rfl ⟨hl, fun i t d h1 h2 h3 => h i t d (getS.mpr (.inl h1)) (getS.mpr (.inl h2)) h3⟩ fun hs => h ins.length s c (getS.mpr (.inr ⟨rfl, rfl⟩)) (getS.mpr (.inr ⟨hl.symm, rfl⟩)) hs
  · rintro ⟨now', c, rfl, ⟨hl, h⟩, hs⟩
    refine ⟨by rw [List.length_append, List.length_append, hl]; rfl, fun i t d h1 h2 h3 => ?_⟩
    rcases getS.mp h1 with h1 | ⟨rfl, rfl⟩
    · rcases getS.mp h2 with h2 | ⟨e2, _⟩
      · exact h i t d h1 h2 h3
      · exact get_end h1 (e2.trans hl)
    · rcases getS.mp h2 with h2 | ⟨_, rfl⟩
      · exact get_end h2 hl.symm
      · exact hs h3
noncomputable def wayW (ins : List PV) (a o : Int) (now : List Int) : Prop := (ins.countP isE = 0 ∧ a = -1 ∧ o = -1) ∨ ∃ (e : Nat) (s : PV) (c : Int), ins[e]? = some s ∧ isE s = true ∧ a = e ∧ now[e]? = some c ∧ (o, c) ∈ prs s
theorem mem_step_t {ins : List PV} {s : PV} (hs : isE s = true) (h0 : ins.countP isE = 0) (ih : ∀ {a o : Int} {now : List Int}, (a, o, now) ∈ waysN ins ↔ okL ins now ∧ wayW ins a o now) {a o : Int} {now : List Int} :
    (a, o, now) ∈ waysN (ins ++ [s]) ↔ okL (ins ++ [s]) now ∧ wayW (ins ++ [s]) a o now := by
  rw [ways_snoc, okL_snoc]
  unfold waysStep
  rw [if_pos hs, List.mem_flatMap]
  constructor
  · rintro ⟨⟨a', o', now'⟩, hw, hp⟩
    (refine el11 (List.mem_map.mp hp) ?_; clear hp; intro p hp e)
    cases e
    have q := (ih.mp hw).1
    exact ⟨mk22 now' p.2 rfl q (fun h => by rw [hs] at h; exact ff_ h.symm), .inr (mk34 ins.length s p.2 (getS.mpr (.inr ⟨rfl, rfl⟩)) hs rfl (getS.mpr (.inr ⟨q.1.symm, rfl⟩)) hp)⟩
  · rintro ⟨⟨now', c, rfl, hok, _⟩, h⟩
    rcases h with ⟨h, _⟩ | ⟨e, t, d, h2, h3, rfl, h4, h5⟩
    · exact absurd hs (List.countP_eq_zero.mp h s (List.mem_append_right _ (.head _)))
    · rcases getS.mp h2 with h2 | ⟨rfl, rfl⟩
      · exact absurd h3 (List.countP_eq_zero.mp h0 t (List.mem_of_getElem? h2))
      · rcases getS.mp h4 with h4 | ⟨_, rfl⟩
        · exact get_end h4 hok.1.symm
        · exact mk11 (-1, -1, now') (ih.mpr ⟨hok, .inl ⟨h0, rfl, rfl⟩⟩) (List.mem_map.mpr (mk11 (o, d) h5 rfl))
theorem mem_step_f {ins : List PV} {s : PV} (hs : isE s = false) (ih : ∀ {a o : Int} {now : List Int}, (a, o, now) ∈ waysN ins ↔ okL ins now ∧ wayW ins a o now) {a o : Int} {now : List Int} :
    (a, o, now) ∈ waysN (ins ++ [s]) ↔ okL (ins ++ [s]) now ∧ wayW (ins ++ [s]) a o now := by
  rw [ways_snoc, okL_snoc]
  unfold waysStep
  rw [if_neg (by rw [hs]; exact Bool.false_ne_true), List.mem_flatMap]
  have hc : (ins ++ [s]).countP isE = ins.countP isE := by rw [List.countP_append]; simp [hs]
  constructor
  · rintro ⟨⟨a', o', now'⟩, hw, hn⟩
    (refine el11 (List.mem_map.mp hn) ?_; clear hn; intro n hn e)
    cases e
    (refine el01 (ih.mp hw) ?_; intro hok h)
    refine ⟨mk22 now' n rfl hok (fun _ => hn), h.imp (fun q => ⟨hc.trans q.1, q.2⟩) ?_⟩
    rintro ⟨e, t, d, h2, h3, rfl, h4, h5⟩
    exact mk34 e t d (getS.mpr (.inl h2)) h3 rfl (getS.mpr (.inl h4)) h5
  · rintro ⟨⟨now', c, rfl, hok, hcs⟩, h⟩
    refine mk11 (a, o, now') (ih.mpr ⟨hok, h.imp (fun q => ⟨hc.symm.trans q.1, q.2⟩) ?_⟩) (List.mem_map.mpr (mk11 c (hcs hs) rfl))
    rintro ⟨e, t, d, h2, h3, rfl, h4, h5⟩
    rcases getS.mp h2 with h2 | ⟨rfl, rfl⟩
    · rcases getS.mp h4 with h4 | ⟨e4, _⟩
      · exact mk34 e t d h2 h3 rfl h4 h5
      · exact get_end h2 (e4.trans hok.1)
    · rw [hs] at h3; exact ff_ h3
theorem mem_nil {a o : Int} {now : List Int} : (a, o, now) ∈ waysN [] ↔ okL [] now ∧ wayW [] a o now := by
  constructor
  · intro h
    have : (a, o, now) = ((-1, -1, []) : Way) := by simpa [waysN] using h
    cases this
    exact ⟨⟨rfl, fun i s c h => by simp at h⟩, .inl ⟨rfl, rfl, rfl⟩⟩
  · rintro ⟨⟨hl, _⟩, h⟩
    obtain rfl := List.length_eq_zero_iff.mp hl
    rcases h with ⟨_, rfl, rfl⟩ | ⟨e, s, c, h, _⟩
    · exact .head _
    · simp at h
theorem mem_ways (k : Nat) : ∀ {ins : List PV}, ins.length = k → ins.countP isE ≤ 1 → ∀ {a o : Int} {now : List Int}, (a, o, now) ∈ waysN ins ↔
    okL ins now ∧ ((ins.countP isE = 0 ∧ a = -1 ∧ o = -1) ∨ ∃ (e : Nat) (s : PV) (c : Int), ins[e]? = some s ∧ isE s = true ∧ a = e ∧ now[e]? = some c ∧ (o, c) ∈ prs s) := by
  induction k with
  | zero => intro ins hk _ a o now; obtain rfl := List.length_eq_zero_iff.mp hk; exact mem_nil
  | succ k ih =>
    intro ins hk hc a o now
    rcases List.eq_nil_or_concat ins with rfl | ⟨ins', s, rfl⟩
    · exact nomatch hk
    rw [List.concat_eq_append] at hk hc ⊢
    rw [List.length_append] at hk
    rw [List.countP_append] at hc
    cases hs : isE s with
    | true =>
      have h1 : List.countP isE [s] = 1 := by simp [hs]
      rw [h1] at hc
      exact mem_step_t hs (Nat.le_zero.mp (Nat.le_of_succ_le_succ hc)) (ih (Nat.succ.inj hk) (Nat.le_trans (Nat.le_add_right _ _) hc))
    | false => exact mem_step_f hs (ih (Nat.succ.inj hk) (Nat.le_trans (Nat.le_add_right _ _) hc))
end Mine
end
section
open PySem PySem.W PyProof.Rows
set_option Elab.async false
set_option maxRecDepth 100000
namespace Mine
theorem dget_in {d : List (DK × Int)} {k : DK} {v : Int} (h : dget d k = some v) : ∃ x ∈ d, x.1 = k := by
  unfold dget at h
  cases e : d.find? fun x => decide (x.1 = k) with
  | none => rw [e] at h; cases h
  | some x => exact (mk11 x (List.mem_of_find?_eq_some e) (of_decide_eq_true (List.find?_some (p := fun x : DK × Int => decide (x.1 = k)) e)))
theorem confl_iff {u v : Rw} : confl (dictN u) (dictN v) = true ↔ (∃ w, w ∈ waysN u.ins ∧ w ∈ waysN v.ins) ∧ ∃ h, h ∈ heldN u.st ∧ h ∈ heldN v.st ∧ outv u.out h ≠ outv v.out h := by
  unfold confl
  rw [List.any_eq_true]
  constructor
  · rintro ⟨x, hx, h⟩
    have h1 := dget_dict (r := u) (j := x.1)
    have h2 := dget_dict (r := v) (j := x.1)
    (refine el22 (cfl_el h) ?_; intro a b ha hb hne)
    · rw [ha] at h1
      rw [hb] at h2
      split at h1
      · rename_i c1
        split at h2
        · rename_i c2
          have e1 := Option.some.inj h1
          have e2 := Option.some.inj h2
          refine (mk01 (mk11 _ c1.1 c2.1) (mk12 _ c1.2 c2.2 ?_))
          rw [← e1, ← e2]
          exact hne
        · cases h2
      · cases h1
  · rintro ⟨⟨⟨a, o, n⟩, w1, w2⟩, h, h1, h2, hne⟩
    have e1 : dget (dictN u) (a, o, n, h) = some (outv u.out h) := by rw [dget_dict, if_pos ⟨w1, h1⟩]
    have e2 : dget (dictN v) (a, o, n, h) = some (outv v.out h) := by rw [dget_dict, if_pos ⟨w2, h2⟩]
    (refine el11 (dget_in e2) ?_; intro x hx hk)
    refine (mk11 x hx ?_)
    rw [hk, e1, e2]
    exact cfl_ne hne
structure Snd (c : Nat) (seq : Bool) (r : Rw) : Prop where
  g : RwG r
  len : r.ins.length = c
  one : r.ins.countP isE ≤ 1
  full : ∀ s ∈ r.ins, isE s = true → prs s ≠ []
  seqT : seq = true → r.st ∈ levs
  seqF : seq = false → r.st = .none ∧ r.out ≠ .sym 11 ∧ r.ins.countP isE = 0
theorem state_iff {c : Nat} {seq : Bool} {u v : Rw} (hu : Snd c seq u) (hv : Snd c seq v) : (∃ h, h ∈ heldN u.st ∧ h ∈ heldN v.st ∧ outv u.out h ≠ outv v.out h) ↔
    (if (u.st.isNone || v.st.isNone) = true then !u.out.eq v.out else (lvl u.st).any fun x => (lvl v.st).contains x && !decide (outv u.out x = outv v.out x)) = true := by
  cases seq with
  | true =>
    have h1 := levs_not _ (hu.seqT rfl)
    have h2 := levs_not _ (hv.seqT rfl)
    have e1 : heldN u.st = lvl u.st := by unfold heldN; rw [h1]; rfl
    have e2 : heldN v.st = lvl v.st := by unfold heldN; rw [h2]; rfl
    rw [e1, e2, h1, h2]
    simp [and_assoc]
  | false =>
    (refine el02 (hu.seqF rfl) ?_; intro h1 h2 _)
    (refine el02 (hv.seqF rfl) ?_; intro h3 h4 _)
    have o1 := hu.g.out
    have o2 := hv.g.out
    rw [h1, h3]
    generalize u.out = a at *
    generalize v.out = b at *
    have key : decide (outv a 3 = outv b 3) = a.eq b := by
      simp only [outs, List.mem_cons, List.not_mem_nil, or_false] at o1 o2
      rcases o1 with rfl | rfl | rfl | rfl <;> rcases o2 with rfl | rfl | rfl | rfl <;> first | rfl | exact absurd rfl h2 | exact absurd rfl h4
    show _ ↔ (!a.eq b) = true
    rw [← key, Bool.not_eq_true', decide_eq_false_iff_not]
    refine ⟨fun h => el12 h fun x hx _ hn => ?_, fun h => ⟨3, .head _, .head _, h⟩⟩
    rw [List.mem_singleton.mp hx] at hn
    exact hn
end Mine
end
section
open PySem PySem.W PyProof.Rows
set_option Elab.async false
set_option maxRecDepth 100000
namespace Mine
theorem two_edges {ins : List PV} {i j : Nat} {s t : PV} (hij : i < j) (h1 : ins[i]? = some s) (h2 : ins[j]? = some t) (e1 : isE s = true) (e2 : isE t = true) : 2 ≤ ins.countP isE := by
  rw [← List.take_append_drop j ins, List.countP_append]
  have a : 0 < (ins.take j).countP isE := List.countP_pos_iff.mpr (mk11 s (List.mem_of_getElem? (i := i) (by rw [List.getElem?_take]; simp [hij, h1])) e1)
  have b : 0 < (ins.drop j).countP isE := List.countP_pos_iff.mpr (mk11 t (List.mem_of_getElem? (i := 0) (by rw [List.getElem?_drop]; simpa using h2)) e2)
  lia
theorem one_edge {ins : List PV} {i j : Nat} {s t : PV} (hc : ins.countP isE ≤ 1) (h1 : ins[i]? = some s) (h2 : ins[j]? = some t) (e1 : isE s = true) (e2 : isE t = true) : i = j := by
  rcases Nat.lt_trichotomy i j with h | h | h
  · have := two_edges h h1 h2 e1 e2; lia
  · exact h
  · have := two_edges h h2 h1 e2 e1; lia
theorem ep_none {ins : List PV} (h : ins.countP isE = 0) : epN ins = -1 := by
  have : (List.range ins.length).find? (isAt ins) = none := List.find?_eq_none.mpr fun j hj => by
    (refine el11 (get_lt (l := ins) (i := j) (List.mem_range.mp hj)) ?_; intro s hs hm)
    have := List.countP_eq_zero.mp h s hm
    simp [isAt, hs, this]
  simp [epN, this]
theorem ep_some {ins : List PV} {e : Nat} {s : PV} (hc : ins.countP isE ≤ 1) (h : ins[e]? = some s) (hs : isE s = true) : epN ins = e := by
  have : (List.range ins.length).find? (isAt ins) = some e := List.find?_range_eq_some.mpr ⟨by simp [isAt, h, hs], List.mem_range.mpr (List.getElem?_eq_some_iff.mp h).1, fun j hj => by
    have hl : j < ins.length := Nat.lt_trans hj (List.getElem?_eq_some_iff.mp h).1
    (refine el11 (get_lt hl) ?_; intro t ht _)
    cases q : isE t with
    | false => simp [isAt, ht, q]
    | true => have := one_edge hc ht h q hs; lia⟩
  simp [epN, this]
theorem edge_or {ins : List PV} (hc : ins.countP isE ≤ 1) : ins.countP isE = 0 ∨ ∃ (e : Nat) (s : PV), ins[e]? = some s ∧ isE s = true := by
  by_cases h : ins.countP isE = 0
  · exact .inl h
  · (refine el11 (List.countP_pos_iff.mp (Nat.pos_of_ne_zero h)) ?_; intro s hm hs)
    (refine el10 (List.getElem?_of_mem hm) ?_; intro e he)
    exact .inr (mk21 e s he hs)
theorem shAll_iff {iu iv : List PV} (hl : iu.length = iv.length) : shAll iu iv = true ↔ ∀ (i : Nat) (a b : PV), iu[i]? = some a → iv[i]? = some b → shAt a b = true := by
  unfold shAll
  rw [List.all_eq_true]
  constructor
  · intro h i a b ha hb
    have := h i (List.mem_range.mpr (List.getElem?_eq_some_iff.mp ha).1)
    simpa only [ha, hb] using this
  · intro h i hi
    have hi' := List.mem_range.mp hi
    (refine el11 (get_lt hi') ?_; intro a ha _)
    (refine el11 (get_lt (l := iv) (i := i) (by lia)) ?_; intro b hb _)
    simp only [ha, hb]
    exact h i a b ha hb
theorem ways_iff {c : Nat} {seq : Bool} {u v : Rw} (hu : Snd c seq u) (hv : Snd c seq v) : (∃ w, w ∈ waysN u.ins ∧ w ∈ waysN v.ins) ↔ epN u.ins = epN v.ins ∧ shAll u.ins v.ins = true := by
  have hl : u.ins.length = v.ins.length := hu.len.trans hv.len.symm
  rw [shAll_iff hl]
  constructor
  · rintro ⟨⟨a, o, now⟩, w1, w2⟩
    (refine el01 ((mem_ways _ rfl hu.one).mp w1) ?_; intro k1 m1)
    (refine el01 ((mem_ways _ rfl hv.one).mp w2) ?_; intro k2 m2)
    have lev : ∀ (i : Nat) (a b : PV), u.ins[i]? = some a → v.ins[i]? = some b → isE a = false → isE b = false → shAt a b = true := by
      intro i a b ha hb h1 h2
      (refine el11 (get_lt (l := now) (i := i) (by rw [k1.1]; exact (List.getElem?_eq_some_iff.mp ha).1)) ?_; intro d hd _)
      have d1 := k1.2 i a d ha hd h1
      have d2 := k2.2 i b d hb hd h2
      unfold shAt
      rw [h1]
      exact List.any_eq_true.mpr (mk11 d d1 (by simpa using d2))
    rcases m1 with ⟨z1, rfl, rfl⟩ | ⟨e, s, d, q1, q2, rfl, q4, q5⟩
    · rcases m2 with ⟨z2, _, _⟩ | ⟨e, s, d, q1, q2, q3, q4, q5⟩
      · refine ⟨by rw [ep_none z1, ep_none z2], fun i a b ha hb => lev i a b ha hb ?_ ?_⟩
        · simpa using List.countP_eq_zero.mp z1 a (List.mem_of_getElem? ha)
        · simpa using List.countP_eq_zero.mp z2 b (List.mem_of_getElem? hb)
      · lia
    · rcases m2 with ⟨z2, q, _⟩ | ⟨e', s', d', r1, r2, r3, r4, r5⟩
      · lia
      · have : e = e' := by lia
        subst this
        rw [q4] at r4
        cases r4
        refine ⟨by rw [ep_some hu.one q1 q2, ep_some hv.one r1 r2], fun i a b ha hb => ?_⟩
        by_cases hi : i = e
        · subst hi
          rw [q1] at ha; cases ha
          rw [r1] at hb; cases hb
          unfold shAt
          rw [q2]
          exact List.any_eq_true.mpr (mk11 (o, d) q5 (by simpa using r5))
        · refine lev i a b ha hb ?_ ?_
          · cases q : isE a with
            | false => rfl
            | true => exact absurd (one_edge hu.one ha q1 q q2) hi
          · cases q : isE b with
            | false => rfl
            | true => exact absurd (one_edge hv.one hb r1 q r2) hi
  · rintro ⟨hep, hsh⟩
    have ex : ∀ i : Nat, ∃ d : Int, ∀ a b, u.ins[i]? = some a → v.ins[i]? = some b → isE a = false → d ∈ lvl a ∧ d ∈ lvl b := by
      intro i
      cases ha : u.ins[i]? with
      | none => exact ⟨0, fun a b h => by cases h⟩
      | some a =>
        cases hb : v.ins[i]? with
        | none => exact ⟨0, fun a b _ h => by cases h⟩
        | some b =>
          cases he : isE a with
          | true => exact ⟨0, fun a' b' h1 _ h => by cases h1; rw [he] at h; cases h⟩
          | false =>
            have := hsh i a b ha hb
            unfold shAt at this
            rw [he] at this
            (refine el11 (List.any_eq_true.mp this) ?_; intro d h1 h2)
            exact ⟨d, fun a' b' q1 q2 _ => by cases q1; cases q2; exact ⟨h1, by simpa using h2⟩⟩
    let f : Nat → Int := fun i => Classical.choose (ex i)
    have hf : ∀ (i : Nat) (a b : PV), u.ins[i]? = some a → v.ins[i]? = some b → isE a = false → f i ∈ lvl a ∧ f i ∈ lvl b := fun i => Classical.choose_spec (ex i)
    have other : ∀ {i : Nat} {a : PV}, u.ins[i]? = some a → ∃ b, v.ins[i]? = some b := fun {i a} ha => by
      (refine el11 (get_lt (l := v.ins) (i := i) (by rw [← hl]; exact (List.getElem?_eq_some_iff.mp ha).1)) ?_; intro b hb _)
      exact ⟨b, hb⟩
    have other' : ∀ {i : Nat} {b : PV}, v.ins[i]? = some b → ∃ a, u.ins[i]? = some a := fun {i b} hb => by
      (refine el11 (get_lt (l := u.ins) (i := i) (by rw [hl]; exact (List.getElem?_eq_some_iff.mp hb).1)) ?_; intro a ha _)
      exact ⟨a, ha⟩
    have at_ : ∀ (g : Nat → Int) (i : Nat) (d : Int), ((List.range u.ins.length).map g)[i]? = some d → d = g i := fun g i d h => by
      rw [List.getElem?_map] at h
      by_cases hi : i < u.ins.length
      · rw [List.getElem?_range hi] at h; simpa using h.symm
      · rw [List.getElem?_eq_none (by simpa using hi)] at h; cases h
    rcases edge_or hu.one with z1 | ⟨e, s, q1, q2⟩
    · rcases edge_or hv.one with z2 | ⟨e', s', r1, r2⟩
      · have nu : ∀ (i : Nat) (a : PV), u.ins[i]? = some a → isE a = false := fun i a h => by simpa using List.countP_eq_zero.mp z1 a (List.mem_of_getElem? h)
        refine (mk11 (-1, -1, (List.range u.ins.length).map f) ((mem_ways _ rfl hu.one).mpr ⟨⟨by simp, fun i a d ha hd _ => ?_⟩, .inl ⟨z1, rfl, rfl⟩⟩) ((mem_ways _ rfl hv.one).mpr ⟨⟨by simp [hl], fun i b d hb hd _ => ?_⟩, .inl ⟨z2, rfl, rfl⟩⟩))
        · (refine el10 (other ha) ?_; intro b hb)
          rw [at_ f i d hd]
          exact (hf i a b ha hb (nu i a ha)).1
        · (refine el10 (other' hb) ?_; intro a ha)
          rw [at_ f i d hd]
          exact (hf i a b ha hb (nu i a ha)).2
      · rw [ep_none z1, ep_some hv.one r1 r2] at hep
        lia
    · rcases edge_or hv.one with z2 | ⟨e', s', r1, r2⟩
      · rw [ep_none z2, ep_some hu.one q1 q2] at hep
        lia
      · rw [ep_some hu.one q1 q2, ep_some hv.one r1 r2] at hep
        have he : e = e' := by lia
        subst he
        have hp := hsh e s s' q1 r1
        unfold shAt at hp
        rw [q2] at hp
        (refine el11 (List.any_eq_true.mp hp) ?_; intro zp0 p1 p2; obtain ⟨o, d0⟩ := zp0)
        have hel : e < u.ins.length := (List.getElem?_eq_some_iff.mp q1).1
        have hge : ((List.range u.ins.length).map fun i => if i = e then d0 else f i)[e]? = some d0 := by
          rw [List.getElem?_map, List.getElem?_range hel]; simp
        refine (mk11 ((e : Int), o, (List.range u.ins.length).map fun i => if i = e then d0 else f i) ((mem_ways _ rfl hu.one).mpr ⟨⟨by simp, fun i a d ha hd hE => ?_⟩, .inr (mk34 e s d0 q1 q2 rfl hge p1)⟩) ((mem_ways _ rfl hv.one).mpr ⟨⟨by simp [hl], fun i b d hb hd hE => ?_⟩, .inr (mk34 e s' d0 r1 r2 rfl hge (by simpa using p2))⟩))
        · (refine el10 (other ha) ?_; intro b hb)
          have hi : i ≠ e := fun q => by subst q; rw [q1] at ha; cases ha; rw [q2] at hE; cases hE
          rw [at_ _ i d hd, if_neg hi]
          exact (hf i a b ha hb hE).1
        · (refine el10 (other' hb) ?_; intro a ha)
          have hi : i ≠ e := fun q => by subst q; rw [r1] at hb; cases hb; rw [r2] at hE; cases hE
          rw [at_ _ i d hd, if_neg hi]
          refine (hf i a b ha hb ?_).2
          cases q : isE a with
          | false => rfl
          | true => exact absurd (one_edge hu.one ha q1 q q2) hi
theorem confl_rc {c : Nat} {seq : Bool} {u v : Rw} (hu : Snd c seq u) (hv : Snd c seq v) : confl (dictN u) (dictN v) = rcN u.ins u.st u.out v.ins v.st v.out := by
  rw [Bool.eq_iff_iff, confl_iff, ways_iff hu hv, state_iff hu hv]
  unfold rcN
  by_cases h1 : epN u.ins = epN v.ins
  · cases h2 : shAll u.ins v.ins with
    | true => simp [h1]
    | false => simp [h1]
  · simp [h1]
end Mine
end
section
open PySem PySem.W PyProof.Rows
set_option Elab.async false
set_option maxRecDepth 100000
namespace Mine
structure RwL (seq : Bool) (r : Rw) : Prop where
  g : RwG r
  seqT : seq = true → r.st ∈ levs
  seqF : seq = false → r.st = .none
theorem iff1_nil {b : Bool} {k : Nat} (h : iff1 b k = []) : b = false := by
  cases b
  · rfl
  · cases h
theorem snd_of {nin : Nat} {seq : Bool} {r : Rw} (h : RwL seq r) (hr : rfN nin seq r.ins r.out = []) : Snd nin seq r := by
  have hl := rf_nil hr
  unfold rfN at hr
  simp only [List.append_eq_nil_iff, List.map_eq_nil_iff] at hr
  (refine el01 hr ?_; try clear hr; intro zp0 h3; refine el01 zp0 ?_; clear zp0; intro _ h2)
  have hfull : ∀ s ∈ r.ins, isE s = true → prs s ≠ [] := by
    intro s hs he hp
    have := List.filter_eq_nil_iff.mp h3 s hs
    unfold emp at this
    rw [he, hp] at this
    exact this rfl
  cases seq with
  | true =>
    simp only [if_true] at h2
    have := of_decide_eq_false (iff1_nil h2)
    exact ⟨h.g, hl, by lia, hfull, h.seqT, fun q => by cases q⟩
  | false =>
    simp only [Bool.false_eq_true, if_false, List.append_eq_nil_iff] at h2
    have h4 := of_decide_eq_false (iff1_nil h2.1)
    have h5 := iff1_nil h2.2
    have h0 : r.ins.countP isE = 0 := by lia
    refine ⟨h.g, hl, by lia, hfull, (fun q => by cases q), fun _ => ⟨h.seqF rfl, fun q => ?_, h0⟩⟩
    rw [q] at h5
    cases h5
theorem fold_same {nin : Nat} {seq : Bool} {rows : List Rw} {f0 : List PV} (hr : ∀ r ∈ rows, RwL seq r) : ∀ i, i ≤ rows.length → ∃ (f : List PV) (sd kept : List Nat) (ds : List (List (DK × Int))),
    (List.range i).foldl (cpStep nin seq rows) (f0, []) = (f, sd) ∧ (List.range i).foldl (lfStep nin seq rows) (f0, [], []) = (f, ds, kept) ∧
    ds = sd.map (fun e => dictN (rows.getD e ⟨[], .none, .none⟩)) ∧ (∀ e ∈ sd, ∃ r, rows[e]? = some r ∧ Snd nin seq r)
  | 0, _ => ⟨f0, [], [], [], rfl, rfl, rfl, fun e he => nomatch he⟩
  | i + 1, hi => by
    obtain ⟨f, sd, kept, ds, h1, h2, h3, h4⟩ := fold_same hr i (by lia)
    rw [range_foldl, range_foldl, h1, h2]
    (refine el11 (get_lt (l := rows) (i := i) (by lia)) ?_; intro r hr' hm)
    unfold cpStep lfStep
    rw [hr']
    simp only
    have hgd : rows.getD i ⟨[], .none, .none⟩ = r := by rw [List.getD_eq_getElem?_getD, hr']; rfl
    cases he : (rfN nin seq r.ins r.out).isEmpty with
    | false =>
      simp only [Bool.false_eq_true, if_false]
      exact (mk43 _ _ _ _ rfl rfl h3 h4)
    | true =>
      have hs := snd_of (hr r hm) (List.isEmpty_iff.mp he)
      have hany : (ds.any fun o => confl o (dictN r)) = sd.any fun e => rcR rows e i := by
        rw [h3, List.any_map]
        have key : ∀ l : List Nat, (∀ e ∈ l, ∃ r, rows[e]? = some r ∧ Snd nin seq r) → l.any ((fun o => confl o (dictN r)) ∘ fun e => dictN (rows.getD e ⟨[], .none, .none⟩)) = l.any fun e => rcR rows e i := by
          intro l
          induction l with
          | nil => intro _; rfl
          | cons e l ih =>
            intro h
            rw [List.any_cons, List.any_cons, ih fun y hy => h y (.tail _ hy)]
            (refine el11 (h e (.head _)) ?_; intro u hu su)
            have hgu : rows.getD e ⟨[], .none, .none⟩ = u := by rw [List.getD_eq_getElem?_getD, hu]; rfl
            have hrc : rcR rows e i = rcN u.ins u.st u.out r.ins r.st r.out := by unfold rcR; rw [hu, hr']
            rw [hrc, ← confl_rc su hs]
            show (confl (dictN (rows.getD e ⟨[], .none, .none⟩)) (dictN r) || _) = _
            rw [hgu]
        exact key sd h4
      rw [hany]
      have h4' : ∀ e ∈ sd ++ [i], ∃ r, rows[e]? = some r ∧ Snd nin seq r := fun e hem => by
        rcases List.mem_append.mp hem with hem | hem
        · exact h4 e hem
        · rw [List.mem_singleton] at hem
          subst hem
          exact (mk11 r hr' hs)
      have h3' : ds ++ [dictN r] = (sd ++ [i]).map fun e => dictN (rows.getD e ⟨[], .none, .none⟩) := by
        rw [List.map_append, ← h3, List.map_singleton, hgd]
      cases hc : sd.any fun e => rcR rows e i with
      | true =>
        simp only [if_true]
        exact (mk43 _ _ _ _ rfl rfl h3' h4')
      | false =>
        simp only [if_true, Bool.false_eq_true, if_false, List.append_nil]
        exact (mk43 _ _ _ _ rfl rfl h3' h4')
theorem faults_same {outp : PV} {inps : List PV} {seq : Bool} {rows : List Rw} (hr : ∀ r ∈ rows, RwL seq r) : cpN outp inps seq rows = (lfN (outp :: inps) seq rows).1 := by
  have hd : dupN [] (outp :: inps) = dupN [outp] inps := by
    rw [dupN]; rfl
  (refine el43 (fold_same (nin := inps.length) (f0 := cp0 outp inps rows) hr rows.length (Nat.le_refl _)) ?_; intro f sd kept ds h1 h2 _ _)
  unfold cpN lfN
  rw [h1, hd]
  have e : (outp :: inps).length - 1 = inps.length := by simp
  rw [e]
  have e2 : (dupN [outp] inps ++ if rows.isEmpty = true then [ftP (.sym 17) (-1)] else []) = cp0 outp inps rows := rfl
  rw [e2, h2]
end Mine
end
section
open PySem PySem.W PyProof.Rows
set_option Elab.async false
set_option maxRecDepth 100000
namespace Mine
theorem dput_nodup {d : List (DK × Int)} {k : DK} {v : Int} (h : (d.map (·.1)).Nodup) : ((dput d k v).map (·.1)).Nodup := by
  unfold dput
  split
  · have : (d.map fun x => if x.1 = k then (x.1, v) else x).map (·.1) = d.map (·.1) := by
      rw [List.map_map]
      refine List.map_congr_left fun x _ => ?_
      show (if x.1 = k then (x.1, v) else x).1 = x.1
      split <;> rfl
    rw [this]; exact h
  · rename_i hn
    rw [List.map_append, List.nodup_append]
    refine ⟨h, by simp, fun a ha b hb e => ?_⟩
    (refine el11 (List.mem_map.mp ha) ?_; intro x hx zq0; subst zq0)
    have hb' : b = k := by simpa using hb
    subst hb' e
    (refine el10 (dget_mem hx) ?_; intro w hw)
    rw [hw] at hn
    exact hn rfl
theorem putAll_nodup {out : PV} {h : Int} : ∀ {ws : List Way} {d : List (DK × Int)}, (d.map (·.1)).Nodup → ((putAll out h ws d).map (·.1)).Nodup
  | [], _, hd => hd
  | w :: ws, d, hd => putAll_nodup (ws := ws) (d := dput d (w.1, w.2.1, w.2.2, h) (outv out h)) (dput_nodup hd)
theorem dict_nodup (r : Rw) : ((dictN r).map (·.1)).Nodup := by
  have key : ∀ (hs : List Int) (d : List (DK × Int)), (d.map (·.1)).Nodup → ((hs.foldl (fun d h => putAll r.out h (waysN r.ins) d) d).map (·.1)).Nodup := by
    intro hs
    induction hs with
    | nil => intro d h; exact h
    | cons a hs ih => intro d h; exact ih _ (putAll_nodup h)
  exact key _ [] List.nodup_nil
theorem dget_dputAll : ∀ {m d : List (DK × Int)} {k : DK}, (m.map (·.1)).Nodup → dget (dputAll d m) k = (dget m k).or (dget d k)
  | [], d, k, _ => by rw [dget_nil]; rfl
  | (j, v) :: m, d, k, h => by
    rw [List.map_cons, List.nodup_cons] at h
    show dget (dputAll (dput d j v) m) k = _
    rw [dget_dputAll h.2, dget_dput, dget_cons]
    by_cases e : j = k
    · subst e
      have : dget m j = none := by
        cases q : dget m j with
        | none => rfl
        | some w =>
          (refine el11 (dget_in q) ?_; intro x hx hk)
          exact absurd (List.mem_map.mpr (mk11 x hx hk)) h.1
      simp [this]
    · simp [e]
noncomputable def unionN (good : List Rw) : List (DK × Int) := good.foldl (fun d r => dputAll d (dictN r)) []
theorem confl_false {u v : Rw} (h : confl (dictN u) (dictN v) = false) {k : DK} {a b : Int} (h1 : dget (dictN u) k = some a) (h2 : dget (dictN v) k = some b) : a = b := by
  apply Classical.byContradiction
  intro hn
  have : confl (dictN u) (dictN v) = true := by
    unfold confl
    rw [List.any_eq_true]
    (refine el11 (dget_in h2) ?_; intro x hx hk)
    refine (mk11 x hx ?_)
    rw [hk, h1, h2]
    exact cfl_ne hn
  rw [h] at this; cases this
theorem dget_union {k : DK} : ∀ (n : Nat) {good : List Rw}, good.length = n → good.Pairwise (fun u v => confl (dictN u) (dictN v) = false) → dget (unionN good) k = good.findSome? fun r => dget (dictN r) k
  | 0, good, hn, _ => by
    have : good = [] := List.length_eq_zero_iff.mp hn
    subst this; rfl
  | n + 1, good, hn, hp => by
    rcases List.eq_nil_or_concat good with rfl | ⟨g, r, rfl⟩
    · simp at hn
    rw [List.concat_eq_append] at hn hp ⊢
    rw [List.length_append, List.length_singleton] at hn
    rw [List.pairwise_append] at hp
    (refine el02 hp ?_; try clear hp; intro p1 _ p3)
    have ih := dget_union (k := k) n (good := g) (by lia) p1
    have e : unionN (g ++ [r]) = dputAll (unionN g) (dictN r) := by unfold unionN; rw [List.foldl_append]; rfl
    rw [e, dget_dputAll (dict_nodup r), ih, List.findSome?_append]
    have e2 : [r].findSome? (fun r => dget (dictN r) k) = dget (dictN r) k := by
      simp only [List.findSome?_cons, List.findSome?_nil]
      cases dget (dictN r) k <;> rfl
    rw [e2]
    cases q1 : dget (dictN r) k with
    | none => cases g.findSome? (fun r => dget (dictN r) k) <;> rfl
    | some b =>
      cases q2 : g.findSome? (fun r => dget (dictN r) k) with
      | none => rfl
      | some a =>
        (refine el11 (List.exists_of_findSome?_eq_some q2) ?_; intro u hu hu')
        have := confl_false (p3 u hu r (by simp)) hu' q1
        rw [this]
end Mine
end
section
open PySem PySem.W PyProof.Rows
set_option Elab.async false
set_option maxRecDepth 100000
namespace Mine
theorem lm_at {ins : List PV} {now : List Int} {skip : Int} (hl : now.length = ins.length) : lmB ins now skip = true ↔ ∀ (i : Nat) (s : PV) (c : Int), ins[i]? = some s → now[i]? = some c → (i : Int) ≠ skip → isE s = false ∧ c ∈ lvl s := by
  unfold lmB
  rw [List.all_eq_true]
  constructor
  · intro h i s c hs hc hne
    have := h i (List.mem_range.mpr (List.getElem?_eq_some_iff.mp hs).1)
    rw [okAt_eq hs hc] at this
    simpa [hne] using this
  · intro h i hi
    (refine el11 (get_lt (List.mem_range.mp hi)) ?_; intro s hs _)
    (refine el11 (get_lt (l := now) (i := i) (by rw [hl]; exact List.mem_range.mp hi)) ?_; intro c hc _)
    rw [okAt_eq hs hc]
    by_cases hne : (i : Int) = skip
    · simp [hne]
    · (refine el01 (h i s c hs hc hne) ?_; intro h1 h2)
      simp [hne, h1, h2]
theorem ways_lev {c : Nat} {seq : Bool} {r : Rw} (hr : Snd c seq r) {now : List Int} (hl : now.length = c) : ((-1, -1, now) : Way) ∈ waysN r.ins ↔ lmB r.ins now (-1) = true := by
  rw [lm_at (by rw [hl, hr.len]), mem_ways _ rfl hr.one]
  constructor
  · rintro ⟨⟨_, hok⟩, h⟩ i s c hs hc _
    rcases h with ⟨h0, _, _⟩ | ⟨e, s', d, _, _, h3, _⟩
    · have := List.countP_eq_zero.mp h0 s (List.mem_of_getElem? hs)
      have he : isE s = false := by simpa using this
      exact ⟨he, hok i s c hs hc he⟩
    · lia
  · intro h
    refine ⟨⟨by rw [hl, hr.len], fun i s c hs hc _ => (h i s c hs hc (by lia)).2⟩, .inl ⟨List.countP_eq_zero.mpr fun s hs => ?_, rfl, rfl⟩⟩
    (refine el10 (List.getElem?_of_mem hs) ?_; intro i hi)
    (refine el11 (get_lt (l := now) (i := i) (by rw [hl, ← hr.len]; exact (List.getElem?_eq_some_iff.mp hi).1)) ?_; intro d hd _)
    rw [(h i s d hi hd (by lia)).1]; simp
theorem ways_edge {c : Nat} {seq : Bool} {r : Rw} (hr : Snd c seq r) {now : List Int} (hl : now.length = c) {ch : Nat} (hch : ch < c) {before : Int} : (((ch : Int), before, now) : Way) ∈ waysN r.ins ↔
    isAt r.ins ch = true ∧ lmB r.ins now ch = true ∧ (prs (r.ins.getD ch .none)).contains (before, now.getD ch 0) = true := by
  rw [lm_at (by rw [hl, hr.len]), mem_ways _ rfl hr.one]
  (refine el11 (get_lt (l := r.ins) (i := ch) (by rw [hr.len]; exact hch)) ?_; intro s hs hsm)
  (refine el11 (get_lt (l := now) (i := ch) (by lia)) ?_; intro d hd _)
  have e1 : r.ins.getD ch .none = s := by rw [List.getD_eq_getElem?_getD, hs]; rfl
  have e2 : now.getD ch 0 = d := by rw [List.getD_eq_getElem?_getD, hd]; rfl
  have e3 : isAt r.ins ch = isE s := by simp [isAt, hs]
  rw [e1, e2, e3]
  constructor
  · rintro ⟨⟨_, hok⟩, h⟩
    rcases h with ⟨_, h, _⟩ | ⟨e, s', d', q1, q2, q3, q4, q5⟩
    · lia
    · have : e = ch := by lia
      subst this
      rw [hs] at q1; cases q1
      rw [hd] at q4; cases q4
      refine ⟨q2, fun i t c ht hc hne => ?_, by simpa using q5⟩
      have he : isE t = false := by
        cases q : isE t with
        | false => rfl
        | true => exact absurd (one_edge hr.one ht hs q q2) (fun h => hne (by rw [h]))
      exact ⟨he, hok i t c ht hc he⟩
  · rintro ⟨h1, h2, h3⟩
    refine ⟨⟨by rw [hl, hr.len], fun i t c ht hc he => (h2 i t c ht hc fun q => ?_).2⟩, .inr (mk34 ch s d hs h1 rfl hd (by simpa using h3))⟩
    have : i = ch := by lia
    subst this
    rw [hs] at ht; cases ht
    rw [h1] at he; cases he
theorem dget_p1 {c : Nat} {seq : Bool} {r : Rw} (hr : Snd c seq r) {now : List Int} (hl : now.length = c) {h : Int} : dget (dictN r) (-1, -1, now, h) = if (lmB r.ins now (-1) && (heldN r.st).contains h) = true then some (outv r.out h) else none := by
  rw [dget_dict]
  have := ways_lev hr hl
  by_cases q1 : lmB r.ins now (-1) = true
  · simp only [this.mpr q1, q1, true_and, Bool.true_and, List.contains_iff_mem]
  · have n : ¬ ((-1, -1, now) : Way) ∈ waysN r.ins := fun q => q1 (this.mp q)
    simp [n, q1]
theorem dget_p2 {c : Nat} {r : Rw} (hr : Snd c true r) {now : List Int} (hl : now.length = c) {ch : Nat} (hch : ch < c) {before h : Int} : dget (dictN r) ((ch : Int), before, now, h) = if p2 now h ch before r = true then some (outv r.out h) else none := by
  rw [dget_dict]
  have hst := levs_not _ (hr.seqT rfl)
  have e1 : heldN r.st = lvl r.st := by unfold heldN; rw [hst]; rfl
  have := ways_edge hr hl hch (before := before)
  unfold p2
  rw [e1]
  simp only [this, Bool.and_eq_true, List.contains_iff_mem]
  congr 1
  apply propext
  constructor
  · rintro ⟨⟨a, b, c⟩, d⟩; exact ⟨⟨a, d⟩, b, c⟩
  · rintro ⟨⟨a, d⟩, b, c⟩; exact ⟨⟨a, b, c⟩, d⟩
end Mine
end
section
open PySem PySem.W PyProof.Rows
set_option Elab.async false
set_option maxRecDepth 100000
namespace Mine
theorem fs_find {α : Type} {p : α → Bool} {f : α → Option Int} {g : α → Int} : ∀ {l : List α}, (∀ x ∈ l, f x = if p x = true then some (g x) else none) → l.findSome? f = (l.find? p).map g
  | [], _ => rfl
  | x :: l, h => by
    rw [List.findSome?_cons, List.find?_cons, h x (.head _), fs_find fun y hy => h y (.tail _ hy)]
    cases p x <;> rfl
theorem nl_union {c : Nat} {good : List Rw} (hs : ∀ r ∈ good, Snd c false r) (hp : good.Pairwise (fun u v => confl (dictN u) (dictN v) = false)) {now : List Int} (hl : now.length = c) : (dget (unionN good) (-1, -1, now, 3)).getD 3 = nlN good now := by
  rw [dget_union _ rfl hp, fs_find (p := fun r => lmB r.ins now (-1)) (g := fun r => outv r.out 3) fun r hr => ?_]
  · unfold nlN
    cases good.find? fun r => lmB r.ins now (-1) <;> rfl
  · rw [dget_p1 (hs r hr) hl]
    have : heldN r.st = [3] := by unfold heldN; rw [((hs r hr).seqF rfl).1]; rfl
    rw [this]
    simp
theorem ss_union {c : Nat} {good : List Rw} (hs : ∀ r ∈ good, Snd c true r) (hp : good.Pairwise (fun u v => confl (dictN u) (dictN v) = false)) {now : List Int} (hl : now.length = c) {ch : Nat} (hch : ch < c) {before st : Int} :
    (dget (unionN good) (-1, -1, now, st)).getD ((dget (unionN good) ((ch : Int), before, now, st)).getD 3) = ssN good st now ch before := by
  rw [dget_union _ rfl hp, dget_union _ rfl hp, fs_find (p := p1 now st) (g := fun r => outv r.out st) fun r hr => ?_, fs_find (p := p2 now st ch before) (g := fun r => outv r.out st) fun r hr => ?_]
  · unfold ssN
    cases good.find? (p1 now st) with
    | some r => rfl
    | none => cases good.find? (p2 now st ch before) <;> rfl
  · exact dget_p2 (hs r hr) hl hch
  · rw [dget_p1 (hs r hr) hl]
    have hst := levs_not _ ((hs r hr).seqT rfl)
    have e1 : heldN r.st = lvl r.st := by unfold heldN; rw [hst]; rfl
    rw [e1]; rfl
end Mine
end
section
open PySem PySem.W PyProof.Rows
set_option Elab.async false
set_option maxRecDepth 100000
namespace Mine
noncomputable def rwD : Rw := ⟨[], .none, .none⟩
theorem kept_fold {nin : Nat} {seq : Bool} {rows : List Rw} {f0 : List PV} (hr : ∀ r ∈ rows, RwL seq r) : ∀ i, i ≤ rows.length → ∃ (f : List PV) (kept : List Nat) (ds : List (List (DK × Int))),
    (List.range i).foldl (lfStep nin seq rows) (f0, [], []) = (f, ds, kept) ∧ (∀ e ∈ kept, e < i ∧ dictN (rows.getD e rwD) ∈ ds ∧ Snd nin seq (rows.getD e rwD)) ∧ kept.length ≤ i ∧
    kept.Pairwise fun a b => confl (dictN (rows.getD a rwD)) (dictN (rows.getD b rwD)) = false
  | 0, _ => ⟨f0, [], [], rfl, (fun e he => nomatch he), Nat.le_refl _, List.Pairwise.nil⟩
  | i + 1, hi => by
    obtain ⟨f, kept, ds, h1, h2, hkl, h3⟩ := kept_fold hr i (by lia)
    rw [range_foldl, h1]
    (refine el11 (get_lt (l := rows) (i := i) (by lia)) ?_; intro r hr' hm)
    have hgd : rows.getD i rwD = r := by rw [List.getD_eq_getElem?_getD, hr']; rfl
    unfold lfStep
    rw [hr']
    simp only
    cases he : (rfN nin seq r.ins r.out).isEmpty with
    | false =>
      simp only [Bool.false_eq_true, if_false]
      exact (mk33 _ _ _ rfl (fun e hem => ⟨by have := (h2 e hem).1; lia, (h2 e hem).2⟩) (by lia) h3)
    | true =>
      have hs := snd_of (hr r hm) (List.isEmpty_iff.mp he)
      simp only [if_true]
      cases hc : ds.any fun o => confl o (dictN r) with
      | true =>
        simp only [if_true]
        exact (mk33 _ _ _ rfl (fun e hem => ⟨by have := (h2 e hem).1; lia, List.mem_append_left _ (h2 e hem).2.1, (h2 e hem).2.2⟩) (by lia) h3)
      | false =>
        simp only [Bool.false_eq_true, if_false]
        refine (mk33 _ _ _ rfl (fun e hem => ?_) (by simp; lia) ?_)
        · rcases List.mem_append.mp hem with hem | hem
          · exact ⟨by have := (h2 e hem).1; lia, List.mem_append_left _ (h2 e hem).2.1, (h2 e hem).2.2⟩
          · rw [List.mem_singleton] at hem
            subst hem
            exact ⟨by lia, by rw [hgd]; simp, by rw [hgd]; exact hs⟩
        · rw [List.pairwise_append]
          refine ⟨h3, List.pairwise_singleton .., fun a ha b hb => ?_⟩
          rw [List.mem_singleton] at hb
          subst hb
          rw [hgd]
          have := List.any_eq_false.mp hc _ (h2 a ha).2.1
          simpa using this
noncomputable def goodN (names : List PV) (seq : Bool) (rows : List Rw) : List Rw := (lfN names seq rows).2.2.map fun e => rows.getD e rwD
theorem good_ok {names : List PV} {seq : Bool} {rows : List Rw} (hr : ∀ r ∈ rows, RwL seq r) : (∀ r ∈ goodN names seq rows, Snd (names.length - 1) seq r) ∧ (goodN names seq rows).Pairwise (fun u v => confl (dictN u) (dictN v) = false) ∧
    (∀ e ∈ (lfN names seq rows).2.2, e < rows.length) ∧ (lfN names seq rows).2.2.length ≤ rows.length := by
  (refine el33 (kept_fold (nin := names.length - 1) (f0 := dupN [] names ++ (if rows.isEmpty = true then [ftP (.sym 17) (-1)] else [])) hr rows.length (Nat.le_refl _)) ?_; intro f kept ds h1 h2 h3 h4)
  have e : lfN names seq rows = (f, ds, kept) := h1
  unfold goodN
  rw [e]
  refine (mk03 (fun r hrm => ?_) ?_ (fun e he => (h2 e he).1) h3)
  · (refine el11 (List.mem_map.mp hrm) ?_; intro e he zq0; subst zq0)
    exact (h2 e he).2.2
  · exact List.pairwise_map.mpr h4
noncomputable def isFt (p : PV) : Prop := ∃ (k : Nat) (i : Int), k < stN ∧ p = ftP (.sym k) i
theorem isFt_ok {p : PV} (h : isFt p) : okT p = true := by
  (refine el21 h ?_; try clear h; intro k i hk zq0; subst zq0)
  exact Nat.ble_eq_true_of_le hk
theorem dup_ft : ∀ {pre l : List PV}, ∀ x ∈ dupN pre l, isFt x
  | _, [], x, h => nomatch h
  | pre, y :: l, x, h => by
    rw [dupN] at h
    rcases List.mem_append.mp h with h | h
    · split at h
      · exact (mk21 16 (-1) (by decide) (by simpa using h))
      · cases h
    · exact dup_ft x h
theorem rf_sym {nin : Nat} {seq : Bool} {ins : List PV} {out : PV} : ∀ x ∈ rfN nin seq ins out, ∃ k, k < stN ∧ x = .sym k := by
  have h1 : ∀ b k, k < stN → ∀ x ∈ iff1 b k, ∃ k, k < stN ∧ x = .sym k := by
    intro b k hk x hx
    cases b
    · cases hx
    · exact (mk11 k hk (by simpa [iff1] using hx))
  intro x hx
  unfold rfN at hx
  rcases List.mem_append.mp hx with hx | hx
  · rcases List.mem_append.mp hx with hx | hx
    · exact h1 _ 19 (by decide) x hx
    · split at hx
      · exact h1 _ 20 (by decide) x hx
      · rcases List.mem_append.mp hx with hx | hx
        · exact h1 _ 21 (by decide) x hx
        · exact h1 _ 22 (by decide) x hx
  · (refine el11 (List.mem_map.mp hx) ?_; intro _ _ zq0; subst zq0)
    exact (mk11 23 (by decide) rfl)
theorem lf_ft {nin : Nat} {seq : Bool} {rows : List Rw} {f0 : List PV} (hl : ∀ r ∈ rows, r.ins.length ≤ 4) (h0 : ∀ x ∈ f0, isFt x) : ∀ i, i ≤ rows.length → ∃ f ds kept, (List.range i).foldl (lfStep nin seq rows) (f0, [], []) = (f, ds, kept) ∧ (∀ x ∈ f, isFt x) ∧ f.length ≤ f0.length + 7 * i
  | 0, _ => (mk32 f0 ([]) ([]) rfl h0 (by lia))
  | i + 1, hi => by
    (refine el32 (lf_ft (nin := nin) (seq := seq) hl h0 i (by lia)) ?_; intro f ds kept h1 h2 h3)
    rw [range_foldl, h1]
    (refine el11 (get_lt (l := rows) (i := i) (by lia)) ?_; intro r hr' hm)
    have hlr := hl r hm
    have hrl := rf_len (nin := nin) (seq := seq) (ins := r.ins) (out := r.out)
    unfold lfStep
    rw [hr']
    simp only
    split
    · split
      · refine (mk32 _ _ _ rfl (fun x hx => ?_) (by simp; lia))
        rcases List.mem_append.mp hx with hx | hx
        · exact h2 x hx
        · exact (mk21 18 i (by decide) (by simpa using hx))
      · exact (mk32 _ _ _ rfl h2 (by lia))
    · refine (mk32 _ _ _ rfl (fun x hx => ?_) (by simp; lia))
      rcases List.mem_append.mp hx with hx | hx
      · exact h2 x hx
      · (refine el11 (List.mem_map.mp hx) ?_; intro y hy zq0; subst zq0)
        (refine el11 (rf_sym y hy) ?_; intro k hk zq0; subst zq0)
        exact (mk21 k i hk rfl)
theorem lf_sorts {names : List PV} {seq : Bool} {rows : List Rw} (hn : names.length ≤ 4) (hz : rows.length ≤ 6) (hl : ∀ r ∈ rows, r.ins.length ≤ 4) : ∃ srt, srtF (lfN names seq rows).1 = some srt := by
  have hd : (dupN [] names).length ≤ 4 := Nat.le_trans dup_len hn
  (refine el32 (lf_ft (nin := names.length - 1) (seq := seq) (f0 := dupN [] names ++ (if rows.isEmpty = true then [ftP (.sym 17) (-1)] else [])) hl (fun x hx => by
    rcases List.mem_append.mp hx with hx | hx
    · exact dup_ft x hx
    · split at hx
      · exact (mk21 17 (-1) (by decide) (by simpa using hx))
      · cases hx) rows.length (Nat.le_refl _)) ?_; intro f ds kept h1 h2 h3)
  have e : lfN names seq rows = (f, ds, kept) := h1
  rw [e]
  have hlen : f.length < 64 := by
    rw [List.length_append] at h3
    have : (if rows.isEmpty = true then [ftP (.sym 17) (-1)] else []).length ≤ 1 := by split <;> simp
    lia
  have hall : f.all okT = true := List.all_eq_true.mpr fun x hx => isFt_ok (h2 x hx)
  unfold srtF
  simp only [hall, hlen, decide_true, Bool.and_self, if_true]
  exact ⟨_, rfl⟩
end Mine
end
section
open PySem PySem.W PyProof.Rows
set_option Elab.async false
set_option maxRecDepth 100000
namespace Mine
noncomputable def lv3 (x : Int) : Bool := x == 0 || x == 1 || x == 3
theorem lvl_dom : ∀ s ∈ syms, (lvl s).all lv3 = true := by decide +kernel
theorem prs_dom : ∀ s ∈ syms, (prs s).all (fun p => lv3 p.1 && lv3 p.2) = true := by decide +kernel
theorem held_dom {st : PV} (h : stN2 st) : (heldN st).all lv3 = true := by
  unfold heldN
  split
  · rfl
  · rcases h with rfl | h
    · rfl
    · exact lvl_dom st (levs_syms h)
theorem dom_dict {c : Nat} {seq : Bool} {r : Rw} (hr : Snd c seq r) (hc : c ≤ 3) : ((dictN r).all fun x => domK x.1) = true := by
  rw [List.all_eq_true]
  rintro ⟨⟨a, o, n, h⟩, v⟩ hx
  (refine el10 (dget_mem hx) ?_; intro w hw)
  rw [dget_dict] at hw
  split at hw
  · rename_i q
    (refine el01 q ?_; try clear q; intro q1 q2)
    simp only at q1 q2
    (refine el01 ((mem_ways _ rfl hr.one).mp q1) ?_; intro zp0 m; refine el01 zp0 ?_; clear zp0; intro hl hok)
    have hh := List.all_eq_true.mp (held_dom hr.g.st) h q2
    have hnl : n.length ≤ 3 := by rw [hl, hr.len]; exact hc
    have hn : n.all lv3 = true := by
      rw [List.all_eq_true]
      intro d hd
      (refine el10 (List.getElem?_of_mem hd) ?_; intro i hi)
      (refine el11 (get_lt (l := r.ins) (i := i) (by rw [← hl]; exact (List.getElem?_eq_some_iff.mp hi).1)) ?_; intro s hs hsm)
      have hsy := hr.g.syms s hsm
      cases he : isE s with
      | false => exact List.all_eq_true.mp (lvl_dom s hsy) d (hok i s d hs hi he)
      | true =>
        rcases m with ⟨h0, _⟩ | ⟨e, s', d', r1, r2, _, r4, r5⟩
        · have := List.countP_eq_zero.mp h0 s hsm
          exact absurd he this
        · have := one_edge hr.one hs r1 he r2
          subst this
          rw [hs] at r1; cases r1
          rw [hi] at r4; cases r4
          have := List.all_eq_true.mp (prs_dom s hsy) _ r5
          rw [Bool.and_eq_true] at this
          exact this.2
    have hao : (a == -1 || a == 0 || a == 1 || a == 2) = true ∧ (o == -1 || o == 0 || o == 1 || o == 3) = true := by
      rcases m with ⟨_, rfl, rfl⟩ | ⟨e, s', d', r1, r2, rfl, r4, r5⟩
      · exact ⟨rfl, rfl⟩
      · have hel : e < 3 := by
          have := (List.getElem?_eq_some_iff.mp r1).1
          rw [hr.len] at this; lia
        have := List.all_eq_true.mp (prs_dom s' (hr.g.syms s' (List.mem_of_getElem? r1))) _ r5
        rw [Bool.and_eq_true] at this
        have ho := this.1
        unfold lv3 at ho
        refine ⟨?_, ?_⟩
        · have : e = 0 ∨ e = 1 ∨ e = 2 := by lia
          rcases this with rfl | rfl | rfl <;> rfl
        · simp only [Bool.or_eq_true, beq_iff_eq] at ho ⊢
          rcases ho with (h | h) | h
          · exact .inl (.inl (.inr h))
          · exact .inl (.inr h)
          · exact .inr h
    unfold domK
    unfold lv3 at hn hh
    simp only [hao.1, hao.2, hn, hh, Bool.true_and, Bool.and_true, decide_eq_true_eq]
    exact hnl
  · cases hw
noncomputable def dueGo (u : List (DK × Int)) (new : List Int) : List Nat → Int × List Int → Int × List Int
  | [], s => s
  | i :: is, (due, now) =>
    let now' := now.set i (plainI (new.getD i 0))
    dueGo u new is (if now'.getD i 0 = now.getD i 0 then due else (dget u (-1, -1, now', due)).getD ((dget u ((i : Int), now.getD i 0, now', due)).getD 3), now')
theorem dueGo_cons {u : List (DK × Int)} {new : List Int} {i : Nat} {is : List Nat} {due : Int} {now : List Int} : dueGo u new (i :: is) (due, now) = dueGo u new is (if (now.set i (plainI (new.getD i 0))).getD i 0 = now.getD i 0 then due else (dget u (-1, -1, now.set i (plainI (new.getD i 0)), due)).getD ((dget u ((i : Int), now.getD i 0, now.set i (plainI (new.getD i 0)), due)).getD 3), now.set i (plainI (new.getD i 0))) := rfl
theorem due_same {c : Nat} {good : List Rw} (hs : ∀ r ∈ good, Snd c true r) (hp : good.Pairwise (fun u v => confl (dictN u) (dictN v) = false)) {new : List Int} : ∀ (is : List Nat) {st : Int} {now : List Int}, (∀ i ∈ is, i < c) → now.length = c →
    dueGo (unionN good) new is (st, now) = nsGo good new is (st, now)
  | [], _, _, _, _ => rfl
  | i :: is, st, now, hi, hl => by
    rw [dueGo_cons, nsGo_cons]
    rw [ss_union hs hp (by simpa using hl) (hi i (.head _))]
    exact due_same hs hp is (fun j hj => hi j (.tail _ hj)) (by simpa using hl)
end Mine
end
section
open PySem PySem.W PyProof.Rows
set_option Elab.async false
set_option maxRecDepth 100000
set_option maxHeartbeats 800000
namespace Mine
theorem comp_pool {f : PV → Reg → Option (List PV × Reg)} {J : PV → Prop} {Q : List PV → Reg → Prop} : ∀ {xs : List PV} {l : List PV}, (∀ x ∈ xs, ∀ l, PoolOK l → Gv (f x (some l)) fun a P => ∃ v l', a = [v] ∧ P = some l' ∧ PoolOK l' ∧ J v) → PoolOK l →
    (∀ vs l', vs.length = xs.length → (∀ v ∈ vs, J v) → PoolOK l' → Q vs (some l')) → Gv (compLoop f xs (some l)) Q
  | [], l, _, hl, h => (mk21 ([]) (some l) rfl (h [] l rfl (fun _ q => nomatch q) hl))
  | x :: xs, l, k, hl, h => by
    (refine el21 (k x (.head _) l hl) ?_; intro a P e zr2; refine el23 zr2 ?_; clear zr2; intro v l₁ zq0 zq1 hl₁ hv; subst zq0; subst zq1)
    (refine el21 (comp_pool (f := f) (J := J) (Q := fun vs P => ∃ l', P = some l' ∧ vs.length = xs.length ∧ (∀ v ∈ vs, J v) ∧ PoolOK l') (xs := xs) (l := l₁) (fun y hy => k y (.tail _ hy)) hl₁ fun vs l' a b c => (mk13 l' rfl a b c)) ?_; intro b P₂ e₂ h₂)
    (refine el13 h₂ ?_; try clear h₂; intro l' zq0 q1 q2 q3; subst zq0)
    refine (mk21 ([v] ++ b) (some l') (by rw [compLoop, e]; rw [ifS_some, e₂]; rfl) (h _ l' (by simp [q1]) (fun u hu => ?_) q3))
    rcases List.mem_append.mp hu with hu | hu
    · rw [List.mem_singleton] at hu; subst hu; exact hv
    · exact q2 u hu
noncomputable def IntIn (b : Int) (p : PV) : Prop := ∃ v, p = .int v ∧ 0 ≤ v ∧ v < b
theorem comp_pick {m : Nat} {ρ : Vw} {c : Nat} {l : List PV} {t : Nat} {Q : List PV → Reg → Prop} (hl : PoolOK l) (hρ : ∀ v : PV, lk (ρ.set t (some v)) 1 = some .pool) (h : ∀ (codes : List Int) l', codes.length = c → (∀ x ∈ codes, 0 ≤ x ∧ x < 4) → PoolOK l' → Q (intsP codes) (some l')) :
    Gv (compLoop (compElt (LV (m + 70)) (.call 16 [(.var 1), (.int 4)]) Option.none (.one t) ρ) (rangeV c) (some l)) Q := by
  refine comp_pool (J := IntIn 4) (fun x hx l hl => wElt_ok (wp_ok srtF tab _) (mk11 _ rfl (r_call (rs_cons (r_var (hρ _) (rs_cons (r_int (rs_nil (r_fnG ((fn_pk _ (by decide) hl).mono ?_)))))))))) hl fun vs l' hv hJ hl' => ?_
  · rintro _ _ ⟨v, l', rfl, rfl, hl', h0, h1⟩
    exact (mk23 _ l' rfl rfl hl' (mk12 v rfl h0 h1))
  · have key : ∀ vs : List PV, (∀ v ∈ vs, IntIn 4 v) → ∃ codes : List Int, vs = intsP codes ∧ ∀ x ∈ codes, 0 ≤ x ∧ x < 4 := by
      intro vs
      induction vs with
      | nil => intro _; exact (mk11 ([]) rfl (fun _ q => nomatch q))
      | cons v vs ih =>
        intro hJ
        (refine el11 (ih fun y hy => hJ y (.tail _ hy)) ?_; intro codes zq0 hc; subst zq0)
        (refine el12 (hJ v (.head _)) ?_; intro x zq0 h0 h1; subst zq0)
        refine (mk11 (x :: codes) rfl (fun y hy => ?_))
        rcases List.mem_cons.mp hy with rfl | hy
        · exact ⟨h0, h1⟩
        · exact hc y hy
    (refine el11 (key vs hJ) ?_; intro codes zq0 hc; subst zq0)
    refine h codes l' ?_ hc hl'
    rw [range_len] at hv
    simpa [intsP] using hv
end Mine
end
section
open PySem PySem.W PyProof.Rows
set_option Elab.async false
set_option maxRecDepth 100000
set_option maxHeartbeats 1600000
namespace Mine
theorem get_ok {u : List (DK × Int)} {a o h v : Int} {n : List Int} : opGet (.dict u) (.tup [.int a, .int o, .tup (intsP n), .int h]) (.int v) = some (.int ((dget u (a, o, n, h)).getD v)) := by
  show (decK (.tup [.int a, .int o, .tup (intsP n), .int h])).map _ = _
  rw [decK_ok]; rfl
theorem tupleOf_ints {l : List Int} (h : l.length < 100) : opTuple (.list (intsP l)) = some (.tup (intsP l)) := by
  have e : small (intsP l) = true := small_of (by simp [intsP]; lia)
  show (if small (intsP l) = true then some (PV.tup (intsP l)) else none) = _
  rw [if_pos e]
theorem ev_pl {n k : Nat} {ρ : Vw} {P : Reg} {Q : PV → Reg → Prop} {a : X} {v : Int} (ha : ∀ {k : Nat} {Q : PV → Reg → Prop}, Q (.int v) P → (WP (k + 10)).ev a ρ P Q) (h : Q (.int (plainI v)) P) : (WP (n + 20)).ev (.ife (.cmp 0 a (.int 2)) (.int 3) a) ρ P Q := by
  refine r_ife (t_cmp (r_cmp (ha (r_int (exb rfl (bo ?_))))))
  refine mb (fun q => ?_) fun q => ?_
  · have : v = 2 := of_decide_eq_true q
    subst this
    exact r_int h
  · have : ¬ v = 2 := of_decide_eq_false q
    refine ha ?_
    rwa [plainI, if_neg this] at h
theorem law_tail {m : Nat} {P : Reg} {a0 a1 a4 a5 a6 a7 a8 a9 a10 a12 a13 a14 a16 a18 : Slot} {seq : Bool} {c : Nat} {st : Int} {outp : PV} {inps : List PV} {good : List Rw} {old new : List Int}
    (hs : ∀ r ∈ good, Snd c seq r) (hp : good.Pairwise (fun u v => confl (dictN u) (dictN v) = false)) (hc : c ≤ 3) (ho : old.length = c) (hn : new.length = c) :
    wSs (WP (m + 200)).ex [.ite (.not (.var 2)) [.ret (.cmp 0 (.call 12 [(.var 15), (.var 19)]) (.get (.var 17) (.tup [.neg1, .neg1, (.tupleOf (.var 21)), (.int 3)]) (.int 3)))] [],
    .asg 22 (.ife (.cmp 0 (.var 11) (.int 2)) (.int 3) (.var 11)),
    .for (.one 6) .rng (.var 3) [.asg 23 (.sub (.var 21) (.var 6)),
    .setIt 21 (.var 6) (.ife (.cmp 0 (.sub (.var 20) (.var 6)) (.int 2)) (.int 3) (.sub (.var 20) (.var 6))),
    .ite (.cmp 1 (.sub (.var 21) (.var 6)) (.var 23)) [.asg 24 (.get (.var 17) (.tup [(.var 6), (.var 23), (.tupleOf (.var 21)), (.var 22)]) (.int 3)),
    .asg 22 (.get (.var 17) (.tup [.neg1, .neg1, (.tupleOf (.var 21)), (.var 22)]) (.var 24))] []],
    .ret (.cmp 0 (.call 13 [(.var 15), (.var 11), (.var 19), (.var 20)]) (.var 22))]
      ⟨[a0, a1, .fz (.bool seq), .fz (.int c), a4, a5, a6, a7, a8, a9, a10, .fz (.int st), a12, a13, a14, .fz (primP outp inps seq (good.map Rw.P)), a16, .ow (.dict (unionN good)), a18, .fz (.list (intsP old)), .fz (.list (intsP new)), .ow (.list (intsP (old.map plainI))), .un, .un, .un, .un, .un, .un, .un, .un], P⟩
      fun fl σ => fl = .rt (.bool true) := by
  have hro : ∀ r ∈ good, RwOK c r := fun r hr => ⟨(hs r hr).g.syms, (hs r hr).len, (hs r hr).g.st, (hs r hr).g.out⟩
  refine x_cons (x_ite (t_not (t_var (r_var rfl (bo ?_)))))
  cases seq with
  | false =>
    refine x_cons (x_ret (r_cmp ?_))
    refine r_call (rs_cons (r_var rfl (rs_cons (r_var rfl (rs_nil ?_)))))
    refine r_fn (fn_nl _ _ (by rw [ho]; exact hro) (by lia)) ?_
    refine r_get (r_var rfl (r_tup (by decide) (rs_cons (r_neg1 (rs_cons (r_neg1 (rs_cons (r_tupleOf (r_var rfl (exv (tupleOf_ints (by simp; lia)) (rs_cons (r_int (rs_nil (r_int ?_))))))))))))))
    refine exv get_ok ?_
    rw [nl_union hs hp (by simpa using ho)]
    refine (mk11 _ rfl ?_)
    show Fl.rt (PV.bool (decide (_ = _))) = _
    rw [decide_eq_true rfl]
  | true =>
    refine x_nil ?_
    refine x_cons (x_asg (ev_pl (k := 0) (v := st) (fun h => r_var rfl h) ⟨rfl, ?_⟩))
    refine x_cons (x_for (r_var rfl (mk11 _ (range_it (by lia)) ?_)))
    refine loop_ab (fun i σ => ∃ due now s6 s23 s24, σ = ⟨[a0, a1, .fz (.bool true), .fz (.int c), a4, a5, s6, a7, a8, a9, a10, .fz (.int st), a12, a13, a14, .fz (primP outp inps true (good.map Rw.P)), a16, .ow (.dict (unionN good)), a18, .fz (.list (intsP old)), .fz (.list (intsP new)), .ow (.list (intsP now)), .fz (.int due), s23, s24, .un, .un, .un, .un, .un], P⟩ ∧ now.length = c ∧
      dueGo (unionN good) new ((List.range c).drop i) (due, now) = dueGo (unionN good) new (List.range c) (plainI st, old.map plainI)) (mk40 _ _ _ _ (mk12 _ rfl (by simpa using ho) rfl)) (fun I hin i x σ hx hI => ?_) (fun σ hI => ?_)
    · (refine el01 (range_at hx) ?_; intro hi' zq0; subst zq0)
      (refine el40 hI ?_; try clear hI; intro due now s6 s23 zr1; refine el12 zr1 ?_; clear zr1; intro s24 zq0 hnl hgo; subst zq0)
      (refine el11 (get_lt (l := now) (i := i) (by lia)) ?_; intro b hb' _)
      (refine el11 (get_lt (l := new) (i := i) (by lia)) ?_; intro d hd' _)
      have hgb : now.getD i 0 = b := by rw [List.getD_eq_getElem?_getD, hb']; rfl
      have hgd : new.getD i 0 = d := by rw [List.getD_eq_getElem?_getD, hd']; rfl
      rw [drop_range hi'] at hgo
      simp only [dueGo, hgb, hgd] at hgo
      have hset : (now.set i (plainI d))[i]? = some (plainI d) := by rw [List.getElem?_set]; simp; lia
      have hgs : (now.set i (plainI d)).getD i 0 = plainI d := by rw [List.getD_eq_getElem?_getD, hset]; rfl
      rw [hgs] at hgo
      have hsl : (now.set i (plainI d)).length = c := by simpa using hnl
      refine (mk11 _ rfl ?_)
      refine x_cons (x_asg (r_sub (r_var rfl (r_var rfl (exv (sub_list (by simp [intsP]; lia) (intsP_get hb')) ⟨rfl, ?_⟩)))))
      refine x_cons (x_set (ev_pl (k := 0) (v := d) (fun h => r_sub (r_var rfl (r_var rfl (exv (sub_list (by simp [intsP]; lia) (intsP_get hd')) h)))) ⟨rfl, r_var rfl ?_⟩))
      refine .inl (mk23 (intsP now) i rfl rfl ⟨Int.natCast_nonneg i, by simp [intsP]; lia, small_of (by simp [intsP]; lia)⟩ ?_)
      rw [set_ints]
      refine x_cons (x_ite (t_cmp (r_cmp (r_sub (r_var rfl (r_var rfl (exv (sub_list (by simp [intsP]; lia) (intsP_get hset)) (r_var rfl (exb cmp_int1 (bo ?_))))))))))
      refine mb (fun h => ?_) fun h => ?_
      · have h' : ¬ plainI d = b := by simpa using h
        rw [if_neg h'] at hgo
        refine x_cons (x_asg (r_get (r_var rfl ?_)))
        refine r_tup (by decide) (rs_cons (r_var rfl (rs_cons (r_var rfl (rs_cons (r_tupleOf (r_var rfl ?_)))))))
        refine exv (tupleOf_ints (by lia)) ?_
        refine rs_cons (r_var rfl (rs_nil (r_int ?_)))
        refine exv get_ok ⟨rfl, ?_⟩
        refine x_cons (x_asg (r_get (r_var rfl ?_)))
        refine r_tup (by decide) (rs_cons (r_neg1 (rs_cons (r_neg1 (rs_cons (r_tupleOf (r_var rfl ?_)))))))
        refine exv (tupleOf_ints (by lia)) ?_
        refine rs_cons (r_var rfl (rs_nil (r_var rfl ?_)))
        refine exv get_ok ⟨rfl, ?_⟩
        refine x_nil (x_nil ?_)
        exact hin _ _ (mk40 _ _ _ _ (mk12 _ rfl hsl hgo))
      · have h' : plainI d = b := by simpa using h
        rw [if_pos h'] at hgo
        refine x_nil (x_nil ?_)
        exact hin _ _ (mk40 _ _ _ _ (mk12 _ rfl hsl hgo))
    · (refine el40 hI ?_; try clear hI; intro due now s6 s23 zr1; refine el12 zr1 ?_; clear zr1; intro s24 zq0 hnl hgo; subst zq0)
      rw [range_len] at hgo
      have hdr : (List.range c).drop c = [] := by simp
      rw [hdr] at hgo
      have hdue : due = nsN good st old new := by
        have h1 : dueGo (unionN good) new [] (due, now) = (due, now) := rfl
        rw [h1, due_same hs hp _ (fun i hi => List.mem_range.mp hi) (by simpa using ho)] at hgo
        unfold nsN
        rw [hn, ← hgo]
      refine x_cons (x_ret (r_cmp ?_))
      refine r_call (rs_cons (r_var rfl (rs_cons (r_var rfl (rs_cons (r_var rfl (rs_cons (r_var rfl (rs_nil ?_)))))))))
      refine r_fn (fn_ns _ _ (by rw [ho]; exact hro) (fun r hr => (hs r hr).seqT rfl) (by lia) (by lia)) ?_
      refine r_var rfl ?_
      refine (mk11 _ rfl ?_)
      rw [hdue]
      show Fl.rt (PV.bool (decide (_ = _))) = _
      rw [decide_eq_true rfl]
end Mine
end
section
open PySem PySem.W PyProof.Rows
set_option Elab.async false
set_option maxRecDepth 100000
set_option maxHeartbeats 1600000
namespace Mine
theorem dputAll_len : ∀ {m d : List (DK × Int)}, (dputAll d m).length ≤ d.length + m.length
  | [], d => Nat.le_refl _
  | (k, v) :: m, d => by
    have h1 := dputAll_len (m := m) (d := dput d k v)
    have h2 := dput_len (d := d) (k := k) (v := v)
    rw [dputAll, List.length_cons]
    lia
theorem comp_pl29 {n : Nat} {P : Reg} {Q : List PV → Reg → Prop} {ρ : Vw} {codes : List Int} (hx : ∀ v : PV, lk (ρ.set 29 (some v)) 29 = some v) (h : Q (intsP (codes.map plainI)) P) :
    Gv (compLoop (compElt (LV (n + 40)) (.ife (.cmp 0 (.var 29) (.int 2)) (.int 3) (.var 29)) Option.none (.one 29) ρ) (intsP codes) P) Q := by
  have e : intsP codes = codes.map PV.int := rfl
  rw [e]
  refine comp_one (enc := PV.int) (g := fun c => PV.int (plainI c)) (fun c hc => elt_eq (wp_ok srtF tab _) (mk11 _ rfl ?_)) ?_
  · exact ev_pl (k := 0) (v := c) (fun h => r_var (hx _) h) ⟨rfl, rfl⟩
  · have : codes.map (fun c => PV.int (plainI c)) = intsP (codes.map plainI) := by unfold intsP; rw [List.map_map]; rfl
    rw [this]; exact h
theorem law_mid {m : Nat} {l : List PV} {a0 a4 a6 a7 a8 a9 a10 a11 a12 a13 a15 : Slot} {seq : Bool} {c : Nat} {rows : List Rw} {kept : List Nat} (hl : PoolOK l)
    (hk : ∀ e ∈ kept, e < rows.length) (hkl : kept.length ≤ 6) (hrl : rows.length ≤ 6)
    (hs : ∀ r ∈ kept.map (fun e => rows.getD e rwD), Snd c seq r) (hp : (kept.map fun e => rows.getD e rwD).Pairwise (fun u v => confl (dictN u) (dictN v) = false)) (hc : c ≤ 3) :
    wSs (WP (m + 300)).ex (b_law.drop 13) ⟨[a0, .fz .pool, .fz (.bool seq), .fz (.int c), a4, .fz (.list (rows.map Rw.P)), a6, a7, a8, a9, a10, a11, a12, a13, .fz (.list (idx kept)), a15, .un, .un, .un, .un, .un, .un, .un, .un, .un, .un, .un, .un, .un, .un], some l⟩
      fun fl σ => fl = .rt (.bool true) := by
  dsimp only [b_law, List.drop]
  have hrl' : (rows.map Rw.P).length = rows.length := List.length_map ..
  generalize hg : kept.map (fun e => rows.getD e rwD) = good at hs hp
  have hgl : good.length ≤ 6 := by rw [← hg, List.length_map]; exact hkl
  refine x_cons (x_asgF (r_comp1 (r_var rfl (mk11 _ rfl ?_))))
  refine comp_one (enc := fun i : Nat => PV.int (i : Int)) (l := kept) (g := fun e => (rows.getD e rwD).P) (fun e he => elt_eq (wp_ok srtF tab _) (mk11 _ rfl ?_)) ?_
  · (refine el11 (get_lt (hk e he)) ?_; intro r hr _)
    have hrP : (rows.map Rw.P)[e]? = some (rows.getD e rwD).P := by rw [List.getElem?_map, List.getD_eq_getElem?_getD, hr]; rfl
    exact r_sub (r_var rfl (r_var rfl (exv (sub_list (by lia) hrP) ⟨rfl, rfl⟩)))
  have e1 : kept.map (fun e => (rows.getD e rwD).P) = good.map Rw.P := by rw [← hg, List.map_map]; rfl
  rw [e1]
  refine ⟨small_of (by rw [List.length_map]; lia), ?_⟩
  have hsl : opSliceTo (.tup [.sym 13, .sym 3, .sym 14]) (.int c) = some (.tup ([PV.sym 13, PV.sym 3, PV.sym 14].take c)) := by
    exact slice_tup ⟨Int.natCast_nonneg c, by lia, rfl⟩
  have htu : opTuple (.list (good.map Rw.P)) = some (.tup (good.map Rw.P)) := by
    have e : small (good.map Rw.P) = true := small_of (by rw [List.length_map]; lia)
    show (if small (good.map Rw.P) = true then some (PV.tup (good.map Rw.P)) else none) = _
    rw [if_pos e]
  refine x_cons (x_asgF (r_prim ?_))
  refine rs_cons (r_sym (by decide) ?_)
  refine rs_cons (r_int ?_)
  refine rs_cons (r_sym (by decide) ?_)
  refine rs_cons (r_sliceTo ?_)
  refine r_tup (by decide) (rs_cons (r_sym (by decide) ?_))
  refine rs_cons (r_sym (by decide) ?_)
  refine rs_cons (r_sym (by decide) ?_)
  refine rs_nil (r_var rfl (exv hsl ?_))
  refine rs_cons (r_var rfl ?_)
  refine rs_cons (r_int ?_)
  refine rs_cons (r_tupleOf (r_var rfl (exv htu ?_)))
  refine rs_nil ⟨rfl, ?_⟩
  refine x_cons (x_own rfl (r_dict0 ⟨rfl, ?_⟩))
  refine x_cons (x_for (r_var rfl (mk11 _ rfl ?_)))
  refine loop_ab (fun i σ => ∃ s18, σ = ⟨[a0, .fz .pool, .fz (.bool seq), .fz (.int c), a4, .fz (.list (rows.map Rw.P)), a6, a7, a8, a9, a10, a11, a12, a13, .fz (.list (idx kept)), .fz (primP (.sym 12) ([PV.sym 13, PV.sym 3, PV.sym 14].take c) seq (good.map Rw.P)), .fz (.list (good.map Rw.P)), .ow (.dict (unionN (good.take i))), s18, .un, .un, .un, .un, .un, .un, .un, .un, .un, .un, .un], some l⟩ ∧ (unionN (good.take i)).length ≤ 1296 * i) (mk11 _ rfl (Nat.zero_le _)) (fun I hin i x σ hx hI => ?_) (fun σ hI => ?_)
  · (refine el11 hI ?_; try clear hI; intro s18 zq0 hul; subst zq0)
    rw [List.getElem?_map] at hx
    (refine el11 (Option.map_eq_some_iff.mp hx) ?_; intro r hr' zq0; subst zq0)
    have sr := hs r (List.mem_of_getElem? hr')
    have hi6 : i < 6 := by have := (List.getElem?_eq_some_iff.mp hr').1; lia
    have hdn := dict_len sr.g.syms (by rw [sr.len]; exact hc) sr.g.st
    have hun : unionN (good.take (i + 1)) = dputAll (unionN (good.take i)) (dictN r) := by
      unfold unionN
      rw [List.take_add_one, hr', List.foldl_append]; rfl
    have hdl := dputAll_len (d := unionN (good.take i)) (m := dictN r)
    refine (mk11 _ rfl ?_)
    refine x_cons (x_upd rfl (r_call (rs_cons (r_var rfl (rs_nil ?_)))))
    refine r_fn (fn_st _ _ sr.g.syms (by rw [sr.len]; exact hc) sr.g.st sr.g.out) ?_
    refine (mk12 _ rfl ⟨by lia, by lia, dom_dict sr hc⟩ ?_)
    refine x_nil ?_
    exact hin _ _ (mk11 _ (by rw [hun]; rfl) (by rw [hun]; lia))
  · (refine el11 hI ?_; try clear hI; intro s18 zq0 hul; subst zq0)
    rw [List.length_map, List.take_length]
    refine x_cons (x_asgF (r_comp1 (r_var rfl (mk11 _ (range_it (by lia)) ?_))))
    refine comp_pick hl (fun v => rfl) fun old l1 ho hob hl1 => ⟨small_of (by simp [intsP]; lia), ?_⟩
    refine x_cons (x_asgF (r_comp1 (r_var rfl (mk11 _ (range_it (by lia)) ?_))))
    refine comp_pick hl1 (fun v => rfl) fun new l2 hn hnb hl2 => ⟨small_of (by simp [intsP]; lia), ?_⟩
    refine x_cons (x_asg (r_call (rs_cons (r_var rfl (rs_cons (r_int (rs_nil ?_)))))))
    refine r_fnG ((fn_pk _ (by decide) hl2).mono ?_)
    rintro _ _ ⟨st, l3, rfl, rfl, hl3, hst0, hst1⟩
    refine ⟨rfl, ?_⟩
    refine x_cons (x_own rfl (r_comp1 (r_var rfl (mk11 _ rfl ?_))))
    refine comp_pl29 (fun v => rfl) ⟨small_of (by simp [intsP]; lia), flat_ints _, ?_⟩
    exact law_tail hs hp hc ho hn
end Mine
end
section
open PySem PySem.W PyProof.Rows
set_option Elab.async false
set_option maxRecDepth 100000
set_option maxHeartbeats 1600000
namespace Mine
theorem srt_mem {l r : List PV} (h : srtF l = some r) : ∀ x ∈ r, x ∈ l ∨ x = .none := by
  (refine el02 (srtF_is h) ?_; intro _ _ zq0; subst zq0)
  intro x hx
  split at hx
  · exact .inl hx
  · (refine el11 (List.mem_map.mp hx) ?_; intro i _ zq0; subst zq0)
    rw [List.getD_eq_getElem?_getD]
    cases e : l[i]? with
    | none => exact .inr rfl
    | some y => exact .inl (List.mem_of_getElem? e)
theorem eqL_refl {l : List PV} (h : ∀ x ∈ l, x.eq x = true) : eqL l l = true := by
  induction l with
  | nil => rfl
  | cons x l ih =>
    show (x.eq x && eqL l l) = true
    rw [h x (.head _), ih fun y hy => h y (.tail _ hy)]; rfl
theorem ft_eq {p : PV} (h : isFt p) : p.eq p = true ∧ p.safe 5 = true := by
  (refine el21 h ?_; try clear h; intro k i hk zq0; subst zq0)
  refine ⟨?_, ?_⟩
  · show (Nat.beq k k && (decide (i = i) && true)) = true
    simp
  · show (Nat.blt k stN && (true && true)) = true
    rw [show Nat.blt k stN = true from Nat.ble_eq_true_of_le hk]; rfl
theorem cmp_same {r : List PV} (h : ∀ x ∈ r, isFt x ∨ x = .none) : opCmp 1 (.list r) (.list r) = some false := by
  have hs : (PV.list r).safe 6 = true := safeL_of fun x hx => by
    rcases h x hx with q | rfl
    · exact (ft_eq q).2
    · rfl
  have he : (PV.list r).eq (.list r) = true := eqL_refl fun x hx => by
    rcases h x hx with q | rfl
    · exact (ft_eq q).1
    · rfl
  show (if ((PV.list r).safe 6 && (PV.list r).safe 6) = true then some (!(PV.list r).eq (.list r)) else none) = _
  have e : ((PV.list r).safe 6 && (PV.list r).safe 6) = true := by rw [hs]; rfl
  rw [if_pos e, he]; rfl
theorem law_low {m : Nat} {l : List PV} {a0 a4 a6 a7 a8 a9 a10 a11 a13 a14 a15 : Slot} {seq : Bool} {c : Nat} {rows : List Rw} {outp : PV} {inps : List PV} (hl : PoolOK l)
    (hr : ∀ r ∈ rows, RwL seq r) (hr4 : ∀ r ∈ rows, r.ins.length ≤ 4) (hz : rows.length ≤ 6) (ho : outp ∈ nmL) (hi : ∀ x ∈ inps, x ∈ nmL) (hic : inps.length = c) (hc : c ≤ 3) :
    wSs (WP (m + 330)).ex (b_law.drop 10) ⟨[a0, .fz .pool, .fz (.bool seq), .fz (.int c), a4, .fz (.list (rows.map Rw.P)), a6, a7, a8, a9, a10, a11, .fz (.list (outp :: inps)), a13, a14, a15, .un, .un, .un, .un, .un, .un, .un, .un, .un, .un, .un, .un, .un, .un], some l⟩
      fun fl σ => fl = .rt (.bool true) := by
  (refine el10 (lf_sorts (names := outp :: inps) (seq := seq) (rows := rows) (by simp; lia) hz hr4) ?_; intro srt hsrt)
  have hg : ∀ r ∈ rows, RwG r := fun r h => (hr r h).g
  have hnm : ∀ x ∈ outp :: inps, x ∈ nmL := fun x hx => by
    rcases List.mem_cons.mp hx with rfl | hx
    · exact ho
    · exact hi x hx
  (refine el03 (good_ok (names := outp :: inps) (seq := seq) hr) ?_; intro g1 g2 g3 g4)
  have hsm : small (rows.map Rw.P) = true := small_of (by rw [List.length_map]; lia)
  have htu : opTuple (.list (rows.map Rw.P)) = some (.tup (rows.map Rw.P)) := by
    show (if small (rows.map Rw.P) = true then some (PV.tup (rows.map Rw.P)) else none) = _
    rw [if_pos hsm]
  have hti : opTuple (.list inps) = some (.tup inps) := by
    have e : small inps = true := small_of (by lia)
    show (if small inps = true then some (PV.tup inps) else none) = _
    rw [if_pos e]
  have hsf : opSliceFrom1 (.list (outp :: inps)) = some (.list inps) := by
    have e : small (outp :: inps) = true := small_of (by simp; lia)
    show (if small (outp :: inps) = true then some (PV.list ((outp :: inps).drop 1)) else none) = _
    rw [if_pos e]; rfl
  show wSs (WP (m + 330)).ex (.unp [13, 14] (.call 20 [(.var 12), (.var 2), (.var 5)]) :: .asgF 15 (.prim [(.sym 15), (.int 0), (.sub (.var 12) (.int 0)), (.tupleOf (.sliceFrom1 (.var 12))), (.var 2), (.int 3), (.tupleOf (.var 5))]) ::
    .ite (.cmp 1 (.sorted (.call 5 [(.var 15)])) (.var 13)) [.ret (.bool false)] [] :: b_law.drop 13) _ _
  refine x_cons (x_unp (r_call (rs_cons (r_var rfl (rs_cons (r_var rfl (rs_cons (r_var rfl (rs_nil ?_)))))))))
  refine r_fn (fn_lf _ _ hg hnm (by simp) (by simp; lia) (by lia) hsrt) ?_
  refine (mk22 _ _ rfl rfl ?_)
  refine x_cons (x_asgF (r_prim ?_))
  refine rs_cons (r_sym (by decide) ?_)
  refine rs_cons (r_int ?_)
  refine rs_cons (r_sub (r_var rfl (r_int (exv (sub_list (i := 0) (x := outp) (by simp; lia) rfl) ?_))))
  refine rs_cons (r_tupleOf (r_sliceFrom1 (r_var rfl (exv hsf (exv hti ?_)))))
  refine rs_cons (r_var rfl ?_)
  refine rs_cons (r_int ?_)
  refine rs_cons (r_tupleOf (r_var rfl (exv htu ?_)))
  refine rs_nil ⟨rfl, ?_⟩
  refine x_cons (x_ite (t_cmp (r_cmp (r_sorted (r_call (rs_cons (r_var rfl (rs_nil ?_))))))))
  refine r_fn (fn_cp _ _ hg ho hi (by lia) (by lia)) ?_
  refine (mk22 _ srt rfl (by rw [faults_same hr]; exact hsrt) (r_var rfl ?_))
  have hft : ∀ x ∈ srt, isFt x ∨ x = .none := by
    (refine el32 (lf_ft (nin := (outp :: inps).length - 1) (seq := seq) (f0 := dupN [] (outp :: inps) ++ (if rows.isEmpty = true then [ftP (.sym 17) (-1)] else [])) hr4 (fun x hx => by
      rcases List.mem_append.mp hx with hx | hx
      · exact dup_ft x hx
      · split at hx
        · exact (mk21 17 (-1) (by decide) (by simpa using hx))
        · cases hx) rows.length (Nat.le_refl _)) ?_; intro f ds kept h1 h2 h3)
    have e : lfN (outp :: inps) seq rows = (f, ds, kept) := h1
    rw [e] at hsrt
    exact fun x hx => (srt_mem hsrt x hx).imp (h2 x) id
  refine exb (cmp_same hft) (bo ?_)
  refine x_nil ?_
  have e1 : (outp :: inps).length - 1 = c := by simp [hic]
  rw [e1] at g1
  exact law_mid hl g3 (by lia) hz g1 g2 hc
end Mine
end
section
open PySem PySem.W PyProof.Rows
set_option Elab.async false
set_option maxRecDepth 100000
set_option maxHeartbeats 1600000
namespace Mine
theorem law_names {m : Nat} {l : List PV} {a0 a6 a7 a8 a9 a10 a11 a12 a13 a14 a15 : Slot} {seq odd : Bool} {c : Nat} {rows : List Rw} (hl : PoolOK l)
    (hr : ∀ r ∈ rows, RwL seq r) (hr4 : ∀ r ∈ rows, r.ins.length ≤ 4) (hz : rows.length ≤ 6) (hc1 : 1 ≤ c) (hc : c ≤ 3) :
    wSs (WP (m + 340)).ex (b_law.drop 6) ⟨[a0, .fz .pool, .fz (.bool seq), .fz (.int c), .fz (.bool odd), .ow (.list (rows.map Rw.P)), a6, a7, a8, a9, a10, a11, a12, a13, a14, a15, .un, .un, .un, .un, .un, .un, .un, .un, .un, .un, .un, .un, .un, .un], some l⟩
      fun fl σ => fl = .rt (.bool true) := by
  have rest : ∀ (names : List PV) (l : List PV), PoolOK l → names.length = c + 1 → (∀ x ∈ names, x ∈ nmL) → wSs (WP (m + 340)).ex (.freeze 12 :: .freeze 5 :: b_law.drop 10) ⟨[a0, .fz .pool, .fz (.bool seq), .fz (.int c), .fz (.bool odd), .ow (.list (rows.map Rw.P)), a6, a7, a8, a9, a10, a11, .ow (.list names), a13, a14, a15, .un, .un, .un, .un, .un, .un, .un, .un, .un, .un, .un, .un, .un, .un], some l⟩
      fun fl σ => fl = .rt (.bool true) := by
    intro names l hl hn hnm
    cases names with
    | nil => simp at hn
    | cons outp inps =>
      refine x_cons (x_freeze rfl ?_)
      refine x_cons (x_freeze rfl ?_)
      exact law_low (m := m + 10) hl hr hr4 hz (hnm _ (.head _)) (fun x hx => hnm x (.tail _ hx)) (by simpa using hn) hc
  have hsl : opSliceTo (.list nmL) (.int ((c : Int) + 1)) = some (.list (nmL.take (c + 1))) := by
    rw [slice_list ⟨by lia, by lia, rfl⟩]; rfl
  have htl : (nmL.take (c + 1)).length = c + 1 := by
    rw [List.length_take]
    show min (c + 1) 4 = c + 1
    lia
  have htm : ∀ x ∈ nmL.take (c + 1), x ∈ nmL := fun x hx => List.mem_of_mem_take hx
  have hfl : ∀ l : List PV, (∀ x ∈ l, x ∈ nmL) → flatL l = true := by
    intro l
    induction l with
    | nil => intro _; rfl
    | cons x l ih =>
      intro h
      show (x.flat && flatL l) = true
      rw [flat_nm x (h x (.head _)), ih fun y hy => h y (.tail _ hy)]; rfl
  show wSs (WP (m + 340)).ex (.own 12 (.sliceTo (.list [(.sym 12), (.sym 13), (.sym 3), (.sym 14)]) (.bin 0 (.var 3) (.int 1))) ::
    .ite (.and (.var 4) (.cmp 0 (.call 16 [(.var 1), (.int 2)]) (.int 1))) [.setIt 12 (.var 3) (.sub (.var 12) (.call 16 [(.var 1), (.var 3)]))] [] :: .freeze 12 :: .freeze 5 :: b_law.drop 10) _ _
  refine x_cons (x_own rfl (r_sliceTo ?_))
  refine r_list (by decide) ?_
  refine rs_cons (r_sym (by decide) ?_)
  refine rs_cons (r_sym (by decide) ?_)
  refine rs_cons (r_sym (by decide) ?_)
  refine rs_cons (r_sym (by decide) ?_)
  refine rs_nil (r_bin (r_var rfl (r_int (exv rfl (exv hsl ?_)))))
  refine ⟨hfl _ htm, ?_⟩
  refine x_cons (x_ite (t_and (t_var (r_var rfl (bo ?_)))))
  cases odd with
  | false => exact x_nil (rest _ _ hl htl htm)
  | true =>
    refine t_cmp (r_cmp (r_call (rs_cons (r_var rfl (rs_cons (r_int (rs_nil ?_)))))))
    refine r_fnG ((fn_pk _ (by decide) hl).mono ?_)
    rintro _ _ ⟨v, l1, rfl, rfl, hl1, hv0, hv1⟩
    refine r_int (exb rfl (bo ?_))
    refine mb (fun h => ?_) fun h => ?_
    · refine x_cons (x_set (r_sub (r_var rfl (r_call (rs_cons (r_var rfl (rs_cons (r_var rfl (rs_nil ?_)))))))))
      refine r_fnG ((fn_pk _ (by lia) hl1).mono ?_)
      rintro _ _ ⟨w, l2, rfl, rfl, hl2, hw0, hw1⟩
      (refine el10 (⟨w.toNat, by lia⟩ : ∃ k : Nat, w = k) ?_; intro k zq0; subst zq0)
      (refine el11 (get_lt (l := nmL.take (c + 1)) (i := k) (by lia)) ?_; intro x hx hxm)
      refine exv (sub_list (by lia) hx) ⟨flat_nm x (htm x hxm), r_var rfl ?_⟩
      refine .inl (mk23 (nmL.take (c + 1)) c rfl rfl ⟨Int.natCast_nonneg c, by simp [htl], small_of (by lia)⟩ ?_)
      refine x_nil ?_
      refine rest _ _ hl2 (by rw [List.length_set]; exact htl) fun y hy => ?_
      rcases List.mem_or_eq_of_mem_set hy with hy | rfl
      · exact htm y hy
      · exact htm _ hxm
    · exact x_nil (rest _ _ hl1 htl htm)
end Mine
end
section
open PySem PySem.W PyProof.Rows
set_option Elab.async false
set_option maxRecDepth 100000
set_option maxHeartbeats 1600000
namespace Mine
section
variable {n : Nat} {ρ : Vw} {l : List PV} {Q : PV → Reg → Prop} {seq odd : Bool} {c : Nat}
theorem ev_pick {b : Int} (hb : 0 < b) (hl : PoolOK l) (h1 : lk ρ 1 = some .pool) (h : ∀ v l', PoolOK l' → 0 ≤ v → v < b → Q (.int v) (some l')) : (WP (n + 70)).ev (.call 16 [(.var 1), (.int b)]) ρ (some l) Q := by
  refine r_call (rs_cons (r_var h1 (rs_cons (r_int (rs_nil (r_fnG ((fn_pk _ hb hl).mono ?_)))))))
  rintro _ _ ⟨v, l', rfl, rfl, hl', h0, h1⟩
  exact h v l' hl' h0 h1
theorem ev_edges (hl : PoolOK l) (h1 : lk ρ 1 = some .pool) (h4 : lk ρ 4 = some (.bool odd)) (h2 : lk ρ 2 = some (.bool seq)) (h : ∀ e l', PoolOK l' → Q (.bool e) (some l')) : (WP (n + 90)).ev (.or (.var 4) (.and (.var 2) (.cmp 0 (.call 16 [(.var 1), (.int 2)]) (.int 1)))) ρ (some l) Q := by
  refine r_or (r_var h4 (mk11 odd rfl ?_))
  cases odd with
  | true => exact h true l hl
  | false =>
    refine r_and (r_var h2 (mk11 seq rfl ?_))
    cases seq with
    | false => exact h false l hl
    | true =>
      refine r_cmp (ev_pick (by decide) hl h1 fun v l' hl' _ _ => ?_)
      exact r_int (exb rfl (h _ l' hl'))
theorem ev_size (hl : PoolOK l) (h1 : lk ρ 1 = some .pool) (h4 : lk ρ 4 = some (.bool odd)) (h3 : lk ρ 3 = some (.int c)) (hc1 : 1 ≤ c) (hc : c ≤ 3) (h : ∀ (k : Nat) l', PoolOK l' → k ≤ 4 → Q (.int k) (some l')) : (WP (n + 90)).ev (.ife (.var 4) (.bin 1 (.bin 0 (.var 3) (.call 16 [(.var 1), (.int 3)])) (.int 1)) (.var 3)) ρ (some l) Q := by
  refine r_ife (t_var (r_var h4 (bo ?_)))
  cases odd with
  | true =>
    refine r_bin (r_bin (r_var h3 (ev_pick (by decide) hl h1 fun v l' hl' h0 h1 => ?_)))
    refine exv rfl (r_int (exv rfl ?_))
    (refine el10 (⟨((c : Int) + v - 1).toNat, by lia⟩ : ∃ k : Nat, (c : Int) + v - 1 = k) ?_; intro k hk)
    rw [hk]
    exact h k l' hl' (by lia)
  | false => exact r_var h3 (h c l hl (by lia))
theorem ev_sym {b7 : Bool} {s8 v25 : Int} (hl : PoolOK l) (h1 : lk ρ 1 = some .pool) (h7 : lk ρ 7 = some (.bool b7)) (h4 : lk ρ 4 = some (.bool odd)) (h8 : lk ρ 8 = some (.int s8)) (h25 : lk ρ 25 = some (.int v25)) (h : ∀ s l', PoolOK l' → s ∈ syms → Q s (some l')) : (WP (n + 120)).ev (.call 21 [(.var 1), (.and (.var 7) (.or (.var 4) (.cmp 0 (.var 25) (.var 8))))]) ρ (some l) Q := by
  have go : ∀ {k : Nat} {e : Bool}, wEs (WP (k + 110)).ev [] ρ (some l) fun vs P₂ => (WP (k + 110)).fn 21 (.pool :: .bool e :: vs) P₂ Q := by
    intro k e
    refine rs_nil (r_fnG ((fn_sy _ hl).mono ?_))
    rintro s _ ⟨l', rfl, hl', hs⟩
    exact h s l' hl' hs
  refine r_call (rs_cons (r_var h1 (rs_cons (r_and (r_var h7 (mk11 b7 rfl ?_))))))
  cases b7 with
  | false => exact go (k := n + 9)
  | true =>
    refine r_or (r_var h4 (mk11 odd rfl ?_))
    cases odd with
    | true => exact go (k := n + 9)
    | false => exact r_cmp (r_var h25 (r_var h8 (exb rfl (go (k := n + 9)))))
theorem ev_state (hl : PoolOK l) (h1 : lk ρ 1 = some .pool) (h2 : lk ρ 2 = some (.bool seq)) (h : ∀ st l', PoolOK l' → stN2 st → (seq = true → st ∈ levs) → (seq = false → st = .none) → Q st (some l')) : (WP (n + 90)).ev (.ife (.var 2) (.strAt [4, 0, 1, 3, 2] (.call 16 [(.var 1), (.int 5)])) .none) ρ (some l) Q := by
  refine r_ife (t_var (r_var h2 (bo ?_)))
  cases seq with
  | false => exact r_none (h .none l hl (.inl rfl) (fun q => by cases q) fun _ => rfl)
  | true =>
    refine r_strAt (ev_pick (by decide) hl h1 fun v l' hl' h0 h1 => ?_)
    (refine el11 (strAt_ok (cs := [4, 0, 1, 3, 2]) h0 (by simpa using h1) (by decide) (by decide)) ?_; intro k hk e)
    have hm := sym_levs ((by decide : ∀ k ∈ [4, 0, 1, 3, 2], k < 5) k hk)
    exact exv e (h _ l' hl' (.inr hm) (fun _ => hm) fun q => by cases q)
theorem ev_out (hl : PoolOK l) (h1 : lk ρ 1 = some .pool) (h2 : lk ρ 2 = some (.bool seq)) (h4 : lk ρ 4 = some (.bool odd)) (h : ∀ o l', PoolOK l' → o ∈ outs → Q o (some l')) : (WP (n + 100)).ev (.strAt [0, 1, 2, 11] (.call 16 [(.var 1), (.ife (.or (.var 2) (.var 4)) (.int 4) (.int 3))])) ρ (some l) Q := by
  have fin : ∀ {v : Int} {l'}, PoolOK l' → 0 ≤ v → v < 4 → ∃ r, opStrAt [0, 1, 2, 11] (.int v) = some r ∧ Q r (some l') := by
    intro v l' hl' h0 h1
    (refine el11 (strAt_ok (cs := [0, 1, 2, 11]) h0 (by simpa using h1) (by decide) (by decide)) ?_; intro k hk e)
    refine exv e (h _ l' hl' ?_)
    simp only [List.mem_cons, List.not_mem_nil, or_false] at hk
    rcases hk with rfl | rfl | rfl | rfl <;> simp [outs]
  have p4 : ∀ {k : Nat} {b : Int}, 0 < b → b ≤ 4 → wEs (WP (k + 80)).ev [] ρ (some l) fun vs P₂ => (WP (k + 80)).fn 16 (.pool :: .int b :: vs) P₂ fun x P₁ => ∃ r, opStrAt [0, 1, 2, 11] x = some r ∧ Q r P₁ := by
    intro k b hb hb4
    refine rs_nil (r_fnG ((fn_pk _ hb hl).mono ?_))
    rintro _ _ ⟨v, l', rfl, rfl, hl', q0, q1⟩
    exact fin hl' q0 (by lia)
  refine r_strAt (r_call (rs_cons (r_var h1 (rs_cons (r_ife (t_or (t_var (r_var h2 (bo ?_)))))))))
  cases seq with
  | true => exact r_int (p4 (k := n + 18) (by decide) (by decide))
  | false =>
    refine t_var (r_var h4 (bo ?_))
    cases odd with
    | true => exact r_int (p4 (k := n + 18) (by decide) (by decide))
    | false => exact r_int (p4 (k := n + 18) (by decide) (by decide))
end
end Mine
end
section
open PySem PySem.W PyProof.Rows
set_option Elab.async false
set_option maxRecDepth 100000
set_option maxHeartbeats 1600000
namespace Mine
theorem flat_syms : ∀ s ∈ syms, s.flat = true := by decide +kernel
theorem flat_levs : ∀ s ∈ levs, s.flat = true := by decide +kernel
theorem flat_outs : ∀ s ∈ outs, s.flat = true := by decide +kernel
theorem flatL_of {l : List PV} (h : ∀ x ∈ l, x.flat = true) : flatL l = true := by
  induction l with
  | nil => rfl
  | cons x l ih =>
    show (x.flat && flatL l) = true
    rw [h x (.head _), ih fun y hy => h y (.tail _ hy)]; rfl
theorem law_rows {m : Nat} {l : List PV} {a0 : Slot} {seq odd : Bool} {c : Nat} (hl : PoolOK l) (hc1 : 1 ≤ c) (hc : c ≤ 3) :
    wSs (WP (m + 400)).ex (b_law.drop 5) ⟨[a0, .fz .pool, .fz (.bool seq), .fz (.int c), .fz (.bool odd), .ow (.list []), .un, .un, .un, .un, .un, .un, .un, .un, .un, .un, .un, .un, .un, .un, .un, .un, .un, .un, .un, .un, .un, .un, .un, .un], some l⟩
      fun fl σ => fl = .rt (.bool true) := by
  have L : ∀ (n : Nat) (l : List PV), n ≤ 6 → PoolOK l → Gv (loopS (bodyOf (LV (m + 399)) (.one 6) [.asg 7 (.or (.var 4) (.and (.var 2) (.cmp 0 (.call 16 [(.var 1), (.int 2)]) (.int 1)))),
    .asg 8 (.call 16 [(.var 1), (.var 3)]),
    .asg 9 (.ife (.var 4) (.bin 1 (.bin 0 (.var 3) (.call 16 [(.var 1), (.int 3)])) (.int 1)) (.var 3)),
    .asg 10 (.tupleOf (.comp1 (.call 21 [(.var 1), (.and (.var 7) (.or (.var 4) (.cmp 0 (.var 25) (.var 8))))]) (.one 25) .rng (.var 9) Option.none [25, 27, 28])),
    .asg 11 (.ife (.var 2) (.strAt [4, 0, 1, 3, 2] (.call 16 [(.var 1), (.int 5)])) .none),
    .app 5 (.tup [(.var 10), (.var 11), (.strAt [0, 1, 2, 11] (.call 16 [(.var 1), (.ife (.or (.var 2) (.var 4)) (.int 4) (.int 3))]))])]) (rangeV n)
      ⟨[a0, .fz .pool, .fz (.bool seq), .fz (.int c), .fz (.bool odd), .ow (.list []), .un, .un, .un, .un, .un, .un, .un, .un, .un, .un, .un, .un, .un, .un, .un, .un, .un, .un, .un, .un, .un, .un, .un, .un], some l⟩)
      fun fl σ => match fl with
        | .nx => wSs (WP (m + 400)).ex (b_law.drop 6) σ fun fl σ => fl = .rt (.bool true)
        | fl => fl = .rt (.bool true) := by
    intro n l hn hl
    refine loop_ab (fun i σ => ∃ (rows : List Rw) (l : List PV) (s6 s7 s8 s9 s10 s11 : Slot), σ = ⟨[a0, .fz .pool, .fz (.bool seq), .fz (.int c), .fz (.bool odd), .ow (.list (rows.map Rw.P)), s6, s7, s8, s9, s10, s11, .un, .un, .un, .un, .un, .un, .un, .un, .un, .un, .un, .un, .un, .un, .un, .un, .un, .un], some l⟩ ∧ PoolOK l ∧ rows.length = i ∧
      (∀ r ∈ rows, RwL seq r) ∧ (∀ r ∈ rows, r.ins.length ≤ 4)) (mk40 ([]) l _ _ (mk44 _ _ _ _ rfl hl rfl (fun _ q => nomatch q) (fun _ q => nomatch q))) (fun I hin i x σ hx hI => ?_) (fun σ hI => ?_)
    · (refine el01 (range_at hx) ?_; intro hi zq0; subst zq0)
      (refine el40 hI ?_; try clear hI; intro rows l s6 s7 zr1; refine el44 zr1 ?_; clear zr1; intro s8 s9 s10 s11 zq0 hl hrl hr hr4; subst zq0)
      refine (mk11 _ rfl ?_)
      refine x_cons (x_asg (ev_edges hl rfl rfl rfl fun b7 l hl => ⟨rfl, ?_⟩))
      refine x_cons (x_asg (r_call (rs_cons (r_var rfl (rs_cons (r_var rfl (rs_nil ?_)))))))
      refine r_fnG ((fn_pk _ (by lia) hl).mono ?_)
      rintro _ _ ⟨v8, l, rfl, rfl, hl, _, _⟩
      refine ⟨rfl, ?_⟩
      refine x_cons (x_asg (ev_size hl rfl rfl rfl hc1 hc fun k l hl hk => ⟨rfl, ?_⟩))
      refine x_cons (x_asg (r_tupleOf (r_comp1 (r_var rfl (mk11 _ (range_it (by lia)) ?_)))))
      refine comp_pool (J := fun s => s ∈ syms) (fun x hx l hl => ?_) hl fun vs l hv hJ hl => ?_
      · (refine el10 (List.getElem?_of_mem hx) ?_; intro j hj)
        (refine el01 (range_at hj) ?_; intro _ zq0; subst zq0)
        refine wElt_ok (wp_ok srtF tab _) (mk11 _ rfl ?_)
        exact ev_sym hl rfl rfl rfl rfl rfl fun s l' hl' hs => (mk23 s l' rfl rfl hl' hs)
      · rw [range_len] at hv
        have hsm : small vs = true := small_of (by lia)
        refine ⟨hsm, ?_⟩
        have htu : opTuple (.list vs) = some (.tup vs) := by
          show (if small vs = true then some (PV.tup vs) else none) = _
          rw [if_pos hsm]
        refine exv htu ⟨flatL_of fun s hs => flat_syms s (hJ s hs), ?_⟩
        refine x_cons (x_asg (ev_state hl rfl rfl fun st l hl hst h1 h2 => ⟨?_, ?_⟩))
        · rcases hst with rfl | h
          · rfl
          · exact flat_levs st h
        refine x_cons (x_app rfl (r_tup (by decide) (rs_cons (r_var rfl (rs_cons (r_var rfl (rs_cons ?_)))))))
        refine ev_out hl rfl rfl rfl fun o l hl ho => rs_nil ⟨?_, x_nil ?_⟩
        · have e1 : flatL vs = true := flatL_of fun s hs => flat_syms s (hJ s hs)
          have e2 : st.flat = true := by
            rcases hst with rfl | h
            · rfl
            · exact flat_levs st h
          rw [small_of (l := rows.map Rw.P) (by rw [List.length_map]; lia)]
          show ((flatL vs && (st.flat && (o.flat && true))) && true) = true
          rw [e1, e2, flat_outs o ho]; rfl
        · refine hin _ _ (mk40 (rows ++ [⟨vs, st, o⟩]) l _ _ (mk44 _ _ _ _ (by rw [List.map_append]; rfl) hl (by simp [hrl]) (fun r hrm => ?_) (fun r hrm => ?_)))
          · rcases List.mem_append.mp hrm with q | q
            · exact hr r q
            · rw [List.mem_singleton] at q
              subst q
              exact ⟨⟨hJ, by show vs.length < 10; lia, hst, ho⟩, h1, h2⟩
          · rcases List.mem_append.mp hrm with q | q
            · exact hr4 r q
            · rw [List.mem_singleton] at q
              subst q
              show vs.length ≤ 4
              lia
    · (refine el40 hI ?_; try clear hI; intro rows l s6 s7 zr1; refine el44 zr1 ?_; clear zr1; intro s8 s9 s10 s11 zq0 hl hrl hr hr4; subst zq0)
      rw [range_len] at hrl
      exact law_names (m := m + 60) hl hr hr4 (by lia) hc1 hc
  show wSs (WP (m + 400)).ex (.for (.one 6) .rng (.ife (.not (.var 4)) (.bin 0 (.int 1) (.call 16 [(.var 1), (.int 6)])) (.call 16 [(.var 1), (.int 3)])) _ :: b_law.drop 6) _ _
  refine x_cons (x_for (r_ife (t_not (t_var (r_var rfl (bo ?_))))))
  cases odd with
  | false =>
    refine r_bin (r_int (ev_pick (by decide) hl rfl fun v l' hl' h0 h1 => exv rfl ?_))
    (refine el10 (⟨(1 + v).toNat, by lia⟩ : ∃ k : Nat, 1 + v = k) ?_; intro k hk)
    rw [hk]
    exact (mk11 _ (range_it (by lia)) (L k l' (by lia) hl'))
  | true =>
    refine ev_pick (by decide) hl rfl fun v l' hl' h0 h1 => ?_
    (refine el10 (⟨v.toNat, by lia⟩ : ∃ k : Nat, v = k) ?_; intro k zq0; subst zq0)
    exact (mk11 _ (range_it (by lia)) (L k l' (by lia) hl'))
end Mine
end
section
open PySem PySem.W PyProof.Rows
set_option Elab.async false
set_option maxRecDepth 100000
set_option maxHeartbeats 1600000
namespace Mine
theorem law_head {m : Nat} {l : List PV} {ns : List Int} (hl : PoolOK l) : wSs (WP (m + 400)).ex (b_law.drop 1) ⟨law1 ns, some l⟩ fun fl σ => fl = .rt (.bool true) := by
  show wSs (WP (m + 400)).ex (.asg 2 (.cmp 0 (.call 16 [(.var 1), (.int 2)]) (.int 1)) :: .asg 3 (.bin 0 (.int 1) (.call 16 [(.var 1), (.int 3)])) :: .asg 4 (.cmp 0 (.call 16 [(.var 1), (.int 6)]) (.int 5)) :: .own 5 (.list []) :: b_law.drop 5) _ _
  refine x_cons (x_asg (r_cmp (ev_pick (by decide) hl rfl fun v l hl _ _ => ?_)))
  refine r_int (exb rfl ⟨rfl, ?_⟩)
  refine x_cons (x_asg (r_bin (r_int (ev_pick (by decide) hl rfl fun w l hl h0 h1 => exv rfl ?_))))
  (refine el10 (⟨(1 + w).toNat, by lia⟩ : ∃ c : Nat, 1 + w = c) ?_; intro c hc)
  rw [hc]
  refine ⟨rfl, ?_⟩
  refine x_cons (x_asg (r_cmp (ev_pick (by decide) hl rfl fun u l hl _ _ => ?_)))
  refine r_int (exb rfl ⟨rfl, ?_⟩)
  refine x_cons (x_own rfl (r_list (by decide) (rs_nil ⟨rfl, ?_⟩)))
  exact law_rows hl (by lia) (by lia)
theorem law_plain (ns : List Int) (hn : ns.length ≤ 63) : Plain 399 ns := by
  (refine el34 (pool_ok 339 ns hn) ?_; intro figs mix σ₁ hf h0 h1 e1 e2)
  have hl : PoolOK [.list (intsP figs), .int 0, .int mix] := ⟨figs, 0, mix, rfl, hf, h0, h1⟩
  (refine el21 (wSs_ok (wp_ok srtF tab _) (law_head (m := 0) (ns := ns) hl)) ?_; intro fl σ₂ e3 zq0; subst zq0)
  exact (mk42 figs mix σ₁ σ₂ e1 e2 e3)
end Mine
end
section
open PySem PySem.W PyProof.Rows
set_option maxRecDepth 100000
set_option maxHeartbeats 8000000
namespace Mine
noncomputable def all_holds.tw13085085621083108877 := 0
noncomputable def all_holds.tw8564543964102342025 := 0
noncomputable def all_holds.tw7759228716574556594 := 0
noncomputable def all_holds.tw5618954821388150930 := 0
noncomputable def all_holds.tw13563316771521875092 := 0
noncomputable def all_holds.tw16658917370186742867 := 0
noncomputable def all_holds.tw17889568433268425827 := 0
noncomputable def all_holds.tw1407735508856071232 := 0
noncomputable def all_holds.tw1503291997987158214 := 0
noncomputable def all_holds.tw8214569427096845668 := 0
noncomputable def all_holds.tw4991908880863821003 := 0
noncomputable def all_holds.tw17634819419149597970 := 0
noncomputable def all_holds.tw1025857336305287381 := 0
noncomputable def all_holds.tw10051206938755394043 := 0
noncomputable def all_holds.tw7499981635143797521 := 0
noncomputable def all_holds.tw5978467386350483709 := 0
noncomputable def all_holds.tw18301763959805303403 := 0
noncomputable def all_holds.tw9136635753298984944 := 0
noncomputable def all_holds.tw17940749473541953431 := 0
noncomputable def all_holds.tw14023211287400283899 := 0
noncomputable def all_holds.tw4151323953197819294 := 0
noncomputable def all_holds.tw12033518129128010562 := 0
noncomputable def all_holds.tw16967418348821436368 := 0
noncomputable def all_holds.tw3829936568727498429 := 0
noncomputable def all_holds.tw12397765934662115641 := 0
noncomputable def all_holds.tw6108229625908722249 := 0
noncomputable def all_holds.tw14618713739055966213 := 0
noncomputable def all_holds.tw17833602431976685879 := 0
noncomputable def all_holds.tw1075853844792877133 := 0
noncomputable def all_holds.tw10041909421219069937 := 0
noncomputable def all_holds.tw5617924241074089704 := 0
noncomputable def all_holds.tw15339930262969405453 := 0
noncomputable def all_holds.tw4971965452366108598 := 0
noncomputable def all_holds.tw18111452185668571025 := 0
noncomputable def all_holds.tw17861148295375298100 := 0
noncomputable def all_holds.tw86147145070378410 := 0
noncomputable def all_holds.tw9454085503416269205 := 0
noncomputable def all_holds.tw17931754711171414106 := 0
noncomputable def all_holds.tw584710756258799666 := 0
noncomputable def all_holds.tw17816171693271421149 := 0
noncomputable def all_holds.tw9633214040806789360 := 0
noncomputable def all_holds.tw17442262991746490834 := 0
noncomputable def all_holds.tw4649547627389107851 := 0
noncomputable def all_holds.tw7328514771526487459 := 0
noncomputable def all_holds.tw16812422930558042216 := 0
noncomputable def all_holds.tw6853787732010879013 := 0
noncomputable def all_holds.tw18164795900465507600 := 0
noncomputable def all_holds.tw554053706070218351 := 0
noncomputable def all_holds.tw3230760800617955952 := 0
noncomputable def all_holds.tw17337086510288483012 := 0
noncomputable def all_holds.tw1462597305873704418 := 0
noncomputable def all_holds.tw1809930953424571237 := 0
noncomputable def all_holds.tw2315618251751209632 := 0
noncomputable def all_holds.tw10593545967968534356 := 0
noncomputable def all_holds.tw9178936762776635515 := 0
noncomputable def all_holds.tw17653470786513234111 := 0
noncomputable def all_holds.tw7777682108732903190 := 0
noncomputable def all_holds.tw2149253983184857746 := 0
noncomputable def all_holds.tw17257654919762229271 := 0
noncomputable def all_holds.tw1638907456589152897 := 0
noncomputable def all_holds.tw4505828978065530799 := 0
noncomputable def all_holds.tw13385269179373207933 := 0
noncomputable def all_holds.tw14150154305834335487 := 0
noncomputable def all_holds.tw11376813040197786131 := 0
noncomputable def all_holds.tw16691268238340345379 := 0
noncomputable def all_holds.tw10979515137232515775 := 0
noncomputable def all_holds.tw6352576148961486321 := 0
noncomputable def all_holds.tw2682810765050783493 := 0
noncomputable def all_holds.tw4771409974062449708 := 0
noncomputable def all_holds.tw5010441419822798047 := 0
noncomputable def all_holds.tw17816919684090185921 := 0
noncomputable def all_holds.tw16132189099945888668 := 0
noncomputable def all_holds.tw10139824610443814231 := 0
noncomputable def all_holds.tw18418435185696702010 := 0
noncomputable def all_holds.tw3744724002331314316 := 0
noncomputable def all_holds.tw6312768785455192613 := 0
noncomputable def all_holds.tw1115465726059996796 := 0
noncomputable def all_holds.tw15568863279731181989 := 0
noncomputable def all_holds.tw15956880480961941068 := 0
noncomputable def all_holds.tw11668743248843619989 := 0
noncomputable def all_holds.tw17626511758667394588 := 0
noncomputable def all_holds.tw2418721424834300350 := 0
noncomputable def all_holds.tw8552623338254136059 := 0
noncomputable def all_holds.tw7238116700631000710 := 0
noncomputable def all_holds.tw14790649182457825946 := 0
noncomputable def all_holds.tw9124401849095778694 := 0
noncomputable def all_holds.tw15093339510278165882 := 0
noncomputable def all_holds.tw8203850441156146941 := 0
noncomputable def all_holds.tw12267304743509998292 := 0
noncomputable def all_holds.tw9378237051414150413 := 0
noncomputable def all_holds.tw120794924364457475 := 0
noncomputable def all_holds.tw18417681827581201825 := 0
noncomputable def all_holds.tw2021765514855120139 := 0
noncomputable def all_holds.tw11093436359804819505 := 0
noncomputable def all_holds.tw12486298160577753705 := 0
noncomputable def all_holds.tw475763037965957990 := 0
noncomputable def all_holds.tw5640114586365256212 := 0
noncomputable def all_holds.tw12565552059220834079 := 0
noncomputable def all_holds.tw17695135931759702684 := 0
noncomputable def all_holds.tw522766978403187885 := 0
noncomputable def all_holds.tw5830528884614428189 := 0
noncomputable def all_holds.tw15862135367083374698 := 0
noncomputable def all_holds.tw1729511342824604390 := 0
noncomputable def all_holds.tw2051843472587715791 := 0
noncomputable def all_holds.tw10722559705329695938 := 0
noncomputable def all_holds.tw4772978867845924927 := 0
noncomputable def all_holds.tw11591390301340867542 := 0
noncomputable def all_holds.tw5075076426961950437 := 0
noncomputable def all_holds.tw16584286183084252997 := 0
noncomputable def all_holds.tw6678603743126375991 := 0
noncomputable def all_holds.tw139799551986167932 := 0
noncomputable def all_holds.tw5331827101469829485 := 0
noncomputable def all_holds.tw15604780600599634762 := 0
noncomputable def all_holds.tw3216382255990898353 := 0
noncomputable def all_holds.tw216885696735893406 := 0
noncomputable def all_holds.tw777889028450097911 := 0
noncomputable def all_holds.tw9369006903222621411 := 0
noncomputable def all_holds.tw2079041915113396995 := 0
noncomputable def all_holds.tw17890422218998196764 := 0
noncomputable def all_holds.tw15123349323905696118 := 0
noncomputable def all_holds.tw4649801262521321930 := 0
noncomputable def all_holds.tw8685881023836744135 := 0
noncomputable def all_holds.tw8440499588669023365 := 0
noncomputable def all_holds.tw596485336823666057 := 0
noncomputable def all_holds.tw13747970721792838408 := 0
noncomputable def all_holds.tw11311003812048533774 := 0
noncomputable def all_holds.tw15167195380832374587 := 0
noncomputable def all_holds.tw11612943909378428856 := 0
noncomputable def all_holds.tw2199415312743907109 := 0
noncomputable def all_holds.tw1187173586057970366 := 0
noncomputable def all_holds.tw15827965711526420372 := 0
noncomputable def all_holds.tw14822842782134866126 := 0
noncomputable def all_holds.tw16271732166572718568 := 0
noncomputable def all_holds.tw8527821212947605224 := 0
noncomputable def all_holds.tw16905565347460545129 := 0
noncomputable def all_holds.tw17380911597353330484 := 0
noncomputable def all_holds.tw12293141163748500676 := 0
noncomputable def all_holds.tw11911003428742420808 := 0
noncomputable def all_holds.tw11581543618621200017 := 0
noncomputable def all_holds.tw13396265075820027423 := 0
noncomputable def all_holds.tw12340089652844558366 := 0
noncomputable def all_holds.tw86850983525488018 := 0
noncomputable def all_holds.tw1685020103966695500 := 0
noncomputable def all_holds.tw5394583047573044956 := 0
noncomputable def all_holds.tw6009586004268696356 := 0
noncomputable def all_holds.tw15244294461418296055 := 0
noncomputable def all_holds.tw11524025644428126979 := 0
noncomputable def all_holds.tw4933494216993528403 := 0
noncomputable def all_holds.tw12073505402331230365 := 0
noncomputable def all_holds.tw1636570107457499252 := 0
noncomputable def all_holds.tw8884985702121372649 := 0
noncomputable def all_holds.tw2195299752985207135 := 0
noncomputable def all_holds.tw6822711290088691362 := 0
noncomputable def all_holds.tw1981483492626514116 := 0
noncomputable def all_holds.tw8071775564095560725 := 0
noncomputable def all_holds.tw5069492939648370849 := 0
noncomputable def all_holds.tw4890586490123400571 := 0
noncomputable def all_holds.tw2744443152901116483 := 0
noncomputable def all_holds.tw7503674085927307978 := 0
noncomputable def all_holds.tw17297762467735028173 := 0
noncomputable def all_holds.tw16649854285284016772 := 0
noncomputable def all_holds.tw11625129339072518807 := 0
noncomputable def all_holds.tw8297759732454935615 := 0
noncomputable def all_holds.tw4235526975683799246 := 0
set_option Elab.async true in
theorem all_holds : PySem.Challenge.rw_nn0307_01.Holds := by
  w_on
  o_law
  k_head
  (case hw => w_witness2)
  intro w s₀ s₁ mg mb G Y fa o pm cd doc dV kV ho hd' hcd hD hmg hg args vals as hpre hlay hrd hwl hlo
  obtain ⟨K, KX, KF⟩ : ∃ K : Frag, K.In s₁.heap ∧ KFacts K := ⟨_, kIn_of Y, by kernel_rfl, by kernel_rfl, by kernel_rfl, by kernel_rfl, by kernel_rfl, {
    made := by kernel_rfl
    ini := by kernel_rfl
    fn := by kernel_rfl
    sa := by kernel_rfl
    ga := by kernel_rfl
    over := by kernel_rfl
    hd := by kernel_rfl
    keep := by kernel_rfl
    tk := by
      intro x hx
      simp only [primNames, List.mem_cons, List.not_mem_nil, or_false] at hx
      rcases hx with rfl | rfl | rfl | rfl | rfl | rfl | rfl <;> kernel_rfl
    no := by
      intro x hx
      simp only [primNames, List.mem_cons, List.not_mem_nil, or_false] at hx
      rcases hx with rfl | rfl | rfl | rfl | rfl | rfl | rfl <;> exact ⟨none, by kernel_rfl, by kernel_rfl⟩
    ob := init_of (by kernel_rfl) }⟩
  have hfa : Value.ref fa = .ref 184 := Option.some.inj ((show mg "law" = some (.ref fa) from hmg).symm.trans (mg_of KX G.T.g KF.lawName))
  cases hfa
  clear ho hd' hcd hD Y hmg
  wrow_args hpre hlay hrd hwl hlo
  rename_i ns _ _ _ _ _ _ _ l us _ hl _ _ _ hI _ hlen _
  refine enter_call ?_
  have hn : ns.length ≤ 63 := by lia
  obtain ⟨figs, mix, σ₁, σ₂, h1, h2, h3⟩ := law_plain ns hn
  have hsys : ∃ o, s₁.heap.get? sysModules = some o := by
    obtain ⟨mm, ⟨o, _, _, ho, _⟩, _⟩ := (G.T.seer (by decide +kernel)).mods
    exact ⟨o, ho⟩
  refine codeAny_mono (law_run (fun B ap b e => g_ok KF KX G.T B ap hsys b e) (fun B ap f d e => g_fn KF KX G.T B ap f d e) (fun B ap => g_law KF KX B ap) hl (by simpa using hI) ?_ h1 h2 h3) fun r s' q => ?_
  · exact ⟨rfl, by decide, by decide⟩
  · obtain ⟨rfl, x⟩ := q
    obtain ⟨hh, tk, rfl⟩ := x.same
    refine ⟨.inl ⟨.bool true, .bool true, [], rfl, fun cls => rfl, .bool true, by wrow_post, fun _ => ⟨List.nodup_nil, fun _ q => nomatch q⟩⟩, .of_keep x.all, rfl, .of_eq hg⟩
end Mine
end
set_option maxRecDepth 100000 in
set_option maxHeartbeats 8000000 in
theorem PySem.Challenge.cw_nn0307_01_holds : PySem.Challenge.rw_nn0307_01.Holds :=
  Mine.all_holds
