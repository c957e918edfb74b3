import PyProof.Rows.All
import Wide.All
import OpenK.AllK
import Wide.FinOn
import PySem.Challenge.RW_sq0036_01
open PySem PySem.Calls PySem.W PyProof.Rows
set_option Elab.async false
set_option maxRecDepth 100000
set_option maxHeartbeats 8000000
set_option compiler.extract_closed false
set_option linter.unusedVariables false
namespace Mine
local macro_rules | `(tactic| k_lt $h:ident) => `(tactic| (replace $h := allLt_of $h; dsimp only [AllLt] at $h:ident))
open PySem PySem.W PyProof.Rows
set_option Elab.async false
set_option maxRecDepth 100000
set_option maxHeartbeats 8000000
section
local macro_rules | `(tactic| o_head $H) => `(tactic| exact False.elim (by assumption))
theorem hd : False → PySem.Challenge.rw_sq0036_01.Holds := by
  intro bad
  refine holds_law (False.elim bad) fun said => ?_
  k_head
end
set_option Elab.async false
set_option linter.unusedVariables false
theorem el_AA  {p0 : Prop} {p1 : Prop} {p2 : Prop} {C : Prop} (k : p0 → p1 → p2 → C) : (p0 ∧ p1 ∧ p2) → C := by
  rintro ⟨h0, h1, h2⟩
  exact k h0 h1 h2
theorem mk_AA  {p0 : Prop} {p1 : Prop} {p2 : Prop} (h0 : p0) (h1 : p1) (h2 : p2) : p0 ∧ p1 ∧ p2 := ⟨h0, h1, h2⟩
theorem el_AAA  {p0 : Prop} {p1 : Prop} {p2 : Prop} {p3 : Prop} {C : Prop} (k : p0 → p1 → p2 → p3 → C) : (p0 ∧ p1 ∧ p2 ∧ p3) → C := by
  rintro ⟨h0, h1, h2, h3⟩
  exact k h0 h1 h2 h3
theorem mk_AAA  {p0 : Prop} {p1 : Prop} {p2 : Prop} {p3 : Prop} (h0 : p0) (h1 : p1) (h2 : p2) (h3 : p3) : p0 ∧ p1 ∧ p2 ∧ p3 := ⟨h0, h1, h2, h3⟩
theorem el_AAAA  {p0 : Prop} {p1 : Prop} {p2 : Prop} {p3 : Prop} {p4 : Prop} {C : Prop} (k : p0 → p1 → p2 → p3 → p4 → C) : (p0 ∧ p1 ∧ p2 ∧ p3 ∧ p4) → C := by
  rintro ⟨h0, h1, h2, h3, h4⟩
  exact k h0 h1 h2 h3 h4
theorem el_AAEAA {t2 : Type} {p0 : Prop} {p1 : Prop} {p3 : t2 → Prop} {p4 : t2 → Prop} {p5 : t2 → Prop} {C : Prop} (k : p0 → p1 → ∀ x2 : t2, p3 x2 → p4 x2 → p5 x2 → C) : (p0 ∧ p1 ∧ ∃ x2 : t2, p3 x2 ∧ p4 x2 ∧ p5 x2) → C := by
  rintro ⟨h0, h1, x2, h3, h4, h5⟩
  exact k h0 h1 x2 h3 h4 h5
theorem mk_AAEAA {t2 : Type} {p0 : Prop} {p1 : Prop} {p3 : t2 → Prop} {p4 : t2 → Prop} {p5 : t2 → Prop} (h0 : p0) (h1 : p1) (x2 : t2) (h3 : p3 x2) (h4 : p4 x2) (h5 : p5 x2) : p0 ∧ p1 ∧ ∃ x2 : t2, p3 x2 ∧ p4 x2 ∧ p5 x2 := ⟨h0, h1, x2, h3, h4, h5⟩
theorem el_AAEEA {t2 : Type} {t3 : Type} {p0 : Prop} {p1 : Prop} {p4 : t2 → t3 → Prop} {p5 : t2 → t3 → Prop} {C : Prop} (k : p0 → p1 → ∀ x2 : t2, ∀ x3 : t3, p4 x2 x3 → p5 x2 x3 → C) : (p0 ∧ p1 ∧ ∃ x2 : t2, ∃ x3 : t3, p4 x2 x3 ∧ p5 x2 x3) → C := by
  rintro ⟨h0, h1, x2, x3, h4, h5⟩
  exact k h0 h1 x2 x3 h4 h5
theorem mk_AAEEA {t2 : Type} {t3 : Type} {p0 : Prop} {p1 : Prop} {p4 : t2 → t3 → Prop} {p5 : t2 → t3 → Prop} (h0 : p0) (h1 : p1) (x2 : t2) (x3 : t3) (h4 : p4 x2 x3) (h5 : p5 x2 x3) : p0 ∧ p1 ∧ ∃ x2 : t2, ∃ x3 : t3, p4 x2 x3 ∧ p5 x2 x3 := ⟨h0, h1, x2, x3, h4, h5⟩
theorem el_AAEEEAAA {t2 : Type} {t3 : Type} {t4 : Type} {p0 : Prop} {p1 : Prop} {p5 : t2 → t3 → t4 → Prop} {p6 : t2 → t3 → t4 → Prop} {p7 : t2 → t3 → t4 → Prop} {p8 : t2 → t3 → t4 → Prop} {C : Prop} (k : p0 → p1 → ∀ x2 : t2, ∀ x3 : t3, ∀ x4 : t4, p5 x2 x3 x4 → p6 x2 x3 x4 → p7 x2 x3 x4 → p8 x2 x3 x4 → C) : (p0 ∧ p1 ∧ ∃ x2 : t2, ∃ x3 : t3, ∃ x4 : t4, p5 x2 x3 x4 ∧ p6 x2 x3 x4 ∧ p7 x2 x3 x4 ∧ p8 x2 x3 x4) → C := by
  rintro ⟨h0, h1, x2, x3, x4, h5, h6, h7, h8⟩
  exact k h0 h1 x2 x3 x4 h5 h6 h7 h8
theorem mk_AAEEEAAA {t2 : Type} {t3 : Type} {t4 : Type} {p0 : Prop} {p1 : Prop} {p5 : t2 → t3 → t4 → Prop} {p6 : t2 → t3 → t4 → Prop} {p7 : t2 → t3 → t4 → Prop} {p8 : t2 → t3 → t4 → Prop} (h0 : p0) (h1 : p1) (x2 : t2) (x3 : t3) (x4 : t4) (h5 : p5 x2 x3 x4) (h6 : p6 x2 x3 x4) (h7 : p7 x2 x3 x4) (h8 : p8 x2 x3 x4) : p0 ∧ p1 ∧ ∃ x2 : t2, ∃ x3 : t3, ∃ x4 : t4, p5 x2 x3 x4 ∧ p6 x2 x3 x4 ∧ p7 x2 x3 x4 ∧ p8 x2 x3 x4 := ⟨h0, h1, x2, x3, x4, h5, h6, h7, h8⟩
theorem el_AAEEEEEAAAAA {t2 : Type} {t3 : Type} {t4 : Type} {t5 : Type} {t6 : Type} {p0 : Prop} {p1 : Prop} {p7 : t2 → t3 → t4 → t5 → t6 → Prop} {p8 : t2 → t3 → t4 → t5 → t6 → Prop} {p9 : t2 → t3 → t4 → t5 → t6 → Prop} {p10 : t2 → t3 → t4 → t5 → t6 → Prop} {p11 : t2 → t3 → t4 → t5 → t6 → Prop} {p12 : t2 → t3 → t4 → t5 → t6 → Prop} {C : Prop} (k : p0 → p1 → ∀ x2 : t2, ∀ x3 : t3, ∀ x4 : t4, ∀ x5 : t5, ∀ x6 : t6, p7 x2 x3 x4 x5 x6 → p8 x2 x3 x4 x5 x6 → p9 x2 x3 x4 x5 x6 → p10 x2 x3 x4 x5 x6 → p11 x2 x3 x4 x5 x6 → p12 x2 x3 x4 x5 x6 → C) : (p0 ∧ p1 ∧ ∃ x2 : t2, ∃ x3 : t3, ∃ x4 : t4, ∃ x5 : t5, ∃ x6 : t6, p7 x2 x3 x4 x5 x6 ∧ p8 x2 x3 x4 x5 x6 ∧ p9 x2 x3 x4 x5 x6 ∧ p10 x2 x3 x4 x5 x6 ∧ p11 x2 x3 x4 x5 x6 ∧ p12 x2 x3 x4 x5 x6) → C := by
  rintro ⟨h0, h1, x2, x3, x4, x5, x6, h7, h8, h9, h10, h11, h12⟩
  exact k h0 h1 x2 x3 x4 x5 x6 h7 h8 h9 h10 h11 h12
theorem mk_AAEEEEEAAAAA {t2 : Type} {t3 : Type} {t4 : Type} {t5 : Type} {t6 : Type} {p0 : Prop} {p1 : Prop} {p7 : t2 → t3 → t4 → t5 → t6 → Prop} {p8 : t2 → t3 → t4 → t5 → t6 → Prop} {p9 : t2 → t3 → t4 → t5 → t6 → Prop} {p10 : t2 → t3 → t4 → t5 → t6 → Prop} {p11 : t2 → t3 → t4 → t5 → t6 → Prop} {p12 : t2 → t3 → t4 → t5 → t6 → Prop} (h0 : p0) (h1 : p1) (x2 : t2) (x3 : t3) (x4 : t4) (x5 : t5) (x6 : t6) (h7 : p7 x2 x3 x4 x5 x6) (h8 : p8 x2 x3 x4 x5 x6) (h9 : p9 x2 x3 x4 x5 x6) (h10 : p10 x2 x3 x4 x5 x6) (h11 : p11 x2 x3 x4 x5 x6) (h12 : p12 x2 x3 x4 x5 x6) : p0 ∧ p1 ∧ ∃ x2 : t2, ∃ x3 : t3, ∃ x4 : t4, ∃ x5 : t5, ∃ x6 : t6, p7 x2 x3 x4 x5 x6 ∧ p8 x2 x3 x4 x5 x6 ∧ p9 x2 x3 x4 x5 x6 ∧ p10 x2 x3 x4 x5 x6 ∧ p11 x2 x3 x4 x5 x6 ∧ p12 x2 x3 x4 x5 x6 := ⟨h0, h1, x2, x3, x4, x5, x6, h7, h8, h9, h10, h11, h12⟩
theorem el_AE {t1 : Type} {p0 : Prop} {p2 : t1 → Prop} {C : Prop} (k : p0 → ∀ x1 : t1, p2 x1 → C) : (p0 ∧ ∃ x1 : t1, p2 x1) → C := by
  rintro ⟨h0, x1, h2⟩
  exact k h0 x1 h2
theorem el_AEAAAA {t1 : Type} {p0 : Prop} {p2 : t1 → Prop} {p3 : t1 → Prop} {p4 : t1 → Prop} {p5 : t1 → Prop} {p6 : t1 → Prop} {C : Prop} (k : p0 → ∀ x1 : t1, p2 x1 → p3 x1 → p4 x1 → p5 x1 → p6 x1 → C) : (p0 ∧ ∃ x1 : t1, p2 x1 ∧ p3 x1 ∧ p4 x1 ∧ p5 x1 ∧ p6 x1) → C := by
  rintro ⟨h0, x1, h2, h3, h4, h5, h6⟩
  exact k h0 x1 h2 h3 h4 h5 h6
theorem mk_AEAAAA {t1 : Type} {p0 : Prop} {p2 : t1 → Prop} {p3 : t1 → Prop} {p4 : t1 → Prop} {p5 : t1 → Prop} {p6 : t1 → Prop} (h0 : p0) (x1 : t1) (h2 : p2 x1) (h3 : p3 x1) (h4 : p4 x1) (h5 : p5 x1) (h6 : p6 x1) : p0 ∧ ∃ x1 : t1, p2 x1 ∧ p3 x1 ∧ p4 x1 ∧ p5 x1 ∧ p6 x1 := ⟨h0, x1, h2, h3, h4, h5, h6⟩
theorem mk_AEAEEEEEEAAAAAAAAAA {t1 : Type} {t3 : Type} {t4 : Type} {t5 : Type} {t6 : Type} {t7 : Type} {t8 : Type} {p0 : Prop} {p2 : t1 → Prop} {p9 : t1 → t3 → t4 → t5 → t6 → t7 → t8 → Prop} {p10 : t1 → t3 → t4 → t5 → t6 → t7 → t8 → Prop} {p11 : t1 → t3 → t4 → t5 → t6 → t7 → t8 → Prop} {p12 : t1 → t3 → t4 → t5 → t6 → t7 → t8 → Prop} {p13 : t1 → t3 → t4 → t5 → t6 → t7 → t8 → Prop} {p14 : t1 → t3 → t4 → t5 → t6 → t7 → t8 → Prop} {p15 : t1 → t3 → t4 → t5 → t6 → t7 → t8 → Prop} {p16 : t1 → t3 → t4 → t5 → t6 → t7 → t8 → Prop} {p17 : t1 → t3 → t4 → t5 → t6 → t7 → t8 → Prop} {p18 : t1 → t3 → t4 → t5 → t6 → t7 → t8 → Prop} {p19 : t1 → t3 → t4 → t5 → t6 → t7 → t8 → Prop} (h0 : p0) (x1 : t1) (h2 : p2 x1) (x3 : t3) (x4 : t4) (x5 : t5) (x6 : t6) (x7 : t7) (x8 : t8) (h9 : p9 x1 x3 x4 x5 x6 x7 x8) (h10 : p10 x1 x3 x4 x5 x6 x7 x8) (h11 : p11 x1 x3 x4 x5 x6 x7 x8) (h12 : p12 x1 x3 x4 x5 x6 x7 x8) (h13 : p13 x1 x3 x4 x5 x6 x7 x8) (h14 : p14 x1 x3 x4 x5 x6 x7 x8) (h15 : p15 x1 x3 x4 x5 x6 x7 x8) (h16 : p16 x1 x3 x4 x5 x6 x7 x8) (h17 : p17 x1 x3 x4 x5 x6 x7 x8) (h18 : p18 x1 x3 x4 x5 x6 x7 x8) (h19 : p19 x1 x3 x4 x5 x6 x7 x8) : p0 ∧ ∃ x1 : t1, p2 x1 ∧ ∃ x3 : t3, ∃ x4 : t4, ∃ x5 : t5, ∃ x6 : t6, ∃ x7 : t7, ∃ x8 : t8, p9 x1 x3 x4 x5 x6 x7 x8 ∧ p10 x1 x3 x4 x5 x6 x7 x8 ∧ p11 x1 x3 x4 x5 x6 x7 x8 ∧ p12 x1 x3 x4 x5 x6 x7 x8 ∧ p13 x1 x3 x4 x5 x6 x7 x8 ∧ p14 x1 x3 x4 x5 x6 x7 x8 ∧ p15 x1 x3 x4 x5 x6 x7 x8 ∧ p16 x1 x3 x4 x5 x6 x7 x8 ∧ p17 x1 x3 x4 x5 x6 x7 x8 ∧ p18 x1 x3 x4 x5 x6 x7 x8 ∧ p19 x1 x3 x4 x5 x6 x7 x8 := ⟨h0, x1, h2, x3, x4, x5, x6, x7, x8, h9, h10, h11, h12, h13, h14, h15, h16, h17, h18, h19⟩
theorem el_AEEAA {t1 : Type} {t2 : Type} {p0 : Prop} {p3 : t1 → t2 → Prop} {p4 : t1 → t2 → Prop} {p5 : t1 → t2 → Prop} {C : Prop} (k : p0 → ∀ x1 : t1, ∀ x2 : t2, p3 x1 x2 → p4 x1 x2 → p5 x1 x2 → C) : (p0 ∧ ∃ x1 : t1, ∃ x2 : t2, p3 x1 x2 ∧ p4 x1 x2 ∧ p5 x1 x2) → C := by
  rintro ⟨h0, x1, x2, h3, h4, h5⟩
  exact k h0 x1 x2 h3 h4 h5
theorem mk_AEEAA {t1 : Type} {t2 : Type} {p0 : Prop} {p3 : t1 → t2 → Prop} {p4 : t1 → t2 → Prop} {p5 : t1 → t2 → Prop} (h0 : p0) (x1 : t1) (x2 : t2) (h3 : p3 x1 x2) (h4 : p4 x1 x2) (h5 : p5 x1 x2) : p0 ∧ ∃ x1 : t1, ∃ x2 : t2, p3 x1 x2 ∧ p4 x1 x2 ∧ p5 x1 x2 := ⟨h0, x1, x2, h3, h4, h5⟩
theorem el_AEEAAA {t1 : Type} {t2 : Type} {p0 : Prop} {p3 : t1 → t2 → Prop} {p4 : t1 → t2 → Prop} {p5 : t1 → t2 → Prop} {p6 : t1 → t2 → Prop} {C : Prop} (k : p0 → ∀ x1 : t1, ∀ x2 : t2, p3 x1 x2 → p4 x1 x2 → p5 x1 x2 → p6 x1 x2 → C) : (p0 ∧ ∃ x1 : t1, ∃ x2 : t2, p3 x1 x2 ∧ p4 x1 x2 ∧ p5 x1 x2 ∧ p6 x1 x2) → C := by
  rintro ⟨h0, x1, x2, h3, h4, h5, h6⟩
  exact k h0 x1 x2 h3 h4 h5 h6
theorem mk_AEEAAA {t1 : Type} {t2 : Type} {p0 : Prop} {p3 : t1 → t2 → Prop} {p4 : t1 → t2 → Prop} {p5 : t1 → t2 → Prop} {p6 : t1 → t2 → Prop} (h0 : p0) (x1 : t1) (x2 : t2) (h3 : p3 x1 x2) (h4 : p4 x1 x2) (h5 : p5 x1 x2) (h6 : p6 x1 x2) : p0 ∧ ∃ x1 : t1, ∃ x2 : t2, p3 x1 x2 ∧ p4 x1 x2 ∧ p5 x1 x2 ∧ p6 x1 x2 := ⟨h0, x1, x2, h3, h4, h5, h6⟩
theorem el_AEEEAAA {t1 : Type} {t2 : Type} {t3 : Type} {p0 : Prop} {p4 : t1 → t2 → t3 → Prop} {p5 : t1 → t2 → t3 → Prop} {p6 : t1 → t2 → t3 → Prop} {p7 : t1 → t2 → t3 → Prop} {C : Prop} (k : p0 → ∀ x1 : t1, ∀ x2 : t2, ∀ x3 : t3, p4 x1 x2 x3 → p5 x1 x2 x3 → p6 x1 x2 x3 → p7 x1 x2 x3 → C) : (p0 ∧ ∃ x1 : t1, ∃ x2 : t2, ∃ x3 : t3, p4 x1 x2 x3 ∧ p5 x1 x2 x3 ∧ p6 x1 x2 x3 ∧ p7 x1 x2 x3) → C := by
  rintro ⟨h0, x1, x2, x3, h4, h5, h6, h7⟩
  exact k h0 x1 x2 x3 h4 h5 h6 h7
theorem mk_AEEEAAA {t1 : Type} {t2 : Type} {t3 : Type} {p0 : Prop} {p4 : t1 → t2 → t3 → Prop} {p5 : t1 → t2 → t3 → Prop} {p6 : t1 → t2 → t3 → Prop} {p7 : t1 → t2 → t3 → Prop} (h0 : p0) (x1 : t1) (x2 : t2) (x3 : t3) (h4 : p4 x1 x2 x3) (h5 : p5 x1 x2 x3) (h6 : p6 x1 x2 x3) (h7 : p7 x1 x2 x3) : p0 ∧ ∃ x1 : t1, ∃ x2 : t2, ∃ x3 : t3, p4 x1 x2 x3 ∧ p5 x1 x2 x3 ∧ p6 x1 x2 x3 ∧ p7 x1 x2 x3 := ⟨h0, x1, x2, x3, h4, h5, h6, h7⟩
theorem el_AEEEEEAAAA {t1 : Type} {t2 : Type} {t3 : Type} {t4 : Type} {t5 : Type} {p0 : Prop} {p6 : t1 → t2 → t3 → t4 → t5 → Prop} {p7 : t1 → t2 → t3 → t4 → t5 → Prop} {p8 : t1 → t2 → t3 → t4 → t5 → Prop} {p9 : t1 → t2 → t3 → t4 → t5 → Prop} {p10 : t1 → t2 → t3 → t4 → t5 → Prop} {C : Prop} (k : p0 → ∀ x1 : t1, ∀ x2 : t2, ∀ x3 : t3, ∀ x4 : t4, ∀ x5 : t5, p6 x1 x2 x3 x4 x5 → p7 x1 x2 x3 x4 x5 → p8 x1 x2 x3 x4 x5 → p9 x1 x2 x3 x4 x5 → p10 x1 x2 x3 x4 x5 → C) : (p0 ∧ ∃ x1 : t1, ∃ x2 : t2, ∃ x3 : t3, ∃ x4 : t4, ∃ x5 : t5, p6 x1 x2 x3 x4 x5 ∧ p7 x1 x2 x3 x4 x5 ∧ p8 x1 x2 x3 x4 x5 ∧ p9 x1 x2 x3 x4 x5 ∧ p10 x1 x2 x3 x4 x5) → C := by
  rintro ⟨h0, x1, x2, x3, x4, x5, h6, h7, h8, h9, h10⟩
  exact k h0 x1 x2 x3 x4 x5 h6 h7 h8 h9 h10
theorem mk_AEEEEEAAAA {t1 : Type} {t2 : Type} {t3 : Type} {t4 : Type} {t5 : Type} {p0 : Prop} {p6 : t1 → t2 → t3 → t4 → t5 → Prop} {p7 : t1 → t2 → t3 → t4 → t5 → Prop} {p8 : t1 → t2 → t3 → t4 → t5 → Prop} {p9 : t1 → t2 → t3 → t4 → t5 → Prop} {p10 : t1 → t2 → t3 → t4 → t5 → Prop} (h0 : p0) (x1 : t1) (x2 : t2) (x3 : t3) (x4 : t4) (x5 : t5) (h6 : p6 x1 x2 x3 x4 x5) (h7 : p7 x1 x2 x3 x4 x5) (h8 : p8 x1 x2 x3 x4 x5) (h9 : p9 x1 x2 x3 x4 x5) (h10 : p10 x1 x2 x3 x4 x5) : p0 ∧ ∃ x1 : t1, ∃ x2 : t2, ∃ x3 : t3, ∃ x4 : t4, ∃ x5 : t5, p6 x1 x2 x3 x4 x5 ∧ p7 x1 x2 x3 x4 x5 ∧ p8 x1 x2 x3 x4 x5 ∧ p9 x1 x2 x3 x4 x5 ∧ p10 x1 x2 x3 x4 x5 := ⟨h0, x1, x2, x3, x4, x5, h6, h7, h8, h9, h10⟩
theorem el_EA {t0 : Type} {p1 : t0 → Prop} {p2 : t0 → Prop} {C : Prop} (k : ∀ x0 : t0, p1 x0 → p2 x0 → C) : (∃ x0 : t0, p1 x0 ∧ p2 x0) → C := by
  rintro ⟨x0, h1, h2⟩
  exact k x0 h1 h2
theorem mk_EA {t0 : Type} {p1 : t0 → Prop} {p2 : t0 → Prop} (x0 : t0) (h1 : p1 x0) (h2 : p2 x0) : ∃ x0 : t0, p1 x0 ∧ p2 x0 := ⟨x0, h1, h2⟩
theorem el_EAA {t0 : Type} {p1 : t0 → Prop} {p2 : t0 → Prop} {p3 : t0 → Prop} {C : Prop} (k : ∀ x0 : t0, p1 x0 → p2 x0 → p3 x0 → C) : (∃ x0 : t0, p1 x0 ∧ p2 x0 ∧ p3 x0) → C := by
  rintro ⟨x0, h1, h2, h3⟩
  exact k x0 h1 h2 h3
theorem mk_EAA {t0 : Type} {p1 : t0 → Prop} {p2 : t0 → Prop} {p3 : t0 → Prop} (x0 : t0) (h1 : p1 x0) (h2 : p2 x0) (h3 : p3 x0) : ∃ x0 : t0, p1 x0 ∧ p2 x0 ∧ p3 x0 := ⟨x0, h1, h2, h3⟩
theorem el_EAAA {t0 : Type} {p1 : t0 → Prop} {p2 : t0 → Prop} {p3 : t0 → Prop} {p4 : t0 → Prop} {C : Prop} (k : ∀ x0 : t0, p1 x0 → p2 x0 → p3 x0 → p4 x0 → C) : (∃ x0 : t0, p1 x0 ∧ p2 x0 ∧ p3 x0 ∧ p4 x0) → C := by
  rintro ⟨x0, h1, h2, h3, h4⟩
  exact k x0 h1 h2 h3 h4
theorem mk_EAAA {t0 : Type} {p1 : t0 → Prop} {p2 : t0 → Prop} {p3 : t0 → Prop} {p4 : t0 → Prop} (x0 : t0) (h1 : p1 x0) (h2 : p2 x0) (h3 : p3 x0) (h4 : p4 x0) : ∃ x0 : t0, p1 x0 ∧ p2 x0 ∧ p3 x0 ∧ p4 x0 := ⟨x0, h1, h2, h3, h4⟩
theorem el_EAAAA {t0 : Type} {p1 : t0 → Prop} {p2 : t0 → Prop} {p3 : t0 → Prop} {p4 : t0 → Prop} {p5 : t0 → Prop} {C : Prop} (k : ∀ x0 : t0, p1 x0 → p2 x0 → p3 x0 → p4 x0 → p5 x0 → C) : (∃ x0 : t0, p1 x0 ∧ p2 x0 ∧ p3 x0 ∧ p4 x0 ∧ p5 x0) → C := by
  rintro ⟨x0, h1, h2, h3, h4, h5⟩
  exact k x0 h1 h2 h3 h4 h5
theorem mk_EAAAA {t0 : Type} {p1 : t0 → Prop} {p2 : t0 → Prop} {p3 : t0 → Prop} {p4 : t0 → Prop} {p5 : t0 → Prop} (x0 : t0) (h1 : p1 x0) (h2 : p2 x0) (h3 : p3 x0) (h4 : p4 x0) (h5 : p5 x0) : ∃ x0 : t0, p1 x0 ∧ p2 x0 ∧ p3 x0 ∧ p4 x0 ∧ p5 x0 := ⟨x0, h1, h2, h3, h4, h5⟩
theorem el_EAAAAAAA {t0 : Type} {p1 : t0 → Prop} {p2 : t0 → Prop} {p3 : t0 → Prop} {p4 : t0 → Prop} {p5 : t0 → Prop} {p6 : t0 → Prop} {p7 : t0 → Prop} {p8 : t0 → Prop} {C : Prop} (k : ∀ x0 : t0, p1 x0 → p2 x0 → p3 x0 → p4 x0 → p5 x0 → p6 x0 → p7 x0 → p8 x0 → C) : (∃ x0 : t0, p1 x0 ∧ p2 x0 ∧ p3 x0 ∧ p4 x0 ∧ p5 x0 ∧ p6 x0 ∧ p7 x0 ∧ p8 x0) → C := by
  rintro ⟨x0, h1, h2, h3, h4, h5, h6, h7, h8⟩
  exact k x0 h1 h2 h3 h4 h5 h6 h7 h8
theorem mk_EAAAAAAA {t0 : Type} {p1 : t0 → Prop} {p2 : t0 → Prop} {p3 : t0 → Prop} {p4 : t0 → Prop} {p5 : t0 → Prop} {p6 : t0 → Prop} {p7 : t0 → Prop} {p8 : t0 → Prop} (x0 : t0) (h1 : p1 x0) (h2 : p2 x0) (h3 : p3 x0) (h4 : p4 x0) (h5 : p5 x0) (h6 : p6 x0) (h7 : p7 x0) (h8 : p8 x0) : ∃ x0 : t0, p1 x0 ∧ p2 x0 ∧ p3 x0 ∧ p4 x0 ∧ p5 x0 ∧ p6 x0 ∧ p7 x0 ∧ p8 x0 := ⟨x0, h1, h2, h3, h4, h5, h6, h7, h8⟩
theorem mk_EAAE {t0 : Type} {t3 : Type} {p1 : t0 → Prop} {p2 : t0 → Prop} {p4 : t0 → t3 → Prop} (x0 : t0) (h1 : p1 x0) (h2 : p2 x0) (x3 : t3) (h4 : p4 x0 x3) : ∃ x0 : t0, p1 x0 ∧ p2 x0 ∧ ∃ x3 : t3, p4 x0 x3 := ⟨x0, h1, h2, x3, h4⟩
theorem el_EAE {t0 : Type} {t2 : Type} {p1 : t0 → Prop} {p3 : t0 → t2 → Prop} {C : Prop} (k : ∀ x0 : t0, p1 x0 → ∀ x2 : t2, p3 x0 x2 → C) : (∃ x0 : t0, p1 x0 ∧ ∃ x2 : t2, p3 x0 x2) → C := by
  rintro ⟨x0, h1, x2, h3⟩
  exact k x0 h1 x2 h3
theorem mk_EAE {t0 : Type} {t2 : Type} {p1 : t0 → Prop} {p3 : t0 → t2 → Prop} (x0 : t0) (h1 : p1 x0) (x2 : t2) (h3 : p3 x0 x2) : ∃ x0 : t0, p1 x0 ∧ ∃ x2 : t2, p3 x0 x2 := ⟨x0, h1, x2, h3⟩
theorem mk_EAEEEEEEEAAAAAAAAA {t0 : Type} {t2 : Type} {t3 : Type} {t4 : Type} {t5 : Type} {t6 : Type} {t7 : Type} {t8 : Type} {p1 : t0 → Prop} {p9 : t0 → t2 → t3 → t4 → t5 → t6 → t7 → t8 → Prop} {p10 : t0 → t2 → t3 → t4 → t5 → t6 → t7 → t8 → Prop} {p11 : t0 → t2 → t3 → t4 → t5 → t6 → t7 → t8 → Prop} {p12 : t0 → t2 → t3 → t4 → t5 → t6 → t7 → t8 → Prop} {p13 : t0 → t2 → t3 → t4 → t5 → t6 → t7 → t8 → Prop} {p14 : t0 → t2 → t3 → t4 → t5 → t6 → t7 → t8 → Prop} {p15 : t0 → t2 → t3 → t4 → t5 → t6 → t7 → t8 → Prop} {p16 : t0 → t2 → t3 → t4 → t5 → t6 → t7 → t8 → Prop} {p17 : t0 → t2 → t3 → t4 → t5 → t6 → t7 → t8 → Prop} {p18 : t0 → t2 → t3 → t4 → t5 → t6 → t7 → t8 → Prop} (x0 : t0) (h1 : p1 x0) (x2 : t2) (x3 : t3) (x4 : t4) (x5 : t5) (x6 : t6) (x7 : t7) (x8 : t8) (h9 : p9 x0 x2 x3 x4 x5 x6 x7 x8) (h10 : p10 x0 x2 x3 x4 x5 x6 x7 x8) (h11 : p11 x0 x2 x3 x4 x5 x6 x7 x8) (h12 : p12 x0 x2 x3 x4 x5 x6 x7 x8) (h13 : p13 x0 x2 x3 x4 x5 x6 x7 x8) (h14 : p14 x0 x2 x3 x4 x5 x6 x7 x8) (h15 : p15 x0 x2 x3 x4 x5 x6 x7 x8) (h16 : p16 x0 x2 x3 x4 x5 x6 x7 x8) (h17 : p17 x0 x2 x3 x4 x5 x6 x7 x8) (h18 : p18 x0 x2 x3 x4 x5 x6 x7 x8) : ∃ x0 : t0, p1 x0 ∧ ∃ x2 : t2, ∃ x3 : t3, ∃ x4 : t4, ∃ x5 : t5, ∃ x6 : t6, ∃ x7 : t7, ∃ x8 : t8, p9 x0 x2 x3 x4 x5 x6 x7 x8 ∧ p10 x0 x2 x3 x4 x5 x6 x7 x8 ∧ p11 x0 x2 x3 x4 x5 x6 x7 x8 ∧ p12 x0 x2 x3 x4 x5 x6 x7 x8 ∧ p13 x0 x2 x3 x4 x5 x6 x7 x8 ∧ p14 x0 x2 x3 x4 x5 x6 x7 x8 ∧ p15 x0 x2 x3 x4 x5 x6 x7 x8 ∧ p16 x0 x2 x3 x4 x5 x6 x7 x8 ∧ p17 x0 x2 x3 x4 x5 x6 x7 x8 ∧ p18 x0 x2 x3 x4 x5 x6 x7 x8 := ⟨x0, h1, x2, x3, x4, x5, x6, x7, x8, h9, h10, h11, h12, h13, h14, h15, h16, h17, h18⟩
theorem el_EE {t0 : Type} {t1 : Type} {p2 : t0 → t1 → Prop} {C : Prop} (k : ∀ x0 : t0, ∀ x1 : t1, p2 x0 x1 → C) : (∃ x0 : t0, ∃ x1 : t1, p2 x0 x1) → C := by
  rintro ⟨x0, x1, h2⟩
  exact k x0 x1 h2
theorem mk_EE {t0 : Type} {t1 : Type} {p2 : t0 → t1 → Prop} (x0 : t0) (x1 : t1) (h2 : p2 x0 x1) : ∃ x0 : t0, ∃ x1 : t1, p2 x0 x1 := ⟨x0, x1, h2⟩
theorem el_EEA {t0 : Type} {t1 : Type} {p2 : t0 → t1 → Prop} {p3 : t0 → t1 → Prop} {C : Prop} (k : ∀ x0 : t0, ∀ x1 : t1, p2 x0 x1 → p3 x0 x1 → C) : (∃ x0 : t0, ∃ x1 : t1, p2 x0 x1 ∧ p3 x0 x1) → C := by
  rintro ⟨x0, x1, h2, h3⟩
  exact k x0 x1 h2 h3
theorem el_EEAA {t0 : Type} {t1 : Type} {p2 : t0 → t1 → Prop} {p3 : t0 → t1 → Prop} {p4 : t0 → t1 → Prop} {C : Prop} (k : ∀ x0 : t0, ∀ x1 : t1, p2 x0 x1 → p3 x0 x1 → p4 x0 x1 → C) : (∃ x0 : t0, ∃ x1 : t1, p2 x0 x1 ∧ p3 x0 x1 ∧ p4 x0 x1) → C := by
  rintro ⟨x0, x1, h2, h3, h4⟩
  exact k x0 x1 h2 h3 h4
theorem mk_EEAA {t0 : Type} {t1 : Type} {p2 : t0 → t1 → Prop} {p3 : t0 → t1 → Prop} {p4 : t0 → t1 → Prop} (x0 : t0) (x1 : t1) (h2 : p2 x0 x1) (h3 : p3 x0 x1) (h4 : p4 x0 x1) : ∃ x0 : t0, ∃ x1 : t1, p2 x0 x1 ∧ p3 x0 x1 ∧ p4 x0 x1 := ⟨x0, x1, h2, h3, h4⟩
theorem el_EEAAA {t0 : Type} {t1 : Type} {p2 : t0 → t1 → Prop} {p3 : t0 → t1 → Prop} {p4 : t0 → t1 → Prop} {p5 : t0 → t1 → Prop} {C : Prop} (k : ∀ x0 : t0, ∀ x1 : t1, p2 x0 x1 → p3 x0 x1 → p4 x0 x1 → p5 x0 x1 → C) : (∃ x0 : t0, ∃ x1 : t1, p2 x0 x1 ∧ p3 x0 x1 ∧ p4 x0 x1 ∧ p5 x0 x1) → C := by
  rintro ⟨x0, x1, h2, h3, h4, h5⟩
  exact k x0 x1 h2 h3 h4 h5
theorem mk_EEAAA {t0 : Type} {t1 : Type} {p2 : t0 → t1 → Prop} {p3 : t0 → t1 → Prop} {p4 : t0 → t1 → Prop} {p5 : t0 → t1 → Prop} (x0 : t0) (x1 : t1) (h2 : p2 x0 x1) (h3 : p3 x0 x1) (h4 : p4 x0 x1) (h5 : p5 x0 x1) : ∃ x0 : t0, ∃ x1 : t1, p2 x0 x1 ∧ p3 x0 x1 ∧ p4 x0 x1 ∧ p5 x0 x1 := ⟨x0, x1, h2, h3, h4, h5⟩
theorem el_EEAAAA {t0 : Type} {t1 : Type} {p2 : t0 → t1 → Prop} {p3 : t0 → t1 → Prop} {p4 : t0 → t1 → Prop} {p5 : t0 → t1 → Prop} {p6 : t0 → t1 → Prop} {C : Prop} (k : ∀ x0 : t0, ∀ x1 : t1, p2 x0 x1 → p3 x0 x1 → p4 x0 x1 → p5 x0 x1 → p6 x0 x1 → C) : (∃ x0 : t0, ∃ x1 : t1, p2 x0 x1 ∧ p3 x0 x1 ∧ p4 x0 x1 ∧ p5 x0 x1 ∧ p6 x0 x1) → C := by
  rintro ⟨x0, x1, h2, h3, h4, h5, h6⟩
  exact k x0 x1 h2 h3 h4 h5 h6
theorem mk_EEAAAA {t0 : Type} {t1 : Type} {p2 : t0 → t1 → Prop} {p3 : t0 → t1 → Prop} {p4 : t0 → t1 → Prop} {p5 : t0 → t1 → Prop} {p6 : t0 → t1 → Prop} (x0 : t0) (x1 : t1) (h2 : p2 x0 x1) (h3 : p3 x0 x1) (h4 : p4 x0 x1) (h5 : p5 x0 x1) (h6 : p6 x0 x1) : ∃ x0 : t0, ∃ x1 : t1, p2 x0 x1 ∧ p3 x0 x1 ∧ p4 x0 x1 ∧ p5 x0 x1 ∧ p6 x0 x1 := ⟨x0, x1, h2, h3, h4, h5, h6⟩
theorem el_EEE {t0 : Type} {t1 : Type} {t2 : Type} {p3 : t0 → t1 → t2 → Prop} {C : Prop} (k : ∀ x0 : t0, ∀ x1 : t1, ∀ x2 : t2, p3 x0 x1 x2 → C) : (∃ x0 : t0, ∃ x1 : t1, ∃ x2 : t2, p3 x0 x1 x2) → C := by
  rintro ⟨x0, x1, x2, h3⟩
  exact k x0 x1 x2 h3
theorem mk_EEE {t0 : Type} {t1 : Type} {t2 : Type} {p3 : t0 → t1 → t2 → Prop} (x0 : t0) (x1 : t1) (x2 : t2) (h3 : p3 x0 x1 x2) : ∃ x0 : t0, ∃ x1 : t1, ∃ x2 : t2, p3 x0 x1 x2 := ⟨x0, x1, x2, h3⟩
theorem el_EEEAA {t0 : Type} {t1 : Type} {t2 : Type} {p3 : t0 → t1 → t2 → Prop} {p4 : t0 → t1 → t2 → Prop} {p5 : t0 → t1 → t2 → Prop} {C : Prop} (k : ∀ x0 : t0, ∀ x1 : t1, ∀ x2 : t2, p3 x0 x1 x2 → p4 x0 x1 x2 → p5 x0 x1 x2 → C) : (∃ x0 : t0, ∃ x1 : t1, ∃ x2 : t2, p3 x0 x1 x2 ∧ p4 x0 x1 x2 ∧ p5 x0 x1 x2) → C := by
  rintro ⟨x0, x1, x2, h3, h4, h5⟩
  exact k x0 x1 x2 h3 h4 h5
theorem mk_EEEAA {t0 : Type} {t1 : Type} {t2 : Type} {p3 : t0 → t1 → t2 → Prop} {p4 : t0 → t1 → t2 → Prop} {p5 : t0 → t1 → t2 → Prop} (x0 : t0) (x1 : t1) (x2 : t2) (h3 : p3 x0 x1 x2) (h4 : p4 x0 x1 x2) (h5 : p5 x0 x1 x2) : ∃ x0 : t0, ∃ x1 : t1, ∃ x2 : t2, p3 x0 x1 x2 ∧ p4 x0 x1 x2 ∧ p5 x0 x1 x2 := ⟨x0, x1, x2, h3, h4, h5⟩
theorem el_EEEAAA {t0 : Type} {t1 : Type} {t2 : Type} {p3 : t0 → t1 → t2 → Prop} {p4 : t0 → t1 → t2 → Prop} {p5 : t0 → t1 → t2 → Prop} {p6 : t0 → t1 → t2 → Prop} {C : Prop} (k : ∀ x0 : t0, ∀ x1 : t1, ∀ x2 : t2, p3 x0 x1 x2 → p4 x0 x1 x2 → p5 x0 x1 x2 → p6 x0 x1 x2 → C) : (∃ x0 : t0, ∃ x1 : t1, ∃ x2 : t2, p3 x0 x1 x2 ∧ p4 x0 x1 x2 ∧ p5 x0 x1 x2 ∧ p6 x0 x1 x2) → C := by
  rintro ⟨x0, x1, x2, h3, h4, h5, h6⟩
  exact k x0 x1 x2 h3 h4 h5 h6
theorem mk_EEEAAA {t0 : Type} {t1 : Type} {t2 : Type} {p3 : t0 → t1 → t2 → Prop} {p4 : t0 → t1 → t2 → Prop} {p5 : t0 → t1 → t2 → Prop} {p6 : t0 → t1 → t2 → Prop} (x0 : t0) (x1 : t1) (x2 : t2) (h3 : p3 x0 x1 x2) (h4 : p4 x0 x1 x2) (h5 : p5 x0 x1 x2) (h6 : p6 x0 x1 x2) : ∃ x0 : t0, ∃ x1 : t1, ∃ x2 : t2, p3 x0 x1 x2 ∧ p4 x0 x1 x2 ∧ p5 x0 x1 x2 ∧ p6 x0 x1 x2 := ⟨x0, x1, x2, h3, h4, h5, h6⟩
theorem el_EEEEA {t0 : Type} {t1 : Type} {t2 : Type} {t3 : Type} {p4 : t0 → t1 → t2 → t3 → Prop} {p5 : t0 → t1 → t2 → t3 → Prop} {C : Prop} (k : ∀ x0 : t0, ∀ x1 : t1, ∀ x2 : t2, ∀ x3 : t3, p4 x0 x1 x2 x3 → p5 x0 x1 x2 x3 → C) : (∃ x0 : t0, ∃ x1 : t1, ∃ x2 : t2, ∃ x3 : t3, p4 x0 x1 x2 x3 ∧ p5 x0 x1 x2 x3) → C := by
  rintro ⟨x0, x1, x2, x3, h4, h5⟩
  exact k x0 x1 x2 x3 h4 h5
theorem mk_EEEEA {t0 : Type} {t1 : Type} {t2 : Type} {t3 : Type} {p4 : t0 → t1 → t2 → t3 → Prop} {p5 : t0 → t1 → t2 → t3 → Prop} (x0 : t0) (x1 : t1) (x2 : t2) (x3 : t3) (h4 : p4 x0 x1 x2 x3) (h5 : p5 x0 x1 x2 x3) : ∃ x0 : t0, ∃ x1 : t1, ∃ x2 : t2, ∃ x3 : t3, p4 x0 x1 x2 x3 ∧ p5 x0 x1 x2 x3 := ⟨x0, x1, x2, x3, h4, h5⟩
theorem el_EEEEAA {t0 : Type} {t1 : Type} {t2 : Type} {t3 : Type} {p4 : t0 → t1 → t2 → t3 → Prop} {p5 : t0 → t1 → t2 → t3 → Prop} {p6 : t0 → t1 → t2 → t3 → Prop} {C : Prop} (k : ∀ x0 : t0, ∀ x1 : t1, ∀ x2 : t2, ∀ x3 : t3, p4 x0 x1 x2 x3 → p5 x0 x1 x2 x3 → p6 x0 x1 x2 x3 → C) : (∃ x0 : t0, ∃ x1 : t1, ∃ x2 : t2, ∃ x3 : t3, p4 x0 x1 x2 x3 ∧ p5 x0 x1 x2 x3 ∧ p6 x0 x1 x2 x3) → C := by
  rintro ⟨x0, x1, x2, x3, h4, h5, h6⟩
  exact k x0 x1 x2 x3 h4 h5 h6
theorem mk_EEEEAA {t0 : Type} {t1 : Type} {t2 : Type} {t3 : Type} {p4 : t0 → t1 → t2 → t3 → Prop} {p5 : t0 → t1 → t2 → t3 → Prop} {p6 : t0 → t1 → t2 → t3 → Prop} (x0 : t0) (x1 : t1) (x2 : t2) (x3 : t3) (h4 : p4 x0 x1 x2 x3) (h5 : p5 x0 x1 x2 x3) (h6 : p6 x0 x1 x2 x3) : ∃ x0 : t0, ∃ x1 : t1, ∃ x2 : t2, ∃ x3 : t3, p4 x0 x1 x2 x3 ∧ p5 x0 x1 x2 x3 ∧ p6 x0 x1 x2 x3 := ⟨x0, x1, x2, x3, h4, h5, h6⟩
theorem el_EEEEAAA {t0 : Type} {t1 : Type} {t2 : Type} {t3 : Type} {p4 : t0 → t1 → t2 → t3 → Prop} {p5 : t0 → t1 → t2 → t3 → Prop} {p6 : t0 → t1 → t2 → t3 → Prop} {p7 : t0 → t1 → t2 → t3 → Prop} {C : Prop} (k : ∀ x0 : t0, ∀ x1 : t1, ∀ x2 : t2, ∀ x3 : t3, p4 x0 x1 x2 x3 → p5 x0 x1 x2 x3 → p6 x0 x1 x2 x3 → p7 x0 x1 x2 x3 → C) : (∃ x0 : t0, ∃ x1 : t1, ∃ x2 : t2, ∃ x3 : t3, p4 x0 x1 x2 x3 ∧ p5 x0 x1 x2 x3 ∧ p6 x0 x1 x2 x3 ∧ p7 x0 x1 x2 x3) → C := by
  rintro ⟨x0, x1, x2, x3, h4, h5, h6, h7⟩
  exact k x0 x1 x2 x3 h4 h5 h6 h7
theorem mk_EEEEAAA {t0 : Type} {t1 : Type} {t2 : Type} {t3 : Type} {p4 : t0 → t1 → t2 → t3 → Prop} {p5 : t0 → t1 → t2 → t3 → Prop} {p6 : t0 → t1 → t2 → t3 → Prop} {p7 : t0 → t1 → t2 → t3 → Prop} (x0 : t0) (x1 : t1) (x2 : t2) (x3 : t3) (h4 : p4 x0 x1 x2 x3) (h5 : p5 x0 x1 x2 x3) (h6 : p6 x0 x1 x2 x3) (h7 : p7 x0 x1 x2 x3) : ∃ x0 : t0, ∃ x1 : t1, ∃ x2 : t2, ∃ x3 : t3, p4 x0 x1 x2 x3 ∧ p5 x0 x1 x2 x3 ∧ p6 x0 x1 x2 x3 ∧ p7 x0 x1 x2 x3 := ⟨x0, x1, x2, x3, h4, h5, h6, h7⟩
theorem el_EEEEAAAA {t0 : Type} {t1 : Type} {t2 : Type} {t3 : Type} {p4 : t0 → t1 → t2 → t3 → Prop} {p5 : t0 → t1 → t2 → t3 → Prop} {p6 : t0 → t1 → t2 → t3 → Prop} {p7 : t0 → t1 → t2 → t3 → Prop} {p8 : t0 → t1 → t2 → t3 → Prop} {C : Prop} (k : ∀ x0 : t0, ∀ x1 : t1, ∀ x2 : t2, ∀ x3 : t3, p4 x0 x1 x2 x3 → p5 x0 x1 x2 x3 → p6 x0 x1 x2 x3 → p7 x0 x1 x2 x3 → p8 x0 x1 x2 x3 → C) : (∃ x0 : t0, ∃ x1 : t1, ∃ x2 : t2, ∃ x3 : t3, p4 x0 x1 x2 x3 ∧ p5 x0 x1 x2 x3 ∧ p6 x0 x1 x2 x3 ∧ p7 x0 x1 x2 x3 ∧ p8 x0 x1 x2 x3) → C := by
  rintro ⟨x0, x1, x2, x3, h4, h5, h6, h7, h8⟩
  exact k x0 x1 x2 x3 h4 h5 h6 h7 h8
theorem mk_EEEEAAAAA {t0 : Type} {t1 : Type} {t2 : Type} {t3 : Type} {p4 : t0 → t1 → t2 → t3 → Prop} {p5 : t0 → t1 → t2 → t3 → Prop} {p6 : t0 → t1 → t2 → t3 → Prop} {p7 : t0 → t1 → t2 → t3 → Prop} {p8 : t0 → t1 → t2 → t3 → Prop} {p9 : t0 → t1 → t2 → t3 → Prop} (x0 : t0) (x1 : t1) (x2 : t2) (x3 : t3) (h4 : p4 x0 x1 x2 x3) (h5 : p5 x0 x1 x2 x3) (h6 : p6 x0 x1 x2 x3) (h7 : p7 x0 x1 x2 x3) (h8 : p8 x0 x1 x2 x3) (h9 : p9 x0 x1 x2 x3) : ∃ x0 : t0, ∃ x1 : t1, ∃ x2 : t2, ∃ x3 : t3, p4 x0 x1 x2 x3 ∧ p5 x0 x1 x2 x3 ∧ p6 x0 x1 x2 x3 ∧ p7 x0 x1 x2 x3 ∧ p8 x0 x1 x2 x3 ∧ p9 x0 x1 x2 x3 := ⟨x0, x1, x2, x3, h4, h5, h6, h7, h8, h9⟩
theorem el_EEEEAAAAAAA {t0 : Type} {t1 : Type} {t2 : Type} {t3 : Type} {p4 : t0 → t1 → t2 → t3 → Prop} {p5 : t0 → t1 → t2 → t3 → Prop} {p6 : t0 → t1 → t2 → t3 → Prop} {p7 : t0 → t1 → t2 → t3 → Prop} {p8 : t0 → t1 → t2 → t3 → Prop} {p9 : t0 → t1 → t2 → t3 → Prop} {p10 : t0 → t1 → t2 → t3 → Prop} {p11 : t0 → t1 → t2 → t3 → Prop} {C : Prop} (k : ∀ x0 : t0, ∀ x1 : t1, ∀ x2 : t2, ∀ x3 : t3, p4 x0 x1 x2 x3 → p5 x0 x1 x2 x3 → p6 x0 x1 x2 x3 → p7 x0 x1 x2 x3 → p8 x0 x1 x2 x3 → p9 x0 x1 x2 x3 → p10 x0 x1 x2 x3 → p11 x0 x1 x2 x3 → C) : (∃ x0 : t0, ∃ x1 : t1, ∃ x2 : t2, ∃ x3 : t3, p4 x0 x1 x2 x3 ∧ p5 x0 x1 x2 x3 ∧ p6 x0 x1 x2 x3 ∧ p7 x0 x1 x2 x3 ∧ p8 x0 x1 x2 x3 ∧ p9 x0 x1 x2 x3 ∧ p10 x0 x1 x2 x3 ∧ p11 x0 x1 x2 x3) → C := by
  rintro ⟨x0, x1, x2, x3, h4, h5, h6, h7, h8, h9, h10, h11⟩
  exact k x0 x1 x2 x3 h4 h5 h6 h7 h8 h9 h10 h11
theorem mk_EEEEAAAAAAA {t0 : Type} {t1 : Type} {t2 : Type} {t3 : Type} {p4 : t0 → t1 → t2 → t3 → Prop} {p5 : t0 → t1 → t2 → t3 → Prop} {p6 : t0 → t1 → t2 → t3 → Prop} {p7 : t0 → t1 → t2 → t3 → Prop} {p8 : t0 → t1 → t2 → t3 → Prop} {p9 : t0 → t1 → t2 → t3 → Prop} {p10 : t0 → t1 → t2 → t3 → Prop} {p11 : t0 → t1 → t2 → t3 → Prop} (x0 : t0) (x1 : t1) (x2 : t2) (x3 : t3) (h4 : p4 x0 x1 x2 x3) (h5 : p5 x0 x1 x2 x3) (h6 : p6 x0 x1 x2 x3) (h7 : p7 x0 x1 x2 x3) (h8 : p8 x0 x1 x2 x3) (h9 : p9 x0 x1 x2 x3) (h10 : p10 x0 x1 x2 x3) (h11 : p11 x0 x1 x2 x3) : ∃ x0 : t0, ∃ x1 : t1, ∃ x2 : t2, ∃ x3 : t3, p4 x0 x1 x2 x3 ∧ p5 x0 x1 x2 x3 ∧ p6 x0 x1 x2 x3 ∧ p7 x0 x1 x2 x3 ∧ p8 x0 x1 x2 x3 ∧ p9 x0 x1 x2 x3 ∧ p10 x0 x1 x2 x3 ∧ p11 x0 x1 x2 x3 := ⟨x0, x1, x2, x3, h4, h5, h6, h7, h8, h9, h10, h11⟩
theorem el_EEEEAAAAAAAA {t0 : Type} {t1 : Type} {t2 : Type} {t3 : Type} {p4 : t0 → t1 → t2 → t3 → Prop} {p5 : t0 → t1 → t2 → t3 → Prop} {p6 : t0 → t1 → t2 → t3 → Prop} {p7 : t0 → t1 → t2 → t3 → Prop} {p8 : t0 → t1 → t2 → t3 → Prop} {p9 : t0 → t1 → t2 → t3 → Prop} {p10 : t0 → t1 → t2 → t3 → Prop} {p11 : t0 → t1 → t2 → t3 → Prop} {p12 : t0 → t1 → t2 → t3 → Prop} {C : Prop} (k : ∀ x0 : t0, ∀ x1 : t1, ∀ x2 : t2, ∀ x3 : t3, p4 x0 x1 x2 x3 → p5 x0 x1 x2 x3 → p6 x0 x1 x2 x3 → p7 x0 x1 x2 x3 → p8 x0 x1 x2 x3 → p9 x0 x1 x2 x3 → p10 x0 x1 x2 x3 → p11 x0 x1 x2 x3 → p12 x0 x1 x2 x3 → C) : (∃ x0 : t0, ∃ x1 : t1, ∃ x2 : t2, ∃ x3 : t3, p4 x0 x1 x2 x3 ∧ p5 x0 x1 x2 x3 ∧ p6 x0 x1 x2 x3 ∧ p7 x0 x1 x2 x3 ∧ p8 x0 x1 x2 x3 ∧ p9 x0 x1 x2 x3 ∧ p10 x0 x1 x2 x3 ∧ p11 x0 x1 x2 x3 ∧ p12 x0 x1 x2 x3) → C := by
  rintro ⟨x0, x1, x2, x3, h4, h5, h6, h7, h8, h9, h10, h11, h12⟩
  exact k x0 x1 x2 x3 h4 h5 h6 h7 h8 h9 h10 h11 h12
theorem mk_EEEEAAAAAAAA {t0 : Type} {t1 : Type} {t2 : Type} {t3 : Type} {p4 : t0 → t1 → t2 → t3 → Prop} {p5 : t0 → t1 → t2 → t3 → Prop} {p6 : t0 → t1 → t2 → t3 → Prop} {p7 : t0 → t1 → t2 → t3 → Prop} {p8 : t0 → t1 → t2 → t3 → Prop} {p9 : t0 → t1 → t2 → t3 → Prop} {p10 : t0 → t1 → t2 → t3 → Prop} {p11 : t0 → t1 → t2 → t3 → Prop} {p12 : t0 → t1 → t2 → t3 → Prop} (x0 : t0) (x1 : t1) (x2 : t2) (x3 : t3) (h4 : p4 x0 x1 x2 x3) (h5 : p5 x0 x1 x2 x3) (h6 : p6 x0 x1 x2 x3) (h7 : p7 x0 x1 x2 x3) (h8 : p8 x0 x1 x2 x3) (h9 : p9 x0 x1 x2 x3) (h10 : p10 x0 x1 x2 x3) (h11 : p11 x0 x1 x2 x3) (h12 : p12 x0 x1 x2 x3) : ∃ x0 : t0, ∃ x1 : t1, ∃ x2 : t2, ∃ x3 : t3, p4 x0 x1 x2 x3 ∧ p5 x0 x1 x2 x3 ∧ p6 x0 x1 x2 x3 ∧ p7 x0 x1 x2 x3 ∧ p8 x0 x1 x2 x3 ∧ p9 x0 x1 x2 x3 ∧ p10 x0 x1 x2 x3 ∧ p11 x0 x1 x2 x3 ∧ p12 x0 x1 x2 x3 := ⟨x0, x1, x2, x3, h4, h5, h6, h7, h8, h9, h10, h11, h12⟩
theorem el_EEEEEA {t0 : Type} {t1 : Type} {t2 : Type} {t3 : Type} {t4 : Type} {p5 : t0 → t1 → t2 → t3 → t4 → Prop} {p6 : t0 → t1 → t2 → t3 → t4 → Prop} {C : Prop} (k : ∀ x0 : t0, ∀ x1 : t1, ∀ x2 : t2, ∀ x3 : t3, ∀ x4 : t4, p5 x0 x1 x2 x3 x4 → p6 x0 x1 x2 x3 x4 → C) : (∃ x0 : t0, ∃ x1 : t1, ∃ x2 : t2, ∃ x3 : t3, ∃ x4 : t4, p5 x0 x1 x2 x3 x4 ∧ p6 x0 x1 x2 x3 x4) → C := by
  rintro ⟨x0, x1, x2, x3, x4, h5, h6⟩
  exact k x0 x1 x2 x3 x4 h5 h6
theorem mk_EEEEEA {t0 : Type} {t1 : Type} {t2 : Type} {t3 : Type} {t4 : Type} {p5 : t0 → t1 → t2 → t3 → t4 → Prop} {p6 : t0 → t1 → t2 → t3 → t4 → Prop} (x0 : t0) (x1 : t1) (x2 : t2) (x3 : t3) (x4 : t4) (h5 : p5 x0 x1 x2 x3 x4) (h6 : p6 x0 x1 x2 x3 x4) : ∃ x0 : t0, ∃ x1 : t1, ∃ x2 : t2, ∃ x3 : t3, ∃ x4 : t4, p5 x0 x1 x2 x3 x4 ∧ p6 x0 x1 x2 x3 x4 := ⟨x0, x1, x2, x3, x4, h5, h6⟩
theorem el_EEEEEAAA {t0 : Type} {t1 : Type} {t2 : Type} {t3 : Type} {t4 : Type} {p5 : t0 → t1 → t2 → t3 → t4 → Prop} {p6 : t0 → t1 → t2 → t3 → t4 → Prop} {p7 : t0 → t1 → t2 → t3 → t4 → Prop} {p8 : t0 → t1 → t2 → t3 → t4 → Prop} {C : Prop} (k : ∀ x0 : t0, ∀ x1 : t1, ∀ x2 : t2, ∀ x3 : t3, ∀ x4 : t4, p5 x0 x1 x2 x3 x4 → p6 x0 x1 x2 x3 x4 → p7 x0 x1 x2 x3 x4 → p8 x0 x1 x2 x3 x4 → C) : (∃ x0 : t0, ∃ x1 : t1, ∃ x2 : t2, ∃ x3 : t3, ∃ x4 : t4, p5 x0 x1 x2 x3 x4 ∧ p6 x0 x1 x2 x3 x4 ∧ p7 x0 x1 x2 x3 x4 ∧ p8 x0 x1 x2 x3 x4) → C := by
  rintro ⟨x0, x1, x2, x3, x4, h5, h6, h7, h8⟩
  exact k x0 x1 x2 x3 x4 h5 h6 h7 h8
theorem mk_EEEEEAAA {t0 : Type} {t1 : Type} {t2 : Type} {t3 : Type} {t4 : Type} {p5 : t0 → t1 → t2 → t3 → t4 → Prop} {p6 : t0 → t1 → t2 → t3 → t4 → Prop} {p7 : t0 → t1 → t2 → t3 → t4 → Prop} {p8 : t0 → t1 → t2 → t3 → t4 → Prop} (x0 : t0) (x1 : t1) (x2 : t2) (x3 : t3) (x4 : t4) (h5 : p5 x0 x1 x2 x3 x4) (h6 : p6 x0 x1 x2 x3 x4) (h7 : p7 x0 x1 x2 x3 x4) (h8 : p8 x0 x1 x2 x3 x4) : ∃ x0 : t0, ∃ x1 : t1, ∃ x2 : t2, ∃ x3 : t3, ∃ x4 : t4, p5 x0 x1 x2 x3 x4 ∧ p6 x0 x1 x2 x3 x4 ∧ p7 x0 x1 x2 x3 x4 ∧ p8 x0 x1 x2 x3 x4 := ⟨x0, x1, x2, x3, x4, h5, h6, h7, h8⟩
theorem el_EEEEEAAAAA {t0 : Type} {t1 : Type} {t2 : Type} {t3 : Type} {t4 : Type} {p5 : t0 → t1 → t2 → t3 → t4 → Prop} {p6 : t0 → t1 → t2 → t3 → t4 → Prop} {p7 : t0 → t1 → t2 → t3 → t4 → Prop} {p8 : t0 → t1 → t2 → t3 → t4 → Prop} {p9 : t0 → t1 → t2 → t3 → t4 → Prop} {p10 : t0 → t1 → t2 → t3 → t4 → Prop} {C : Prop} (k : ∀ x0 : t0, ∀ x1 : t1, ∀ x2 : t2, ∀ x3 : t3, ∀ x4 : t4, p5 x0 x1 x2 x3 x4 → p6 x0 x1 x2 x3 x4 → p7 x0 x1 x2 x3 x4 → p8 x0 x1 x2 x3 x4 → p9 x0 x1 x2 x3 x4 → p10 x0 x1 x2 x3 x4 → C) : (∃ x0 : t0, ∃ x1 : t1, ∃ x2 : t2, ∃ x3 : t3, ∃ x4 : t4, p5 x0 x1 x2 x3 x4 ∧ p6 x0 x1 x2 x3 x4 ∧ p7 x0 x1 x2 x3 x4 ∧ p8 x0 x1 x2 x3 x4 ∧ p9 x0 x1 x2 x3 x4 ∧ p10 x0 x1 x2 x3 x4) → C := by
  rintro ⟨x0, x1, x2, x3, x4, h5, h6, h7, h8, h9, h10⟩
  exact k x0 x1 x2 x3 x4 h5 h6 h7 h8 h9 h10
theorem mk_EEEEEAAAAA {t0 : Type} {t1 : Type} {t2 : Type} {t3 : Type} {t4 : Type} {p5 : t0 → t1 → t2 → t3 → t4 → Prop} {p6 : t0 → t1 → t2 → t3 → t4 → Prop} {p7 : t0 → t1 → t2 → t3 → t4 → Prop} {p8 : t0 → t1 → t2 → t3 → t4 → Prop} {p9 : t0 → t1 → t2 → t3 → t4 → Prop} {p10 : t0 → t1 → t2 → t3 → t4 → Prop} (x0 : t0) (x1 : t1) (x2 : t2) (x3 : t3) (x4 : t4) (h5 : p5 x0 x1 x2 x3 x4) (h6 : p6 x0 x1 x2 x3 x4) (h7 : p7 x0 x1 x2 x3 x4) (h8 : p8 x0 x1 x2 x3 x4) (h9 : p9 x0 x1 x2 x3 x4) (h10 : p10 x0 x1 x2 x3 x4) : ∃ x0 : t0, ∃ x1 : t1, ∃ x2 : t2, ∃ x3 : t3, ∃ x4 : t4, p5 x0 x1 x2 x3 x4 ∧ p6 x0 x1 x2 x3 x4 ∧ p7 x0 x1 x2 x3 x4 ∧ p8 x0 x1 x2 x3 x4 ∧ p9 x0 x1 x2 x3 x4 ∧ p10 x0 x1 x2 x3 x4 := ⟨x0, x1, x2, x3, x4, h5, h6, h7, h8, h9, h10⟩
theorem el_EEEEEAAAAAA {t0 : Type} {t1 : Type} {t2 : Type} {t3 : Type} {t4 : Type} {p5 : t0 → t1 → t2 → t3 → t4 → Prop} {p6 : t0 → t1 → t2 → t3 → t4 → Prop} {p7 : t0 → t1 → t2 → t3 → t4 → Prop} {p8 : t0 → t1 → t2 → t3 → t4 → Prop} {p9 : t0 → t1 → t2 → t3 → t4 → Prop} {p10 : t0 → t1 → t2 → t3 → t4 → Prop} {p11 : t0 → t1 → t2 → t3 → t4 → Prop} {C : Prop} (k : ∀ x0 : t0, ∀ x1 : t1, ∀ x2 : t2, ∀ x3 : t3, ∀ x4 : t4, p5 x0 x1 x2 x3 x4 → p6 x0 x1 x2 x3 x4 → p7 x0 x1 x2 x3 x4 → p8 x0 x1 x2 x3 x4 → p9 x0 x1 x2 x3 x4 → p10 x0 x1 x2 x3 x4 → p11 x0 x1 x2 x3 x4 → C) : (∃ x0 : t0, ∃ x1 : t1, ∃ x2 : t2, ∃ x3 : t3, ∃ x4 : t4, p5 x0 x1 x2 x3 x4 ∧ p6 x0 x1 x2 x3 x4 ∧ p7 x0 x1 x2 x3 x4 ∧ p8 x0 x1 x2 x3 x4 ∧ p9 x0 x1 x2 x3 x4 ∧ p10 x0 x1 x2 x3 x4 ∧ p11 x0 x1 x2 x3 x4) → C := by
  rintro ⟨x0, x1, x2, x3, x4, h5, h6, h7, h8, h9, h10, h11⟩
  exact k x0 x1 x2 x3 x4 h5 h6 h7 h8 h9 h10 h11
theorem mk_EEEEEAAAAAAAA {t0 : Type} {t1 : Type} {t2 : Type} {t3 : Type} {t4 : Type} {p5 : t0 → t1 → t2 → t3 → t4 → Prop} {p6 : t0 → t1 → t2 → t3 → t4 → Prop} {p7 : t0 → t1 → t2 → t3 → t4 → Prop} {p8 : t0 → t1 → t2 → t3 → t4 → Prop} {p9 : t0 → t1 → t2 → t3 → t4 → Prop} {p10 : t0 → t1 → t2 → t3 → t4 → Prop} {p11 : t0 → t1 → t2 → t3 → t4 → Prop} {p12 : t0 → t1 → t2 → t3 → t4 → Prop} {p13 : t0 → t1 → t2 → t3 → t4 → Prop} (x0 : t0) (x1 : t1) (x2 : t2) (x3 : t3) (x4 : t4) (h5 : p5 x0 x1 x2 x3 x4) (h6 : p6 x0 x1 x2 x3 x4) (h7 : p7 x0 x1 x2 x3 x4) (h8 : p8 x0 x1 x2 x3 x4) (h9 : p9 x0 x1 x2 x3 x4) (h10 : p10 x0 x1 x2 x3 x4) (h11 : p11 x0 x1 x2 x3 x4) (h12 : p12 x0 x1 x2 x3 x4) (h13 : p13 x0 x1 x2 x3 x4) : ∃ x0 : t0, ∃ x1 : t1, ∃ x2 : t2, ∃ x3 : t3, ∃ x4 : t4, p5 x0 x1 x2 x3 x4 ∧ p6 x0 x1 x2 x3 x4 ∧ p7 x0 x1 x2 x3 x4 ∧ p8 x0 x1 x2 x3 x4 ∧ p9 x0 x1 x2 x3 x4 ∧ p10 x0 x1 x2 x3 x4 ∧ p11 x0 x1 x2 x3 x4 ∧ p12 x0 x1 x2 x3 x4 ∧ p13 x0 x1 x2 x3 x4 := ⟨x0, x1, x2, x3, x4, h5, h6, h7, h8, h9, h10, h11, h12, h13⟩
theorem mk_EEEEEAAAAAAEEEAAA {t0 : Type} {t1 : Type} {t2 : Type} {t3 : Type} {t4 : Type} {t11 : Type} {t12 : Type} {t13 : Type} {p5 : t0 → t1 → t2 → t3 → t4 → Prop} {p6 : t0 → t1 → t2 → t3 → t4 → Prop} {p7 : t0 → t1 → t2 → t3 → t4 → Prop} {p8 : t0 → t1 → t2 → t3 → t4 → Prop} {p9 : t0 → t1 → t2 → t3 → t4 → Prop} {p10 : t0 → t1 → t2 → t3 → t4 → Prop} {p14 : t0 → t1 → t2 → t3 → t4 → t11 → t12 → t13 → Prop} {p15 : t0 → t1 → t2 → t3 → t4 → t11 → t12 → t13 → Prop} {p16 : t0 → t1 → t2 → t3 → t4 → t11 → t12 → t13 → Prop} {p17 : t0 → t1 → t2 → t3 → t4 → t11 → t12 → t13 → Prop} (x0 : t0) (x1 : t1) (x2 : t2) (x3 : t3) (x4 : t4) (h5 : p5 x0 x1 x2 x3 x4) (h6 : p6 x0 x1 x2 x3 x4) (h7 : p7 x0 x1 x2 x3 x4) (h8 : p8 x0 x1 x2 x3 x4) (h9 : p9 x0 x1 x2 x3 x4) (h10 : p10 x0 x1 x2 x3 x4) (x11 : t11) (x12 : t12) (x13 : t13) (h14 : p14 x0 x1 x2 x3 x4 x11 x12 x13) (h15 : p15 x0 x1 x2 x3 x4 x11 x12 x13) (h16 : p16 x0 x1 x2 x3 x4 x11 x12 x13) (h17 : p17 x0 x1 x2 x3 x4 x11 x12 x13) : ∃ x0 : t0, ∃ x1 : t1, ∃ x2 : t2, ∃ x3 : t3, ∃ x4 : t4, p5 x0 x1 x2 x3 x4 ∧ p6 x0 x1 x2 x3 x4 ∧ p7 x0 x1 x2 x3 x4 ∧ p8 x0 x1 x2 x3 x4 ∧ p9 x0 x1 x2 x3 x4 ∧ p10 x0 x1 x2 x3 x4 ∧ ∃ x11 : t11, ∃ x12 : t12, ∃ x13 : t13, p14 x0 x1 x2 x3 x4 x11 x12 x13 ∧ p15 x0 x1 x2 x3 x4 x11 x12 x13 ∧ p16 x0 x1 x2 x3 x4 x11 x12 x13 ∧ p17 x0 x1 x2 x3 x4 x11 x12 x13 := ⟨x0, x1, x2, x3, x4, h5, h6, h7, h8, h9, h10, x11, x12, x13, h14, h15, h16, h17⟩
theorem el_EEEEEAAAAAEA {t0 : Type} {t1 : Type} {t2 : Type} {t3 : Type} {t4 : Type} {t10 : Type} {p5 : t0 → t1 → t2 → t3 → t4 → Prop} {p6 : t0 → t1 → t2 → t3 → t4 → Prop} {p7 : t0 → t1 → t2 → t3 → t4 → Prop} {p8 : t0 → t1 → t2 → t3 → t4 → Prop} {p9 : t0 → t1 → t2 → t3 → t4 → Prop} {p11 : t0 → t1 → t2 → t3 → t4 → t10 → Prop} {p12 : t0 → t1 → t2 → t3 → t4 → t10 → Prop} {C : Prop} (k : ∀ x0 : t0, ∀ x1 : t1, ∀ x2 : t2, ∀ x3 : t3, ∀ x4 : t4, p5 x0 x1 x2 x3 x4 → p6 x0 x1 x2 x3 x4 → p7 x0 x1 x2 x3 x4 → p8 x0 x1 x2 x3 x4 → p9 x0 x1 x2 x3 x4 → ∀ x10 : t10, p11 x0 x1 x2 x3 x4 x10 → p12 x0 x1 x2 x3 x4 x10 → C) : (∃ x0 : t0, ∃ x1 : t1, ∃ x2 : t2, ∃ x3 : t3, ∃ x4 : t4, p5 x0 x1 x2 x3 x4 ∧ p6 x0 x1 x2 x3 x4 ∧ p7 x0 x1 x2 x3 x4 ∧ p8 x0 x1 x2 x3 x4 ∧ p9 x0 x1 x2 x3 x4 ∧ ∃ x10 : t10, p11 x0 x1 x2 x3 x4 x10 ∧ p12 x0 x1 x2 x3 x4 x10) → C := by
  rintro ⟨x0, x1, x2, x3, x4, h5, h6, h7, h8, h9, x10, h11, h12⟩
  exact k x0 x1 x2 x3 x4 h5 h6 h7 h8 h9 x10 h11 h12
theorem mk_EEEEEAAAAAEAA {t0 : Type} {t1 : Type} {t2 : Type} {t3 : Type} {t4 : Type} {t10 : Type} {p5 : t0 → t1 → t2 → t3 → t4 → Prop} {p6 : t0 → t1 → t2 → t3 → t4 → Prop} {p7 : t0 → t1 → t2 → t3 → t4 → Prop} {p8 : t0 → t1 → t2 → t3 → t4 → Prop} {p9 : t0 → t1 → t2 → t3 → t4 → Prop} {p11 : t0 → t1 → t2 → t3 → t4 → t10 → Prop} {p12 : t0 → t1 → t2 → t3 → t4 → t10 → Prop} {p13 : t0 → t1 → t2 → t3 → t4 → t10 → Prop} (x0 : t0) (x1 : t1) (x2 : t2) (x3 : t3) (x4 : t4) (h5 : p5 x0 x1 x2 x3 x4) (h6 : p6 x0 x1 x2 x3 x4) (h7 : p7 x0 x1 x2 x3 x4) (h8 : p8 x0 x1 x2 x3 x4) (h9 : p9 x0 x1 x2 x3 x4) (x10 : t10) (h11 : p11 x0 x1 x2 x3 x4 x10) (h12 : p12 x0 x1 x2 x3 x4 x10) (h13 : p13 x0 x1 x2 x3 x4 x10) : ∃ x0 : t0, ∃ x1 : t1, ∃ x2 : t2, ∃ x3 : t3, ∃ x4 : t4, p5 x0 x1 x2 x3 x4 ∧ p6 x0 x1 x2 x3 x4 ∧ p7 x0 x1 x2 x3 x4 ∧ p8 x0 x1 x2 x3 x4 ∧ p9 x0 x1 x2 x3 x4 ∧ ∃ x10 : t10, p11 x0 x1 x2 x3 x4 x10 ∧ p12 x0 x1 x2 x3 x4 x10 ∧ p13 x0 x1 x2 x3 x4 x10 := ⟨x0, x1, x2, x3, x4, h5, h6, h7, h8, h9, x10, h11, h12, h13⟩
theorem el_EEEEEAAAAAEEA {t0 : Type} {t1 : Type} {t2 : Type} {t3 : Type} {t4 : Type} {t10 : Type} {t11 : Type} {p5 : t0 → t1 → t2 → t3 → t4 → Prop} {p6 : t0 → t1 → t2 → t3 → t4 → Prop} {p7 : t0 → t1 → t2 → t3 → t4 → Prop} {p8 : t0 → t1 → t2 → t3 → t4 → Prop} {p9 : t0 → t1 → t2 → t3 → t4 → Prop} {p12 : t0 → t1 → t2 → t3 → t4 → t10 → t11 → Prop} {p13 : t0 → t1 → t2 → t3 → t4 → t10 → t11 → Prop} {C : Prop} (k : ∀ x0 : t0, ∀ x1 : t1, ∀ x2 : t2, ∀ x3 : t3, ∀ x4 : t4, p5 x0 x1 x2 x3 x4 → p6 x0 x1 x2 x3 x4 → p7 x0 x1 x2 x3 x4 → p8 x0 x1 x2 x3 x4 → p9 x0 x1 x2 x3 x4 → ∀ x10 : t10, ∀ x11 : t11, p12 x0 x1 x2 x3 x4 x10 x11 → p13 x0 x1 x2 x3 x4 x10 x11 → C) : (∃ x0 : t0, ∃ x1 : t1, ∃ x2 : t2, ∃ x3 : t3, ∃ x4 : t4, p5 x0 x1 x2 x3 x4 ∧ p6 x0 x1 x2 x3 x4 ∧ p7 x0 x1 x2 x3 x4 ∧ p8 x0 x1 x2 x3 x4 ∧ p9 x0 x1 x2 x3 x4 ∧ ∃ x10 : t10, ∃ x11 : t11, p12 x0 x1 x2 x3 x4 x10 x11 ∧ p13 x0 x1 x2 x3 x4 x10 x11) → C := by
  rintro ⟨x0, x1, x2, x3, x4, h5, h6, h7, h8, h9, x10, x11, h12, h13⟩
  exact k x0 x1 x2 x3 x4 h5 h6 h7 h8 h9 x10 x11 h12 h13
theorem mk_EEEEEAAAAAEEAA {t0 : Type} {t1 : Type} {t2 : Type} {t3 : Type} {t4 : Type} {t10 : Type} {t11 : Type} {p5 : t0 → t1 → t2 → t3 → t4 → Prop} {p6 : t0 → t1 → t2 → t3 → t4 → Prop} {p7 : t0 → t1 → t2 → t3 → t4 → Prop} {p8 : t0 → t1 → t2 → t3 → t4 → Prop} {p9 : t0 → t1 → t2 → t3 → t4 → Prop} {p12 : t0 → t1 → t2 → t3 → t4 → t10 → t11 → Prop} {p13 : t0 → t1 → t2 → t3 → t4 → t10 → t11 → Prop} {p14 : t0 → t1 → t2 → t3 → t4 → t10 → t11 → Prop} (x0 : t0) (x1 : t1) (x2 : t2) (x3 : t3) (x4 : t4) (h5 : p5 x0 x1 x2 x3 x4) (h6 : p6 x0 x1 x2 x3 x4) (h7 : p7 x0 x1 x2 x3 x4) (h8 : p8 x0 x1 x2 x3 x4) (h9 : p9 x0 x1 x2 x3 x4) (x10 : t10) (x11 : t11) (h12 : p12 x0 x1 x2 x3 x4 x10 x11) (h13 : p13 x0 x1 x2 x3 x4 x10 x11) (h14 : p14 x0 x1 x2 x3 x4 x10 x11) : ∃ x0 : t0, ∃ x1 : t1, ∃ x2 : t2, ∃ x3 : t3, ∃ x4 : t4, p5 x0 x1 x2 x3 x4 ∧ p6 x0 x1 x2 x3 x4 ∧ p7 x0 x1 x2 x3 x4 ∧ p8 x0 x1 x2 x3 x4 ∧ p9 x0 x1 x2 x3 x4 ∧ ∃ x10 : t10, ∃ x11 : t11, p12 x0 x1 x2 x3 x4 x10 x11 ∧ p13 x0 x1 x2 x3 x4 x10 x11 ∧ p14 x0 x1 x2 x3 x4 x10 x11 := ⟨x0, x1, x2, x3, x4, h5, h6, h7, h8, h9, x10, x11, h12, h13, h14⟩
theorem mk_EEEEEAAAAAEEAAAA {t0 : Type} {t1 : Type} {t2 : Type} {t3 : Type} {t4 : Type} {t10 : Type} {t11 : Type} {p5 : t0 → t1 → t2 → t3 → t4 → Prop} {p6 : t0 → t1 → t2 → t3 → t4 → Prop} {p7 : t0 → t1 → t2 → t3 → t4 → Prop} {p8 : t0 → t1 → t2 → t3 → t4 → Prop} {p9 : t0 → t1 → t2 → t3 → t4 → Prop} {p12 : t0 → t1 → t2 → t3 → t4 → t10 → t11 → Prop} {p13 : t0 → t1 → t2 → t3 → t4 → t10 → t11 → Prop} {p14 : t0 → t1 → t2 → t3 → t4 → t10 → t11 → Prop} {p15 : t0 → t1 → t2 → t3 → t4 → t10 → t11 → Prop} {p16 : t0 → t1 → t2 → t3 → t4 → t10 → t11 → Prop} (x0 : t0) (x1 : t1) (x2 : t2) (x3 : t3) (x4 : t4) (h5 : p5 x0 x1 x2 x3 x4) (h6 : p6 x0 x1 x2 x3 x4) (h7 : p7 x0 x1 x2 x3 x4) (h8 : p8 x0 x1 x2 x3 x4) (h9 : p9 x0 x1 x2 x3 x4) (x10 : t10) (x11 : t11) (h12 : p12 x0 x1 x2 x3 x4 x10 x11) (h13 : p13 x0 x1 x2 x3 x4 x10 x11) (h14 : p14 x0 x1 x2 x3 x4 x10 x11) (h15 : p15 x0 x1 x2 x3 x4 x10 x11) (h16 : p16 x0 x1 x2 x3 x4 x10 x11) : ∃ x0 : t0, ∃ x1 : t1, ∃ x2 : t2, ∃ x3 : t3, ∃ x4 : t4, p5 x0 x1 x2 x3 x4 ∧ p6 x0 x1 x2 x3 x4 ∧ p7 x0 x1 x2 x3 x4 ∧ p8 x0 x1 x2 x3 x4 ∧ p9 x0 x1 x2 x3 x4 ∧ ∃ x10 : t10, ∃ x11 : t11, p12 x0 x1 x2 x3 x4 x10 x11 ∧ p13 x0 x1 x2 x3 x4 x10 x11 ∧ p14 x0 x1 x2 x3 x4 x10 x11 ∧ p15 x0 x1 x2 x3 x4 x10 x11 ∧ p16 x0 x1 x2 x3 x4 x10 x11 := ⟨x0, x1, x2, x3, x4, h5, h6, h7, h8, h9, x10, x11, h12, h13, h14, h15, h16⟩
theorem mk_EEEEEAAAAAEEEAAA {t0 : Type} {t1 : Type} {t2 : Type} {t3 : Type} {t4 : Type} {t10 : Type} {t11 : Type} {t12 : Type} {p5 : t0 → t1 → t2 → t3 → t4 → Prop} {p6 : t0 → t1 → t2 → t3 → t4 → Prop} {p7 : t0 → t1 → t2 → t3 → t4 → Prop} {p8 : t0 → t1 → t2 → t3 → t4 → Prop} {p9 : t0 → t1 → t2 → t3 → t4 → Prop} {p13 : t0 → t1 → t2 → t3 → t4 → t10 → t11 → t12 → Prop} {p14 : t0 → t1 → t2 → t3 → t4 → t10 → t11 → t12 → Prop} {p15 : t0 → t1 → t2 → t3 → t4 → t10 → t11 → t12 → Prop} {p16 : t0 → t1 → t2 → t3 → t4 → t10 → t11 → t12 → Prop} (x0 : t0) (x1 : t1) (x2 : t2) (x3 : t3) (x4 : t4) (h5 : p5 x0 x1 x2 x3 x4) (h6 : p6 x0 x1 x2 x3 x4) (h7 : p7 x0 x1 x2 x3 x4) (h8 : p8 x0 x1 x2 x3 x4) (h9 : p9 x0 x1 x2 x3 x4) (x10 : t10) (x11 : t11) (x12 : t12) (h13 : p13 x0 x1 x2 x3 x4 x10 x11 x12) (h14 : p14 x0 x1 x2 x3 x4 x10 x11 x12) (h15 : p15 x0 x1 x2 x3 x4 x10 x11 x12) (h16 : p16 x0 x1 x2 x3 x4 x10 x11 x12) : ∃ x0 : t0, ∃ x1 : t1, ∃ x2 : t2, ∃ x3 : t3, ∃ x4 : t4, p5 x0 x1 x2 x3 x4 ∧ p6 x0 x1 x2 x3 x4 ∧ p7 x0 x1 x2 x3 x4 ∧ p8 x0 x1 x2 x3 x4 ∧ p9 x0 x1 x2 x3 x4 ∧ ∃ x10 : t10, ∃ x11 : t11, ∃ x12 : t12, p13 x0 x1 x2 x3 x4 x10 x11 x12 ∧ p14 x0 x1 x2 x3 x4 x10 x11 x12 ∧ p15 x0 x1 x2 x3 x4 x10 x11 x12 ∧ p16 x0 x1 x2 x3 x4 x10 x11 x12 := ⟨x0, x1, x2, x3, x4, h5, h6, h7, h8, h9, x10, x11, x12, h13, h14, h15, h16⟩
theorem mk_EEEEEAAAAAEEEEAAAAAAA {t0 : Type} {t1 : Type} {t2 : Type} {t3 : Type} {t4 : Type} {t10 : Type} {t11 : Type} {t12 : Type} {t13 : Type} {p5 : t0 → t1 → t2 → t3 → t4 → Prop} {p6 : t0 → t1 → t2 → t3 → t4 → Prop} {p7 : t0 → t1 → t2 → t3 → t4 → Prop} {p8 : t0 → t1 → t2 → t3 → t4 → Prop} {p9 : t0 → t1 → t2 → t3 → t4 → Prop} {p14 : t0 → t1 → t2 → t3 → t4 → t10 → t11 → t12 → t13 → Prop} {p15 : t0 → t1 → t2 → t3 → t4 → t10 → t11 → t12 → t13 → Prop} {p16 : t0 → t1 → t2 → t3 → t4 → t10 → t11 → t12 → t13 → Prop} {p17 : t0 → t1 → t2 → t3 → t4 → t10 → t11 → t12 → t13 → Prop} {p18 : t0 → t1 → t2 → t3 → t4 → t10 → t11 → t12 → t13 → Prop} {p19 : t0 → t1 → t2 → t3 → t4 → t10 → t11 → t12 → t13 → Prop} {p20 : t0 → t1 → t2 → t3 → t4 → t10 → t11 → t12 → t13 → Prop} {p21 : t0 → t1 → t2 → t3 → t4 → t10 → t11 → t12 → t13 → Prop} (x0 : t0) (x1 : t1) (x2 : t2) (x3 : t3) (x4 : t4) (h5 : p5 x0 x1 x2 x3 x4) (h6 : p6 x0 x1 x2 x3 x4) (h7 : p7 x0 x1 x2 x3 x4) (h8 : p8 x0 x1 x2 x3 x4) (h9 : p9 x0 x1 x2 x3 x4) (x10 : t10) (x11 : t11) (x12 : t12) (x13 : t13) (h14 : p14 x0 x1 x2 x3 x4 x10 x11 x12 x13) (h15 : p15 x0 x1 x2 x3 x4 x10 x11 x12 x13) (h16 : p16 x0 x1 x2 x3 x4 x10 x11 x12 x13) (h17 : p17 x0 x1 x2 x3 x4 x10 x11 x12 x13) (h18 : p18 x0 x1 x2 x3 x4 x10 x11 x12 x13) (h19 : p19 x0 x1 x2 x3 x4 x10 x11 x12 x13) (h20 : p20 x0 x1 x2 x3 x4 x10 x11 x12 x13) (h21 : p21 x0 x1 x2 x3 x4 x10 x11 x12 x13) : ∃ x0 : t0, ∃ x1 : t1, ∃ x2 : t2, ∃ x3 : t3, ∃ x4 : t4, p5 x0 x1 x2 x3 x4 ∧ p6 x0 x1 x2 x3 x4 ∧ p7 x0 x1 x2 x3 x4 ∧ p8 x0 x1 x2 x3 x4 ∧ p9 x0 x1 x2 x3 x4 ∧ ∃ x10 : t10, ∃ x11 : t11, ∃ x12 : t12, ∃ x13 : t13, p14 x0 x1 x2 x3 x4 x10 x11 x12 x13 ∧ p15 x0 x1 x2 x3 x4 x10 x11 x12 x13 ∧ p16 x0 x1 x2 x3 x4 x10 x11 x12 x13 ∧ p17 x0 x1 x2 x3 x4 x10 x11 x12 x13 ∧ p18 x0 x1 x2 x3 x4 x10 x11 x12 x13 ∧ p19 x0 x1 x2 x3 x4 x10 x11 x12 x13 ∧ p20 x0 x1 x2 x3 x4 x10 x11 x12 x13 ∧ p21 x0 x1 x2 x3 x4 x10 x11 x12 x13 := ⟨x0, x1, x2, x3, x4, h5, h6, h7, h8, h9, x10, x11, x12, x13, h14, h15, h16, h17, h18, h19, h20, h21⟩
theorem el_EEEEEEAA {t0 : Type} {t1 : Type} {t2 : Type} {t3 : Type} {t4 : Type} {t5 : Type} {p6 : t0 → t1 → t2 → t3 → t4 → t5 → Prop} {p7 : t0 → t1 → t2 → t3 → t4 → t5 → Prop} {p8 : t0 → t1 → t2 → t3 → t4 → t5 → Prop} {C : Prop} (k : ∀ x0 : t0, ∀ x1 : t1, ∀ x2 : t2, ∀ x3 : t3, ∀ x4 : t4, ∀ x5 : t5, p6 x0 x1 x2 x3 x4 x5 → p7 x0 x1 x2 x3 x4 x5 → p8 x0 x1 x2 x3 x4 x5 → C) : (∃ x0 : t0, ∃ x1 : t1, ∃ x2 : t2, ∃ x3 : t3, ∃ x4 : t4, ∃ x5 : t5, p6 x0 x1 x2 x3 x4 x5 ∧ p7 x0 x1 x2 x3 x4 x5 ∧ p8 x0 x1 x2 x3 x4 x5) → C := by
  rintro ⟨x0, x1, x2, x3, x4, x5, h6, h7, h8⟩
  exact k x0 x1 x2 x3 x4 x5 h6 h7 h8
theorem mk_EEEEEEAA {t0 : Type} {t1 : Type} {t2 : Type} {t3 : Type} {t4 : Type} {t5 : Type} {p6 : t0 → t1 → t2 → t3 → t4 → t5 → Prop} {p7 : t0 → t1 → t2 → t3 → t4 → t5 → Prop} {p8 : t0 → t1 → t2 → t3 → t4 → t5 → Prop} (x0 : t0) (x1 : t1) (x2 : t2) (x3 : t3) (x4 : t4) (x5 : t5) (h6 : p6 x0 x1 x2 x3 x4 x5) (h7 : p7 x0 x1 x2 x3 x4 x5) (h8 : p8 x0 x1 x2 x3 x4 x5) : ∃ x0 : t0, ∃ x1 : t1, ∃ x2 : t2, ∃ x3 : t3, ∃ x4 : t4, ∃ x5 : t5, p6 x0 x1 x2 x3 x4 x5 ∧ p7 x0 x1 x2 x3 x4 x5 ∧ p8 x0 x1 x2 x3 x4 x5 := ⟨x0, x1, x2, x3, x4, x5, h6, h7, h8⟩
theorem el_EEEEEEAAAAAAAA {t0 : Type} {t1 : Type} {t2 : Type} {t3 : Type} {t4 : Type} {t5 : Type} {p6 : t0 → t1 → t2 → t3 → t4 → t5 → Prop} {p7 : t0 → t1 → t2 → t3 → t4 → t5 → Prop} {p8 : t0 → t1 → t2 → t3 → t4 → t5 → Prop} {p9 : t0 → t1 → t2 → t3 → t4 → t5 → Prop} {p10 : t0 → t1 → t2 → t3 → t4 → t5 → Prop} {p11 : t0 → t1 → t2 → t3 → t4 → t5 → Prop} {p12 : t0 → t1 → t2 → t3 → t4 → t5 → Prop} {p13 : t0 → t1 → t2 → t3 → t4 → t5 → Prop} {p14 : t0 → t1 → t2 → t3 → t4 → t5 → Prop} {C : Prop} (k : ∀ x0 : t0, ∀ x1 : t1, ∀ x2 : t2, ∀ x3 : t3, ∀ x4 : t4, ∀ x5 : t5, p6 x0 x1 x2 x3 x4 x5 → p7 x0 x1 x2 x3 x4 x5 → p8 x0 x1 x2 x3 x4 x5 → p9 x0 x1 x2 x3 x4 x5 → p10 x0 x1 x2 x3 x4 x5 → p11 x0 x1 x2 x3 x4 x5 → p12 x0 x1 x2 x3 x4 x5 → p13 x0 x1 x2 x3 x4 x5 → p14 x0 x1 x2 x3 x4 x5 → C) : (∃ x0 : t0, ∃ x1 : t1, ∃ x2 : t2, ∃ x3 : t3, ∃ x4 : t4, ∃ x5 : t5, p6 x0 x1 x2 x3 x4 x5 ∧ p7 x0 x1 x2 x3 x4 x5 ∧ p8 x0 x1 x2 x3 x4 x5 ∧ p9 x0 x1 x2 x3 x4 x5 ∧ p10 x0 x1 x2 x3 x4 x5 ∧ p11 x0 x1 x2 x3 x4 x5 ∧ p12 x0 x1 x2 x3 x4 x5 ∧ p13 x0 x1 x2 x3 x4 x5 ∧ p14 x0 x1 x2 x3 x4 x5) → C := by
  rintro ⟨x0, x1, x2, x3, x4, x5, h6, h7, h8, h9, h10, h11, h12, h13, h14⟩
  exact k x0 x1 x2 x3 x4 x5 h6 h7 h8 h9 h10 h11 h12 h13 h14
theorem mk_EEEEEEAAAAAAAA {t0 : Type} {t1 : Type} {t2 : Type} {t3 : Type} {t4 : Type} {t5 : Type} {p6 : t0 → t1 → t2 → t3 → t4 → t5 → Prop} {p7 : t0 → t1 → t2 → t3 → t4 → t5 → Prop} {p8 : t0 → t1 → t2 → t3 → t4 → t5 → Prop} {p9 : t0 → t1 → t2 → t3 → t4 → t5 → Prop} {p10 : t0 → t1 → t2 → t3 → t4 → t5 → Prop} {p11 : t0 → t1 → t2 → t3 → t4 → t5 → Prop} {p12 : t0 → t1 → t2 → t3 → t4 → t5 → Prop} {p13 : t0 → t1 → t2 → t3 → t4 → t5 → Prop} {p14 : t0 → t1 → t2 → t3 → t4 → t5 → Prop} (x0 : t0) (x1 : t1) (x2 : t2) (x3 : t3) (x4 : t4) (x5 : t5) (h6 : p6 x0 x1 x2 x3 x4 x5) (h7 : p7 x0 x1 x2 x3 x4 x5) (h8 : p8 x0 x1 x2 x3 x4 x5) (h9 : p9 x0 x1 x2 x3 x4 x5) (h10 : p10 x0 x1 x2 x3 x4 x5) (h11 : p11 x0 x1 x2 x3 x4 x5) (h12 : p12 x0 x1 x2 x3 x4 x5) (h13 : p13 x0 x1 x2 x3 x4 x5) (h14 : p14 x0 x1 x2 x3 x4 x5) : ∃ x0 : t0, ∃ x1 : t1, ∃ x2 : t2, ∃ x3 : t3, ∃ x4 : t4, ∃ x5 : t5, p6 x0 x1 x2 x3 x4 x5 ∧ p7 x0 x1 x2 x3 x4 x5 ∧ p8 x0 x1 x2 x3 x4 x5 ∧ p9 x0 x1 x2 x3 x4 x5 ∧ p10 x0 x1 x2 x3 x4 x5 ∧ p11 x0 x1 x2 x3 x4 x5 ∧ p12 x0 x1 x2 x3 x4 x5 ∧ p13 x0 x1 x2 x3 x4 x5 ∧ p14 x0 x1 x2 x3 x4 x5 := ⟨x0, x1, x2, x3, x4, x5, h6, h7, h8, h9, h10, h11, h12, h13, h14⟩
theorem el_EEEEEEAAAAAAAAAA {t0 : Type} {t1 : Type} {t2 : Type} {t3 : Type} {t4 : Type} {t5 : Type} {p6 : t0 → t1 → t2 → t3 → t4 → t5 → Prop} {p7 : t0 → t1 → t2 → t3 → t4 → t5 → Prop} {p8 : t0 → t1 → t2 → t3 → t4 → t5 → Prop} {p9 : t0 → t1 → t2 → t3 → t4 → t5 → Prop} {p10 : t0 → t1 → t2 → t3 → t4 → t5 → Prop} {p11 : t0 → t1 → t2 → t3 → t4 → t5 → Prop} {p12 : t0 → t1 → t2 → t3 → t4 → t5 → Prop} {p13 : t0 → t1 → t2 → t3 → t4 → t5 → Prop} {p14 : t0 → t1 → t2 → t3 → t4 → t5 → Prop} {p15 : t0 → t1 → t2 → t3 → t4 → t5 → Prop} {p16 : t0 → t1 → t2 → t3 → t4 → t5 → Prop} {C : Prop} (k : ∀ x0 : t0, ∀ x1 : t1, ∀ x2 : t2, ∀ x3 : t3, ∀ x4 : t4, ∀ x5 : t5, p6 x0 x1 x2 x3 x4 x5 → p7 x0 x1 x2 x3 x4 x5 → p8 x0 x1 x2 x3 x4 x5 → p9 x0 x1 x2 x3 x4 x5 → p10 x0 x1 x2 x3 x4 x5 → p11 x0 x1 x2 x3 x4 x5 → p12 x0 x1 x2 x3 x4 x5 → p13 x0 x1 x2 x3 x4 x5 → p14 x0 x1 x2 x3 x4 x5 → p15 x0 x1 x2 x3 x4 x5 → p16 x0 x1 x2 x3 x4 x5 → C) : (∃ x0 : t0, ∃ x1 : t1, ∃ x2 : t2, ∃ x3 : t3, ∃ x4 : t4, ∃ x5 : t5, p6 x0 x1 x2 x3 x4 x5 ∧ p7 x0 x1 x2 x3 x4 x5 ∧ p8 x0 x1 x2 x3 x4 x5 ∧ p9 x0 x1 x2 x3 x4 x5 ∧ p10 x0 x1 x2 x3 x4 x5 ∧ p11 x0 x1 x2 x3 x4 x5 ∧ p12 x0 x1 x2 x3 x4 x5 ∧ p13 x0 x1 x2 x3 x4 x5 ∧ p14 x0 x1 x2 x3 x4 x5 ∧ p15 x0 x1 x2 x3 x4 x5 ∧ p16 x0 x1 x2 x3 x4 x5) → C := by
  rintro ⟨x0, x1, x2, x3, x4, x5, h6, h7, h8, h9, h10, h11, h12, h13, h14, h15, h16⟩
  exact k x0 x1 x2 x3 x4 x5 h6 h7 h8 h9 h10 h11 h12 h13 h14 h15 h16
theorem mk_EEEEEEAAAAAAAAAA {t0 : Type} {t1 : Type} {t2 : Type} {t3 : Type} {t4 : Type} {t5 : Type} {p6 : t0 → t1 → t2 → t3 → t4 → t5 → Prop} {p7 : t0 → t1 → t2 → t3 → t4 → t5 → Prop} {p8 : t0 → t1 → t2 → t3 → t4 → t5 → Prop} {p9 : t0 → t1 → t2 → t3 → t4 → t5 → Prop} {p10 : t0 → t1 → t2 → t3 → t4 → t5 → Prop} {p11 : t0 → t1 → t2 → t3 → t4 → t5 → Prop} {p12 : t0 → t1 → t2 → t3 → t4 → t5 → Prop} {p13 : t0 → t1 → t2 → t3 → t4 → t5 → Prop} {p14 : t0 → t1 → t2 → t3 → t4 → t5 → Prop} {p15 : t0 → t1 → t2 → t3 → t4 → t5 → Prop} {p16 : t0 → t1 → t2 → t3 → t4 → t5 → Prop} (x0 : t0) (x1 : t1) (x2 : t2) (x3 : t3) (x4 : t4) (x5 : t5) (h6 : p6 x0 x1 x2 x3 x4 x5) (h7 : p7 x0 x1 x2 x3 x4 x5) (h8 : p8 x0 x1 x2 x3 x4 x5) (h9 : p9 x0 x1 x2 x3 x4 x5) (h10 : p10 x0 x1 x2 x3 x4 x5) (h11 : p11 x0 x1 x2 x3 x4 x5) (h12 : p12 x0 x1 x2 x3 x4 x5) (h13 : p13 x0 x1 x2 x3 x4 x5) (h14 : p14 x0 x1 x2 x3 x4 x5) (h15 : p15 x0 x1 x2 x3 x4 x5) (h16 : p16 x0 x1 x2 x3 x4 x5) : ∃ x0 : t0, ∃ x1 : t1, ∃ x2 : t2, ∃ x3 : t3, ∃ x4 : t4, ∃ x5 : t5, p6 x0 x1 x2 x3 x4 x5 ∧ p7 x0 x1 x2 x3 x4 x5 ∧ p8 x0 x1 x2 x3 x4 x5 ∧ p9 x0 x1 x2 x3 x4 x5 ∧ p10 x0 x1 x2 x3 x4 x5 ∧ p11 x0 x1 x2 x3 x4 x5 ∧ p12 x0 x1 x2 x3 x4 x5 ∧ p13 x0 x1 x2 x3 x4 x5 ∧ p14 x0 x1 x2 x3 x4 x5 ∧ p15 x0 x1 x2 x3 x4 x5 ∧ p16 x0 x1 x2 x3 x4 x5 := ⟨x0, x1, x2, x3, x4, x5, h6, h7, h8, h9, h10, h11, h12, h13, h14, h15, h16⟩
theorem el_EEEEEEAAAAAAAAAAA {t0 : Type} {t1 : Type} {t2 : Type} {t3 : Type} {t4 : Type} {t5 : Type} {p6 : t0 → t1 → t2 → t3 → t4 → t5 → Prop} {p7 : t0 → t1 → t2 → t3 → t4 → t5 → Prop} {p8 : t0 → t1 → t2 → t3 → t4 → t5 → Prop} {p9 : t0 → t1 → t2 → t3 → t4 → t5 → Prop} {p10 : t0 → t1 → t2 → t3 → t4 → t5 → Prop} {p11 : t0 → t1 → t2 → t3 → t4 → t5 → Prop} {p12 : t0 → t1 → t2 → t3 → t4 → t5 → Prop} {p13 : t0 → t1 → t2 → t3 → t4 → t5 → Prop} {p14 : t0 → t1 → t2 → t3 → t4 → t5 → Prop} {p15 : t0 → t1 → t2 → t3 → t4 → t5 → Prop} {p16 : t0 → t1 → t2 → t3 → t4 → t5 → Prop} {p17 : t0 → t1 → t2 → t3 → t4 → t5 → Prop} {C : Prop} (k : ∀ x0 : t0, ∀ x1 : t1, ∀ x2 : t2, ∀ x3 : t3, ∀ x4 : t4, ∀ x5 : t5, p6 x0 x1 x2 x3 x4 x5 → p7 x0 x1 x2 x3 x4 x5 → p8 x0 x1 x2 x3 x4 x5 → p9 x0 x1 x2 x3 x4 x5 → p10 x0 x1 x2 x3 x4 x5 → p11 x0 x1 x2 x3 x4 x5 → p12 x0 x1 x2 x3 x4 x5 → p13 x0 x1 x2 x3 x4 x5 → p14 x0 x1 x2 x3 x4 x5 → p15 x0 x1 x2 x3 x4 x5 → p16 x0 x1 x2 x3 x4 x5 → p17 x0 x1 x2 x3 x4 x5 → C) : (∃ x0 : t0, ∃ x1 : t1, ∃ x2 : t2, ∃ x3 : t3, ∃ x4 : t4, ∃ x5 : t5, p6 x0 x1 x2 x3 x4 x5 ∧ p7 x0 x1 x2 x3 x4 x5 ∧ p8 x0 x1 x2 x3 x4 x5 ∧ p9 x0 x1 x2 x3 x4 x5 ∧ p10 x0 x1 x2 x3 x4 x5 ∧ p11 x0 x1 x2 x3 x4 x5 ∧ p12 x0 x1 x2 x3 x4 x5 ∧ p13 x0 x1 x2 x3 x4 x5 ∧ p14 x0 x1 x2 x3 x4 x5 ∧ p15 x0 x1 x2 x3 x4 x5 ∧ p16 x0 x1 x2 x3 x4 x5 ∧ p17 x0 x1 x2 x3 x4 x5) → C := by
  rintro ⟨x0, x1, x2, x3, x4, x5, h6, h7, h8, h9, h10, h11, h12, h13, h14, h15, h16, h17⟩
  exact k x0 x1 x2 x3 x4 x5 h6 h7 h8 h9 h10 h11 h12 h13 h14 h15 h16 h17
theorem mk_EEEEEEAAAAAAAAAAA {t0 : Type} {t1 : Type} {t2 : Type} {t3 : Type} {t4 : Type} {t5 : Type} {p6 : t0 → t1 → t2 → t3 → t4 → t5 → Prop} {p7 : t0 → t1 → t2 → t3 → t4 → t5 → Prop} {p8 : t0 → t1 → t2 → t3 → t4 → t5 → Prop} {p9 : t0 → t1 → t2 → t3 → t4 → t5 → Prop} {p10 : t0 → t1 → t2 → t3 → t4 → t5 → Prop} {p11 : t0 → t1 → t2 → t3 → t4 → t5 → Prop} {p12 : t0 → t1 → t2 → t3 → t4 → t5 → Prop} {p13 : t0 → t1 → t2 → t3 → t4 → t5 → Prop} {p14 : t0 → t1 → t2 → t3 → t4 → t5 → Prop} {p15 : t0 → t1 → t2 → t3 → t4 → t5 → Prop} {p16 : t0 → t1 → t2 → t3 → t4 → t5 → Prop} {p17 : t0 → t1 → t2 → t3 → t4 → t5 → Prop} (x0 : t0) (x1 : t1) (x2 : t2) (x3 : t3) (x4 : t4) (x5 : t5) (h6 : p6 x0 x1 x2 x3 x4 x5) (h7 : p7 x0 x1 x2 x3 x4 x5) (h8 : p8 x0 x1 x2 x3 x4 x5) (h9 : p9 x0 x1 x2 x3 x4 x5) (h10 : p10 x0 x1 x2 x3 x4 x5) (h11 : p11 x0 x1 x2 x3 x4 x5) (h12 : p12 x0 x1 x2 x3 x4 x5) (h13 : p13 x0 x1 x2 x3 x4 x5) (h14 : p14 x0 x1 x2 x3 x4 x5) (h15 : p15 x0 x1 x2 x3 x4 x5) (h16 : p16 x0 x1 x2 x3 x4 x5) (h17 : p17 x0 x1 x2 x3 x4 x5) : ∃ x0 : t0, ∃ x1 : t1, ∃ x2 : t2, ∃ x3 : t3, ∃ x4 : t4, ∃ x5 : t5, p6 x0 x1 x2 x3 x4 x5 ∧ p7 x0 x1 x2 x3 x4 x5 ∧ p8 x0 x1 x2 x3 x4 x5 ∧ p9 x0 x1 x2 x3 x4 x5 ∧ p10 x0 x1 x2 x3 x4 x5 ∧ p11 x0 x1 x2 x3 x4 x5 ∧ p12 x0 x1 x2 x3 x4 x5 ∧ p13 x0 x1 x2 x3 x4 x5 ∧ p14 x0 x1 x2 x3 x4 x5 ∧ p15 x0 x1 x2 x3 x4 x5 ∧ p16 x0 x1 x2 x3 x4 x5 ∧ p17 x0 x1 x2 x3 x4 x5 := ⟨x0, x1, x2, x3, x4, x5, h6, h7, h8, h9, h10, h11, h12, h13, h14, h15, h16, h17⟩
theorem el_EEEEEEEAAAAAAAAA {t0 : Type} {t1 : Type} {t2 : Type} {t3 : Type} {t4 : Type} {t5 : Type} {t6 : Type} {p7 : t0 → t1 → t2 → t3 → t4 → t5 → t6 → Prop} {p8 : t0 → t1 → t2 → t3 → t4 → t5 → t6 → Prop} {p9 : t0 → t1 → t2 → t3 → t4 → t5 → t6 → Prop} {p10 : t0 → t1 → t2 → t3 → t4 → t5 → t6 → Prop} {p11 : t0 → t1 → t2 → t3 → t4 → t5 → t6 → Prop} {p12 : t0 → t1 → t2 → t3 → t4 → t5 → t6 → Prop} {p13 : t0 → t1 → t2 → t3 → t4 → t5 → t6 → Prop} {p14 : t0 → t1 → t2 → t3 → t4 → t5 → t6 → Prop} {p15 : t0 → t1 → t2 → t3 → t4 → t5 → t6 → Prop} {p16 : t0 → t1 → t2 → t3 → t4 → t5 → t6 → Prop} {C : Prop} (k : ∀ x0 : t0, ∀ x1 : t1, ∀ x2 : t2, ∀ x3 : t3, ∀ x4 : t4, ∀ x5 : t5, ∀ x6 : t6, p7 x0 x1 x2 x3 x4 x5 x6 → p8 x0 x1 x2 x3 x4 x5 x6 → p9 x0 x1 x2 x3 x4 x5 x6 → p10 x0 x1 x2 x3 x4 x5 x6 → p11 x0 x1 x2 x3 x4 x5 x6 → p12 x0 x1 x2 x3 x4 x5 x6 → p13 x0 x1 x2 x3 x4 x5 x6 → p14 x0 x1 x2 x3 x4 x5 x6 → p15 x0 x1 x2 x3 x4 x5 x6 → p16 x0 x1 x2 x3 x4 x5 x6 → C) : (∃ x0 : t0, ∃ x1 : t1, ∃ x2 : t2, ∃ x3 : t3, ∃ x4 : t4, ∃ x5 : t5, ∃ x6 : t6, p7 x0 x1 x2 x3 x4 x5 x6 ∧ p8 x0 x1 x2 x3 x4 x5 x6 ∧ p9 x0 x1 x2 x3 x4 x5 x6 ∧ p10 x0 x1 x2 x3 x4 x5 x6 ∧ p11 x0 x1 x2 x3 x4 x5 x6 ∧ p12 x0 x1 x2 x3 x4 x5 x6 ∧ p13 x0 x1 x2 x3 x4 x5 x6 ∧ p14 x0 x1 x2 x3 x4 x5 x6 ∧ p15 x0 x1 x2 x3 x4 x5 x6 ∧ p16 x0 x1 x2 x3 x4 x5 x6) → C := by
  rintro ⟨x0, x1, x2, x3, x4, x5, x6, h7, h8, h9, h10, h11, h12, h13, h14, h15, h16⟩
  exact k x0 x1 x2 x3 x4 x5 x6 h7 h8 h9 h10 h11 h12 h13 h14 h15 h16
theorem mk_EEEEEEEAAAAAAAAA {t0 : Type} {t1 : Type} {t2 : Type} {t3 : Type} {t4 : Type} {t5 : Type} {t6 : Type} {p7 : t0 → t1 → t2 → t3 → t4 → t5 → t6 → Prop} {p8 : t0 → t1 → t2 → t3 → t4 → t5 → t6 → Prop} {p9 : t0 → t1 → t2 → t3 → t4 → t5 → t6 → Prop} {p10 : t0 → t1 → t2 → t3 → t4 → t5 → t6 → Prop} {p11 : t0 → t1 → t2 → t3 → t4 → t5 → t6 → Prop} {p12 : t0 → t1 → t2 → t3 → t4 → t5 → t6 → Prop} {p13 : t0 → t1 → t2 → t3 → t4 → t5 → t6 → Prop} {p14 : t0 → t1 → t2 → t3 → t4 → t5 → t6 → Prop} {p15 : t0 → t1 → t2 → t3 → t4 → t5 → t6 → Prop} {p16 : t0 → t1 → t2 → t3 → t4 → t5 → t6 → Prop} (x0 : t0) (x1 : t1) (x2 : t2) (x3 : t3) (x4 : t4) (x5 : t5) (x6 : t6) (h7 : p7 x0 x1 x2 x3 x4 x5 x6) (h8 : p8 x0 x1 x2 x3 x4 x5 x6) (h9 : p9 x0 x1 x2 x3 x4 x5 x6) (h10 : p10 x0 x1 x2 x3 x4 x5 x6) (h11 : p11 x0 x1 x2 x3 x4 x5 x6) (h12 : p12 x0 x1 x2 x3 x4 x5 x6) (h13 : p13 x0 x1 x2 x3 x4 x5 x6) (h14 : p14 x0 x1 x2 x3 x4 x5 x6) (h15 : p15 x0 x1 x2 x3 x4 x5 x6) (h16 : p16 x0 x1 x2 x3 x4 x5 x6) : ∃ x0 : t0, ∃ x1 : t1, ∃ x2 : t2, ∃ x3 : t3, ∃ x4 : t4, ∃ x5 : t5, ∃ x6 : t6, p7 x0 x1 x2 x3 x4 x5 x6 ∧ p8 x0 x1 x2 x3 x4 x5 x6 ∧ p9 x0 x1 x2 x3 x4 x5 x6 ∧ p10 x0 x1 x2 x3 x4 x5 x6 ∧ p11 x0 x1 x2 x3 x4 x5 x6 ∧ p12 x0 x1 x2 x3 x4 x5 x6 ∧ p13 x0 x1 x2 x3 x4 x5 x6 ∧ p14 x0 x1 x2 x3 x4 x5 x6 ∧ p15 x0 x1 x2 x3 x4 x5 x6 ∧ p16 x0 x1 x2 x3 x4 x5 x6 := ⟨x0, x1, x2, x3, x4, x5, x6, h7, h8, h9, h10, h11, h12, h13, h14, h15, h16⟩
theorem el_EEEEEEEAAAAAAAAAA {t0 : Type} {t1 : Type} {t2 : Type} {t3 : Type} {t4 : Type} {t5 : Type} {t6 : Type} {p7 : t0 → t1 → t2 → t3 → t4 → t5 → t6 → Prop} {p8 : t0 → t1 → t2 → t3 → t4 → t5 → t6 → Prop} {p9 : t0 → t1 → t2 → t3 → t4 → t5 → t6 → Prop} {p10 : t0 → t1 → t2 → t3 → t4 → t5 → t6 → Prop} {p11 : t0 → t1 → t2 → t3 → t4 → t5 → t6 → Prop} {p12 : t0 → t1 → t2 → t3 → t4 → t5 → t6 → Prop} {p13 : t0 → t1 → t2 → t3 → t4 → t5 → t6 → Prop} {p14 : t0 → t1 → t2 → t3 → t4 → t5 → t6 → Prop} {p15 : t0 → t1 → t2 → t3 → t4 → t5 → t6 → Prop} {p16 : t0 → t1 → t2 → t3 → t4 → t5 → t6 → Prop} {p17 : t0 → t1 → t2 → t3 → t4 → t5 → t6 → Prop} {C : Prop} (k : ∀ x0 : t0, ∀ x1 : t1, ∀ x2 : t2, ∀ x3 : t3, ∀ x4 : t4, ∀ x5 : t5, ∀ x6 : t6, p7 x0 x1 x2 x3 x4 x5 x6 → p8 x0 x1 x2 x3 x4 x5 x6 → p9 x0 x1 x2 x3 x4 x5 x6 → p10 x0 x1 x2 x3 x4 x5 x6 → p11 x0 x1 x2 x3 x4 x5 x6 → p12 x0 x1 x2 x3 x4 x5 x6 → p13 x0 x1 x2 x3 x4 x5 x6 → p14 x0 x1 x2 x3 x4 x5 x6 → p15 x0 x1 x2 x3 x4 x5 x6 → p16 x0 x1 x2 x3 x4 x5 x6 → p17 x0 x1 x2 x3 x4 x5 x6 → C) : (∃ x0 : t0, ∃ x1 : t1, ∃ x2 : t2, ∃ x3 : t3, ∃ x4 : t4, ∃ x5 : t5, ∃ x6 : t6, p7 x0 x1 x2 x3 x4 x5 x6 ∧ p8 x0 x1 x2 x3 x4 x5 x6 ∧ p9 x0 x1 x2 x3 x4 x5 x6 ∧ p10 x0 x1 x2 x3 x4 x5 x6 ∧ p11 x0 x1 x2 x3 x4 x5 x6 ∧ p12 x0 x1 x2 x3 x4 x5 x6 ∧ p13 x0 x1 x2 x3 x4 x5 x6 ∧ p14 x0 x1 x2 x3 x4 x5 x6 ∧ p15 x0 x1 x2 x3 x4 x5 x6 ∧ p16 x0 x1 x2 x3 x4 x5 x6 ∧ p17 x0 x1 x2 x3 x4 x5 x6) → C := by
  rintro ⟨x0, x1, x2, x3, x4, x5, x6, h7, h8, h9, h10, h11, h12, h13, h14, h15, h16, h17⟩
  exact k x0 x1 x2 x3 x4 x5 x6 h7 h8 h9 h10 h11 h12 h13 h14 h15 h16 h17
theorem mk_EEEEEEEAAAAAAAAAA {t0 : Type} {t1 : Type} {t2 : Type} {t3 : Type} {t4 : Type} {t5 : Type} {t6 : Type} {p7 : t0 → t1 → t2 → t3 → t4 → t5 → t6 → Prop} {p8 : t0 → t1 → t2 → t3 → t4 → t5 → t6 → Prop} {p9 : t0 → t1 → t2 → t3 → t4 → t5 → t6 → Prop} {p10 : t0 → t1 → t2 → t3 → t4 → t5 → t6 → Prop} {p11 : t0 → t1 → t2 → t3 → t4 → t5 → t6 → Prop} {p12 : t0 → t1 → t2 → t3 → t4 → t5 → t6 → Prop} {p13 : t0 → t1 → t2 → t3 → t4 → t5 → t6 → Prop} {p14 : t0 → t1 → t2 → t3 → t4 → t5 → t6 → Prop} {p15 : t0 → t1 → t2 → t3 → t4 → t5 → t6 → Prop} {p16 : t0 → t1 → t2 → t3 → t4 → t5 → t6 → Prop} {p17 : t0 → t1 → t2 → t3 → t4 → t5 → t6 → Prop} (x0 : t0) (x1 : t1) (x2 : t2) (x3 : t3) (x4 : t4) (x5 : t5) (x6 : t6) (h7 : p7 x0 x1 x2 x3 x4 x5 x6) (h8 : p8 x0 x1 x2 x3 x4 x5 x6) (h9 : p9 x0 x1 x2 x3 x4 x5 x6) (h10 : p10 x0 x1 x2 x3 x4 x5 x6) (h11 : p11 x0 x1 x2 x3 x4 x5 x6) (h12 : p12 x0 x1 x2 x3 x4 x5 x6) (h13 : p13 x0 x1 x2 x3 x4 x5 x6) (h14 : p14 x0 x1 x2 x3 x4 x5 x6) (h15 : p15 x0 x1 x2 x3 x4 x5 x6) (h16 : p16 x0 x1 x2 x3 x4 x5 x6) (h17 : p17 x0 x1 x2 x3 x4 x5 x6) : ∃ x0 : t0, ∃ x1 : t1, ∃ x2 : t2, ∃ x3 : t3, ∃ x4 : t4, ∃ x5 : t5, ∃ x6 : t6, p7 x0 x1 x2 x3 x4 x5 x6 ∧ p8 x0 x1 x2 x3 x4 x5 x6 ∧ p9 x0 x1 x2 x3 x4 x5 x6 ∧ p10 x0 x1 x2 x3 x4 x5 x6 ∧ p11 x0 x1 x2 x3 x4 x5 x6 ∧ p12 x0 x1 x2 x3 x4 x5 x6 ∧ p13 x0 x1 x2 x3 x4 x5 x6 ∧ p14 x0 x1 x2 x3 x4 x5 x6 ∧ p15 x0 x1 x2 x3 x4 x5 x6 ∧ p16 x0 x1 x2 x3 x4 x5 x6 ∧ p17 x0 x1 x2 x3 x4 x5 x6 := ⟨x0, x1, x2, x3, x4, x5, x6, h7, h8, h9, h10, h11, h12, h13, h14, h15, h16, h17⟩
theorem el_EEEEEEEAAAAAAAAAAAAA {t0 : Type} {t1 : Type} {t2 : Type} {t3 : Type} {t4 : Type} {t5 : Type} {t6 : Type} {p7 : t0 → t1 → t2 → t3 → t4 → t5 → t6 → Prop} {p8 : t0 → t1 → t2 → t3 → t4 → t5 → t6 → Prop} {p9 : t0 → t1 → t2 → t3 → t4 → t5 → t6 → Prop} {p10 : t0 → t1 → t2 → t3 → t4 → t5 → t6 → Prop} {p11 : t0 → t1 → t2 → t3 → t4 → t5 → t6 → Prop} {p12 : t0 → t1 → t2 → t3 → t4 → t5 → t6 → Prop} {p13 : t0 → t1 → t2 → t3 → t4 → t5 → t6 → Prop} {p14 : t0 → t1 → t2 → t3 → t4 → t5 → t6 → Prop} {p15 : t0 → t1 → t2 → t3 → t4 → t5 → t6 → Prop} {p16 : t0 → t1 → t2 → t3 → t4 → t5 → t6 → Prop} {p17 : t0 → t1 → t2 → t3 → t4 → t5 → t6 → Prop} {p18 : t0 → t1 → t2 → t3 → t4 → t5 → t6 → Prop} {p19 : t0 → t1 → t2 → t3 → t4 → t5 → t6 → Prop} {p20 : t0 → t1 → t2 → t3 → t4 → t5 → t6 → Prop} {C : Prop} (k : ∀ x0 : t0, ∀ x1 : t1, ∀ x2 : t2, ∀ x3 : t3, ∀ x4 : t4, ∀ x5 : t5, ∀ x6 : t6, p7 x0 x1 x2 x3 x4 x5 x6 → p8 x0 x1 x2 x3 x4 x5 x6 → p9 x0 x1 x2 x3 x4 x5 x6 → p10 x0 x1 x2 x3 x4 x5 x6 → p11 x0 x1 x2 x3 x4 x5 x6 → p12 x0 x1 x2 x3 x4 x5 x6 → p13 x0 x1 x2 x3 x4 x5 x6 → p14 x0 x1 x2 x3 x4 x5 x6 → p15 x0 x1 x2 x3 x4 x5 x6 → p16 x0 x1 x2 x3 x4 x5 x6 → p17 x0 x1 x2 x3 x4 x5 x6 → p18 x0 x1 x2 x3 x4 x5 x6 → p19 x0 x1 x2 x3 x4 x5 x6 → p20 x0 x1 x2 x3 x4 x5 x6 → C) : (∃ x0 : t0, ∃ x1 : t1, ∃ x2 : t2, ∃ x3 : t3, ∃ x4 : t4, ∃ x5 : t5, ∃ x6 : t6, p7 x0 x1 x2 x3 x4 x5 x6 ∧ p8 x0 x1 x2 x3 x4 x5 x6 ∧ p9 x0 x1 x2 x3 x4 x5 x6 ∧ p10 x0 x1 x2 x3 x4 x5 x6 ∧ p11 x0 x1 x2 x3 x4 x5 x6 ∧ p12 x0 x1 x2 x3 x4 x5 x6 ∧ p13 x0 x1 x2 x3 x4 x5 x6 ∧ p14 x0 x1 x2 x3 x4 x5 x6 ∧ p15 x0 x1 x2 x3 x4 x5 x6 ∧ p16 x0 x1 x2 x3 x4 x5 x6 ∧ p17 x0 x1 x2 x3 x4 x5 x6 ∧ p18 x0 x1 x2 x3 x4 x5 x6 ∧ p19 x0 x1 x2 x3 x4 x5 x6 ∧ p20 x0 x1 x2 x3 x4 x5 x6) → C := by
  rintro ⟨x0, x1, x2, x3, x4, x5, x6, h7, h8, h9, h10, h11, h12, h13, h14, h15, h16, h17, h18, h19, h20⟩
  exact k x0 x1 x2 x3 x4 x5 x6 h7 h8 h9 h10 h11 h12 h13 h14 h15 h16 h17 h18 h19 h20
theorem mk_EEEEEEEAAAAAAAAAAAAA {t0 : Type} {t1 : Type} {t2 : Type} {t3 : Type} {t4 : Type} {t5 : Type} {t6 : Type} {p7 : t0 → t1 → t2 → t3 → t4 → t5 → t6 → Prop} {p8 : t0 → t1 → t2 → t3 → t4 → t5 → t6 → Prop} {p9 : t0 → t1 → t2 → t3 → t4 → t5 → t6 → Prop} {p10 : t0 → t1 → t2 → t3 → t4 → t5 → t6 → Prop} {p11 : t0 → t1 → t2 → t3 → t4 → t5 → t6 → Prop} {p12 : t0 → t1 → t2 → t3 → t4 → t5 → t6 → Prop} {p13 : t0 → t1 → t2 → t3 → t4 → t5 → t6 → Prop} {p14 : t0 → t1 → t2 → t3 → t4 → t5 → t6 → Prop} {p15 : t0 → t1 → t2 → t3 → t4 → t5 → t6 → Prop} {p16 : t0 → t1 → t2 → t3 → t4 → t5 → t6 → Prop} {p17 : t0 → t1 → t2 → t3 → t4 → t5 → t6 → Prop} {p18 : t0 → t1 → t2 → t3 → t4 → t5 → t6 → Prop} {p19 : t0 → t1 → t2 → t3 → t4 → t5 → t6 → Prop} {p20 : t0 → t1 → t2 → t3 → t4 → t5 → t6 → Prop} (x0 : t0) (x1 : t1) (x2 : t2) (x3 : t3) (x4 : t4) (x5 : t5) (x6 : t6) (h7 : p7 x0 x1 x2 x3 x4 x5 x6) (h8 : p8 x0 x1 x2 x3 x4 x5 x6) (h9 : p9 x0 x1 x2 x3 x4 x5 x6) (h10 : p10 x0 x1 x2 x3 x4 x5 x6) (h11 : p11 x0 x1 x2 x3 x4 x5 x6) (h12 : p12 x0 x1 x2 x3 x4 x5 x6) (h13 : p13 x0 x1 x2 x3 x4 x5 x6) (h14 : p14 x0 x1 x2 x3 x4 x5 x6) (h15 : p15 x0 x1 x2 x3 x4 x5 x6) (h16 : p16 x0 x1 x2 x3 x4 x5 x6) (h17 : p17 x0 x1 x2 x3 x4 x5 x6) (h18 : p18 x0 x1 x2 x3 x4 x5 x6) (h19 : p19 x0 x1 x2 x3 x4 x5 x6) (h20 : p20 x0 x1 x2 x3 x4 x5 x6) : ∃ x0 : t0, ∃ x1 : t1, ∃ x2 : t2, ∃ x3 : t3, ∃ x4 : t4, ∃ x5 : t5, ∃ x6 : t6, p7 x0 x1 x2 x3 x4 x5 x6 ∧ p8 x0 x1 x2 x3 x4 x5 x6 ∧ p9 x0 x1 x2 x3 x4 x5 x6 ∧ p10 x0 x1 x2 x3 x4 x5 x6 ∧ p11 x0 x1 x2 x3 x4 x5 x6 ∧ p12 x0 x1 x2 x3 x4 x5 x6 ∧ p13 x0 x1 x2 x3 x4 x5 x6 ∧ p14 x0 x1 x2 x3 x4 x5 x6 ∧ p15 x0 x1 x2 x3 x4 x5 x6 ∧ p16 x0 x1 x2 x3 x4 x5 x6 ∧ p17 x0 x1 x2 x3 x4 x5 x6 ∧ p18 x0 x1 x2 x3 x4 x5 x6 ∧ p19 x0 x1 x2 x3 x4 x5 x6 ∧ p20 x0 x1 x2 x3 x4 x5 x6 := ⟨x0, x1, x2, x3, x4, x5, x6, h7, h8, h9, h10, h11, h12, h13, h14, h15, h16, h17, h18, h19, h20⟩
theorem el_EEEEEEEEAAAAAAAAA {t0 : Type} {t1 : Type} {t2 : Type} {t3 : Type} {t4 : Type} {t5 : Type} {t6 : Type} {t7 : Type} {p8 : t0 → t1 → t2 → t3 → t4 → t5 → t6 → t7 → Prop} {p9 : t0 → t1 → t2 → t3 → t4 → t5 → t6 → t7 → Prop} {p10 : t0 → t1 → t2 → t3 → t4 → t5 → t6 → t7 → Prop} {p11 : t0 → t1 → t2 → t3 → t4 → t5 → t6 → t7 → Prop} {p12 : t0 → t1 → t2 → t3 → t4 → t5 → t6 → t7 → Prop} {p13 : t0 → t1 → t2 → t3 → t4 → t5 → t6 → t7 → Prop} {p14 : t0 → t1 → t2 → t3 → t4 → t5 → t6 → t7 → Prop} {p15 : t0 → t1 → t2 → t3 → t4 → t5 → t6 → t7 → Prop} {p16 : t0 → t1 → t2 → t3 → t4 → t5 → t6 → t7 → Prop} {p17 : t0 → t1 → t2 → t3 → t4 → t5 → t6 → t7 → Prop} {C : Prop} (k : ∀ x0 : t0, ∀ x1 : t1, ∀ x2 : t2, ∀ x3 : t3, ∀ x4 : t4, ∀ x5 : t5, ∀ x6 : t6, ∀ x7 : t7, p8 x0 x1 x2 x3 x4 x5 x6 x7 → p9 x0 x1 x2 x3 x4 x5 x6 x7 → p10 x0 x1 x2 x3 x4 x5 x6 x7 → p11 x0 x1 x2 x3 x4 x5 x6 x7 → p12 x0 x1 x2 x3 x4 x5 x6 x7 → p13 x0 x1 x2 x3 x4 x5 x6 x7 → p14 x0 x1 x2 x3 x4 x5 x6 x7 → p15 x0 x1 x2 x3 x4 x5 x6 x7 → p16 x0 x1 x2 x3 x4 x5 x6 x7 → p17 x0 x1 x2 x3 x4 x5 x6 x7 → C) : (∃ x0 : t0, ∃ x1 : t1, ∃ x2 : t2, ∃ x3 : t3, ∃ x4 : t4, ∃ x5 : t5, ∃ x6 : t6, ∃ x7 : t7, p8 x0 x1 x2 x3 x4 x5 x6 x7 ∧ p9 x0 x1 x2 x3 x4 x5 x6 x7 ∧ p10 x0 x1 x2 x3 x4 x5 x6 x7 ∧ p11 x0 x1 x2 x3 x4 x5 x6 x7 ∧ p12 x0 x1 x2 x3 x4 x5 x6 x7 ∧ p13 x0 x1 x2 x3 x4 x5 x6 x7 ∧ p14 x0 x1 x2 x3 x4 x5 x6 x7 ∧ p15 x0 x1 x2 x3 x4 x5 x6 x7 ∧ p16 x0 x1 x2 x3 x4 x5 x6 x7 ∧ p17 x0 x1 x2 x3 x4 x5 x6 x7) → C := by
  rintro ⟨x0, x1, x2, x3, x4, x5, x6, x7, h8, h9, h10, h11, h12, h13, h14, h15, h16, h17⟩
  exact k x0 x1 x2 x3 x4 x5 x6 x7 h8 h9 h10 h11 h12 h13 h14 h15 h16 h17
theorem mk_EEEEEEEEAAAAAAAAA {t0 : Type} {t1 : Type} {t2 : Type} {t3 : Type} {t4 : Type} {t5 : Type} {t6 : Type} {t7 : Type} {p8 : t0 → t1 → t2 → t3 → t4 → t5 → t6 → t7 → Prop} {p9 : t0 → t1 → t2 → t3 → t4 → t5 → t6 → t7 → Prop} {p10 : t0 → t1 → t2 → t3 → t4 → t5 → t6 → t7 → Prop} {p11 : t0 → t1 → t2 → t3 → t4 → t5 → t6 → t7 → Prop} {p12 : t0 → t1 → t2 → t3 → t4 → t5 → t6 → t7 → Prop} {p13 : t0 → t1 → t2 → t3 → t4 → t5 → t6 → t7 → Prop} {p14 : t0 → t1 → t2 → t3 → t4 → t5 → t6 → t7 → Prop} {p15 : t0 → t1 → t2 → t3 → t4 → t5 → t6 → t7 → Prop} {p16 : t0 → t1 → t2 → t3 → t4 → t5 → t6 → t7 → Prop} {p17 : t0 → t1 → t2 → t3 → t4 → t5 → t6 → t7 → Prop} (x0 : t0) (x1 : t1) (x2 : t2) (x3 : t3) (x4 : t4) (x5 : t5) (x6 : t6) (x7 : t7) (h8 : p8 x0 x1 x2 x3 x4 x5 x6 x7) (h9 : p9 x0 x1 x2 x3 x4 x5 x6 x7) (h10 : p10 x0 x1 x2 x3 x4 x5 x6 x7) (h11 : p11 x0 x1 x2 x3 x4 x5 x6 x7) (h12 : p12 x0 x1 x2 x3 x4 x5 x6 x7) (h13 : p13 x0 x1 x2 x3 x4 x5 x6 x7) (h14 : p14 x0 x1 x2 x3 x4 x5 x6 x7) (h15 : p15 x0 x1 x2 x3 x4 x5 x6 x7) (h16 : p16 x0 x1 x2 x3 x4 x5 x6 x7) (h17 : p17 x0 x1 x2 x3 x4 x5 x6 x7) : ∃ x0 : t0, ∃ x1 : t1, ∃ x2 : t2, ∃ x3 : t3, ∃ x4 : t4, ∃ x5 : t5, ∃ x6 : t6, ∃ x7 : t7, p8 x0 x1 x2 x3 x4 x5 x6 x7 ∧ p9 x0 x1 x2 x3 x4 x5 x6 x7 ∧ p10 x0 x1 x2 x3 x4 x5 x6 x7 ∧ p11 x0 x1 x2 x3 x4 x5 x6 x7 ∧ p12 x0 x1 x2 x3 x4 x5 x6 x7 ∧ p13 x0 x1 x2 x3 x4 x5 x6 x7 ∧ p14 x0 x1 x2 x3 x4 x5 x6 x7 ∧ p15 x0 x1 x2 x3 x4 x5 x6 x7 ∧ p16 x0 x1 x2 x3 x4 x5 x6 x7 ∧ p17 x0 x1 x2 x3 x4 x5 x6 x7 := ⟨x0, x1, x2, x3, x4, x5, x6, x7, h8, h9, h10, h11, h12, h13, h14, h15, h16, h17⟩
theorem el_EEEEEEEEAAAAAAAAAAA {t0 : Type} {t1 : Type} {t2 : Type} {t3 : Type} {t4 : Type} {t5 : Type} {t6 : Type} {t7 : Type} {p8 : t0 → t1 → t2 → t3 → t4 → t5 → t6 → t7 → Prop} {p9 : t0 → t1 → t2 → t3 → t4 → t5 → t6 → t7 → Prop} {p10 : t0 → t1 → t2 → t3 → t4 → t5 → t6 → t7 → Prop} {p11 : t0 → t1 → t2 → t3 → t4 → t5 → t6 → t7 → Prop} {p12 : t0 → t1 → t2 → t3 → t4 → t5 → t6 → t7 → Prop} {p13 : t0 → t1 → t2 → t3 → t4 → t5 → t6 → t7 → Prop} {p14 : t0 → t1 → t2 → t3 → t4 → t5 → t6 → t7 → Prop} {p15 : t0 → t1 → t2 → t3 → t4 → t5 → t6 → t7 → Prop} {p16 : t0 → t1 → t2 → t3 → t4 → t5 → t6 → t7 → Prop} {p17 : t0 → t1 → t2 → t3 → t4 → t5 → t6 → t7 → Prop} {p18 : t0 → t1 → t2 → t3 → t4 → t5 → t6 → t7 → Prop} {p19 : t0 → t1 → t2 → t3 → t4 → t5 → t6 → t7 → Prop} {C : Prop} (k : ∀ x0 : t0, ∀ x1 : t1, ∀ x2 : t2, ∀ x3 : t3, ∀ x4 : t4, ∀ x5 : t5, ∀ x6 : t6, ∀ x7 : t7, p8 x0 x1 x2 x3 x4 x5 x6 x7 → p9 x0 x1 x2 x3 x4 x5 x6 x7 → p10 x0 x1 x2 x3 x4 x5 x6 x7 → p11 x0 x1 x2 x3 x4 x5 x6 x7 → p12 x0 x1 x2 x3 x4 x5 x6 x7 → p13 x0 x1 x2 x3 x4 x5 x6 x7 → p14 x0 x1 x2 x3 x4 x5 x6 x7 → p15 x0 x1 x2 x3 x4 x5 x6 x7 → p16 x0 x1 x2 x3 x4 x5 x6 x7 → p17 x0 x1 x2 x3 x4 x5 x6 x7 → p18 x0 x1 x2 x3 x4 x5 x6 x7 → p19 x0 x1 x2 x3 x4 x5 x6 x7 → C) : (∃ x0 : t0, ∃ x1 : t1, ∃ x2 : t2, ∃ x3 : t3, ∃ x4 : t4, ∃ x5 : t5, ∃ x6 : t6, ∃ x7 : t7, p8 x0 x1 x2 x3 x4 x5 x6 x7 ∧ p9 x0 x1 x2 x3 x4 x5 x6 x7 ∧ p10 x0 x1 x2 x3 x4 x5 x6 x7 ∧ p11 x0 x1 x2 x3 x4 x5 x6 x7 ∧ p12 x0 x1 x2 x3 x4 x5 x6 x7 ∧ p13 x0 x1 x2 x3 x4 x5 x6 x7 ∧ p14 x0 x1 x2 x3 x4 x5 x6 x7 ∧ p15 x0 x1 x2 x3 x4 x5 x6 x7 ∧ p16 x0 x1 x2 x3 x4 x5 x6 x7 ∧ p17 x0 x1 x2 x3 x4 x5 x6 x7 ∧ p18 x0 x1 x2 x3 x4 x5 x6 x7 ∧ p19 x0 x1 x2 x3 x4 x5 x6 x7) → C := by
  rintro ⟨x0, x1, x2, x3, x4, x5, x6, x7, h8, h9, h10, h11, h12, h13, h14, h15, h16, h17, h18, h19⟩
  exact k x0 x1 x2 x3 x4 x5 x6 x7 h8 h9 h10 h11 h12 h13 h14 h15 h16 h17 h18 h19
theorem mk_EEEEEEEEAAAAAAAAAAA {t0 : Type} {t1 : Type} {t2 : Type} {t3 : Type} {t4 : Type} {t5 : Type} {t6 : Type} {t7 : Type} {p8 : t0 → t1 → t2 → t3 → t4 → t5 → t6 → t7 → Prop} {p9 : t0 → t1 → t2 → t3 → t4 → t5 → t6 → t7 → Prop} {p10 : t0 → t1 → t2 → t3 → t4 → t5 → t6 → t7 → Prop} {p11 : t0 → t1 → t2 → t3 → t4 → t5 → t6 → t7 → Prop} {p12 : t0 → t1 → t2 → t3 → t4 → t5 → t6 → t7 → Prop} {p13 : t0 → t1 → t2 → t3 → t4 → t5 → t6 → t7 → Prop} {p14 : t0 → t1 → t2 → t3 → t4 → t5 → t6 → t7 → Prop} {p15 : t0 → t1 → t2 → t3 → t4 → t5 → t6 → t7 → Prop} {p16 : t0 → t1 → t2 → t3 → t4 → t5 → t6 → t7 → Prop} {p17 : t0 → t1 → t2 → t3 → t4 → t5 → t6 → t7 → Prop} {p18 : t0 → t1 → t2 → t3 → t4 → t5 → t6 → t7 → Prop} {p19 : t0 → t1 → t2 → t3 → t4 → t5 → t6 → t7 → Prop} (x0 : t0) (x1 : t1) (x2 : t2) (x3 : t3) (x4 : t4) (x5 : t5) (x6 : t6) (x7 : t7) (h8 : p8 x0 x1 x2 x3 x4 x5 x6 x7) (h9 : p9 x0 x1 x2 x3 x4 x5 x6 x7) (h10 : p10 x0 x1 x2 x3 x4 x5 x6 x7) (h11 : p11 x0 x1 x2 x3 x4 x5 x6 x7) (h12 : p12 x0 x1 x2 x3 x4 x5 x6 x7) (h13 : p13 x0 x1 x2 x3 x4 x5 x6 x7) (h14 : p14 x0 x1 x2 x3 x4 x5 x6 x7) (h15 : p15 x0 x1 x2 x3 x4 x5 x6 x7) (h16 : p16 x0 x1 x2 x3 x4 x5 x6 x7) (h17 : p17 x0 x1 x2 x3 x4 x5 x6 x7) (h18 : p18 x0 x1 x2 x3 x4 x5 x6 x7) (h19 : p19 x0 x1 x2 x3 x4 x5 x6 x7) : ∃ x0 : t0, ∃ x1 : t1, ∃ x2 : t2, ∃ x3 : t3, ∃ x4 : t4, ∃ x5 : t5, ∃ x6 : t6, ∃ x7 : t7, p8 x0 x1 x2 x3 x4 x5 x6 x7 ∧ p9 x0 x1 x2 x3 x4 x5 x6 x7 ∧ p10 x0 x1 x2 x3 x4 x5 x6 x7 ∧ p11 x0 x1 x2 x3 x4 x5 x6 x7 ∧ p12 x0 x1 x2 x3 x4 x5 x6 x7 ∧ p13 x0 x1 x2 x3 x4 x5 x6 x7 ∧ p14 x0 x1 x2 x3 x4 x5 x6 x7 ∧ p15 x0 x1 x2 x3 x4 x5 x6 x7 ∧ p16 x0 x1 x2 x3 x4 x5 x6 x7 ∧ p17 x0 x1 x2 x3 x4 x5 x6 x7 ∧ p18 x0 x1 x2 x3 x4 x5 x6 x7 ∧ p19 x0 x1 x2 x3 x4 x5 x6 x7 := ⟨x0, x1, x2, x3, x4, x5, x6, x7, h8, h9, h10, h11, h12, h13, h14, h15, h16, h17, h18, h19⟩
theorem el_EEEEEEEEEA {t0 : Type} {t1 : Type} {t2 : Type} {t3 : Type} {t4 : Type} {t5 : Type} {t6 : Type} {t7 : Type} {t8 : Type} {p9 : t0 → t1 → t2 → t3 → t4 → t5 → t6 → t7 → t8 → Prop} {p10 : t0 → t1 → t2 → t3 → t4 → t5 → t6 → t7 → t8 → Prop} {C : Prop} (k : ∀ x0 : t0, ∀ x1 : t1, ∀ x2 : t2, ∀ x3 : t3, ∀ x4 : t4, ∀ x5 : t5, ∀ x6 : t6, ∀ x7 : t7, ∀ x8 : t8, p9 x0 x1 x2 x3 x4 x5 x6 x7 x8 → p10 x0 x1 x2 x3 x4 x5 x6 x7 x8 → C) : (∃ x0 : t0, ∃ x1 : t1, ∃ x2 : t2, ∃ x3 : t3, ∃ x4 : t4, ∃ x5 : t5, ∃ x6 : t6, ∃ x7 : t7, ∃ x8 : t8, p9 x0 x1 x2 x3 x4 x5 x6 x7 x8 ∧ p10 x0 x1 x2 x3 x4 x5 x6 x7 x8) → C := by
  rintro ⟨x0, x1, x2, x3, x4, x5, x6, x7, x8, h9, h10⟩
  exact k x0 x1 x2 x3 x4 x5 x6 x7 x8 h9 h10
theorem el_EEEEEEEEEAA {t0 : Type} {t1 : Type} {t2 : Type} {t3 : Type} {t4 : Type} {t5 : Type} {t6 : Type} {t7 : Type} {t8 : Type} {p9 : t0 → t1 → t2 → t3 → t4 → t5 → t6 → t7 → t8 → Prop} {p10 : t0 → t1 → t2 → t3 → t4 → t5 → t6 → t7 → t8 → Prop} {p11 : t0 → t1 → t2 → t3 → t4 → t5 → t6 → t7 → t8 → Prop} {C : Prop} (k : ∀ x0 : t0, ∀ x1 : t1, ∀ x2 : t2, ∀ x3 : t3, ∀ x4 : t4, ∀ x5 : t5, ∀ x6 : t6, ∀ x7 : t7, ∀ x8 : t8, p9 x0 x1 x2 x3 x4 x5 x6 x7 x8 → p10 x0 x1 x2 x3 x4 x5 x6 x7 x8 → p11 x0 x1 x2 x3 x4 x5 x6 x7 x8 → C) : (∃ x0 : t0, ∃ x1 : t1, ∃ x2 : t2, ∃ x3 : t3, ∃ x4 : t4, ∃ x5 : t5, ∃ x6 : t6, ∃ x7 : t7, ∃ x8 : t8, p9 x0 x1 x2 x3 x4 x5 x6 x7 x8 ∧ p10 x0 x1 x2 x3 x4 x5 x6 x7 x8 ∧ p11 x0 x1 x2 x3 x4 x5 x6 x7 x8) → C := by
  rintro ⟨x0, x1, x2, x3, x4, x5, x6, x7, x8, h9, h10, h11⟩
  exact k x0 x1 x2 x3 x4 x5 x6 x7 x8 h9 h10 h11
theorem mk_EEEEEEEEEAA {t0 : Type} {t1 : Type} {t2 : Type} {t3 : Type} {t4 : Type} {t5 : Type} {t6 : Type} {t7 : Type} {t8 : Type} {p9 : t0 → t1 → t2 → t3 → t4 → t5 → t6 → t7 → t8 → Prop} {p10 : t0 → t1 → t2 → t3 → t4 → t5 → t6 → t7 → t8 → Prop} {p11 : t0 → t1 → t2 → t3 → t4 → t5 → t6 → t7 → t8 → Prop} (x0 : t0) (x1 : t1) (x2 : t2) (x3 : t3) (x4 : t4) (x5 : t5) (x6 : t6) (x7 : t7) (x8 : t8) (h9 : p9 x0 x1 x2 x3 x4 x5 x6 x7 x8) (h10 : p10 x0 x1 x2 x3 x4 x5 x6 x7 x8) (h11 : p11 x0 x1 x2 x3 x4 x5 x6 x7 x8) : ∃ x0 : t0, ∃ x1 : t1, ∃ x2 : t2, ∃ x3 : t3, ∃ x4 : t4, ∃ x5 : t5, ∃ x6 : t6, ∃ x7 : t7, ∃ x8 : t8, p9 x0 x1 x2 x3 x4 x5 x6 x7 x8 ∧ p10 x0 x1 x2 x3 x4 x5 x6 x7 x8 ∧ p11 x0 x1 x2 x3 x4 x5 x6 x7 x8 := ⟨x0, x1, x2, x3, x4, x5, x6, x7, x8, h9, h10, h11⟩
theorem el_EEEEEEEEEEAA {t0 : Type} {t1 : Type} {t2 : Type} {t3 : Type} {t4 : Type} {t5 : Type} {t6 : Type} {t7 : Type} {t8 : Type} {t9 : Type} {p10 : t0 → t1 → t2 → t3 → t4 → t5 → t6 → t7 → t8 → t9 → Prop} {p11 : t0 → t1 → t2 → t3 → t4 → t5 → t6 → t7 → t8 → t9 → Prop} {p12 : t0 → t1 → t2 → t3 → t4 → t5 → t6 → t7 → t8 → t9 → Prop} {C : Prop} (k : ∀ x0 : t0, ∀ x1 : t1, ∀ x2 : t2, ∀ x3 : t3, ∀ x4 : t4, ∀ x5 : t5, ∀ x6 : t6, ∀ x7 : t7, ∀ x8 : t8, ∀ x9 : t9, p10 x0 x1 x2 x3 x4 x5 x6 x7 x8 x9 → p11 x0 x1 x2 x3 x4 x5 x6 x7 x8 x9 → p12 x0 x1 x2 x3 x4 x5 x6 x7 x8 x9 → C) : (∃ x0 : t0, ∃ x1 : t1, ∃ x2 : t2, ∃ x3 : t3, ∃ x4 : t4, ∃ x5 : t5, ∃ x6 : t6, ∃ x7 : t7, ∃ x8 : t8, ∃ x9 : t9, p10 x0 x1 x2 x3 x4 x5 x6 x7 x8 x9 ∧ p11 x0 x1 x2 x3 x4 x5 x6 x7 x8 x9 ∧ p12 x0 x1 x2 x3 x4 x5 x6 x7 x8 x9) → C := by
  rintro ⟨x0, x1, x2, x3, x4, x5, x6, x7, x8, x9, h10, h11, h12⟩
  exact k x0 x1 x2 x3 x4 x5 x6 x7 x8 x9 h10 h11 h12
theorem mk_EEEEEEEEEEAA {t0 : Type} {t1 : Type} {t2 : Type} {t3 : Type} {t4 : Type} {t5 : Type} {t6 : Type} {t7 : Type} {t8 : Type} {t9 : Type} {p10 : t0 → t1 → t2 → t3 → t4 → t5 → t6 → t7 → t8 → t9 → Prop} {p11 : t0 → t1 → t2 → t3 → t4 → t5 → t6 → t7 → t8 → t9 → Prop} {p12 : t0 → t1 → t2 → t3 → t4 → t5 → t6 → t7 → t8 → t9 → Prop} (x0 : t0) (x1 : t1) (x2 : t2) (x3 : t3) (x4 : t4) (x5 : t5) (x6 : t6) (x7 : t7) (x8 : t8) (x9 : t9) (h10 : p10 x0 x1 x2 x3 x4 x5 x6 x7 x8 x9) (h11 : p11 x0 x1 x2 x3 x4 x5 x6 x7 x8 x9) (h12 : p12 x0 x1 x2 x3 x4 x5 x6 x7 x8 x9) : ∃ x0 : t0, ∃ x1 : t1, ∃ x2 : t2, ∃ x3 : t3, ∃ x4 : t4, ∃ x5 : t5, ∃ x6 : t6, ∃ x7 : t7, ∃ x8 : t8, ∃ x9 : t9, p10 x0 x1 x2 x3 x4 x5 x6 x7 x8 x9 ∧ p11 x0 x1 x2 x3 x4 x5 x6 x7 x8 x9 ∧ p12 x0 x1 x2 x3 x4 x5 x6 x7 x8 x9 := ⟨x0, x1, x2, x3, x4, x5, x6, x7, x8, x9, h10, h11, h12⟩
theorem el_EEEEEEEEEEAAAAAAA {t0 : Type} {t1 : Type} {t2 : Type} {t3 : Type} {t4 : Type} {t5 : Type} {t6 : Type} {t7 : Type} {t8 : Type} {t9 : Type} {p10 : t0 → t1 → t2 → t3 → t4 → t5 → t6 → t7 → t8 → t9 → Prop} {p11 : t0 → t1 → t2 → t3 → t4 → t5 → t6 → t7 → t8 → t9 → Prop} {p12 : t0 → t1 → t2 → t3 → t4 → t5 → t6 → t7 → t8 → t9 → Prop} {p13 : t0 → t1 → t2 → t3 → t4 → t5 → t6 → t7 → t8 → t9 → Prop} {p14 : t0 → t1 → t2 → t3 → t4 → t5 → t6 → t7 → t8 → t9 → Prop} {p15 : t0 → t1 → t2 → t3 → t4 → t5 → t6 → t7 → t8 → t9 → Prop} {p16 : t0 → t1 → t2 → t3 → t4 → t5 → t6 → t7 → t8 → t9 → Prop} {p17 : t0 → t1 → t2 → t3 → t4 → t5 → t6 → t7 → t8 → t9 → Prop} {C : Prop} (k : ∀ x0 : t0, ∀ x1 : t1, ∀ x2 : t2, ∀ x3 : t3, ∀ x4 : t4, ∀ x5 : t5, ∀ x6 : t6, ∀ x7 : t7, ∀ x8 : t8, ∀ x9 : t9, p10 x0 x1 x2 x3 x4 x5 x6 x7 x8 x9 → p11 x0 x1 x2 x3 x4 x5 x6 x7 x8 x9 → p12 x0 x1 x2 x3 x4 x5 x6 x7 x8 x9 → p13 x0 x1 x2 x3 x4 x5 x6 x7 x8 x9 → p14 x0 x1 x2 x3 x4 x5 x6 x7 x8 x9 → p15 x0 x1 x2 x3 x4 x5 x6 x7 x8 x9 → p16 x0 x1 x2 x3 x4 x5 x6 x7 x8 x9 → p17 x0 x1 x2 x3 x4 x5 x6 x7 x8 x9 → C) : (∃ x0 : t0, ∃ x1 : t1, ∃ x2 : t2, ∃ x3 : t3, ∃ x4 : t4, ∃ x5 : t5, ∃ x6 : t6, ∃ x7 : t7, ∃ x8 : t8, ∃ x9 : t9, p10 x0 x1 x2 x3 x4 x5 x6 x7 x8 x9 ∧ p11 x0 x1 x2 x3 x4 x5 x6 x7 x8 x9 ∧ p12 x0 x1 x2 x3 x4 x5 x6 x7 x8 x9 ∧ p13 x0 x1 x2 x3 x4 x5 x6 x7 x8 x9 ∧ p14 x0 x1 x2 x3 x4 x5 x6 x7 x8 x9 ∧ p15 x0 x1 x2 x3 x4 x5 x6 x7 x8 x9 ∧ p16 x0 x1 x2 x3 x4 x5 x6 x7 x8 x9 ∧ p17 x0 x1 x2 x3 x4 x5 x6 x7 x8 x9) → C := by
  rintro ⟨x0, x1, x2, x3, x4, x5, x6, x7, x8, x9, h10, h11, h12, h13, h14, h15, h16, h17⟩
  exact k x0 x1 x2 x3 x4 x5 x6 x7 x8 x9 h10 h11 h12 h13 h14 h15 h16 h17
theorem mk_EEEEEEEEEEAAAAAAA {t0 : Type} {t1 : Type} {t2 : Type} {t3 : Type} {t4 : Type} {t5 : Type} {t6 : Type} {t7 : Type} {t8 : Type} {t9 : Type} {p10 : t0 → t1 → t2 → t3 → t4 → t5 → t6 → t7 → t8 → t9 → Prop} {p11 : t0 → t1 → t2 → t3 → t4 → t5 → t6 → t7 → t8 → t9 → Prop} {p12 : t0 → t1 → t2 → t3 → t4 → t5 → t6 → t7 → t8 → t9 → Prop} {p13 : t0 → t1 → t2 → t3 → t4 → t5 → t6 → t7 → t8 → t9 → Prop} {p14 : t0 → t1 → t2 → t3 → t4 → t5 → t6 → t7 → t8 → t9 → Prop} {p15 : t0 → t1 → t2 → t3 → t4 → t5 → t6 → t7 → t8 → t9 → Prop} {p16 : t0 → t1 → t2 → t3 → t4 → t5 → t6 → t7 → t8 → t9 → Prop} {p17 : t0 → t1 → t2 → t3 → t4 → t5 → t6 → t7 → t8 → t9 → Prop} (x0 : t0) (x1 : t1) (x2 : t2) (x3 : t3) (x4 : t4) (x5 : t5) (x6 : t6) (x7 : t7) (x8 : t8) (x9 : t9) (h10 : p10 x0 x1 x2 x3 x4 x5 x6 x7 x8 x9) (h11 : p11 x0 x1 x2 x3 x4 x5 x6 x7 x8 x9) (h12 : p12 x0 x1 x2 x3 x4 x5 x6 x7 x8 x9) (h13 : p13 x0 x1 x2 x3 x4 x5 x6 x7 x8 x9) (h14 : p14 x0 x1 x2 x3 x4 x5 x6 x7 x8 x9) (h15 : p15 x0 x1 x2 x3 x4 x5 x6 x7 x8 x9) (h16 : p16 x0 x1 x2 x3 x4 x5 x6 x7 x8 x9) (h17 : p17 x0 x1 x2 x3 x4 x5 x6 x7 x8 x9) : ∃ x0 : t0, ∃ x1 : t1, ∃ x2 : t2, ∃ x3 : t3, ∃ x4 : t4, ∃ x5 : t5, ∃ x6 : t6, ∃ x7 : t7, ∃ x8 : t8, ∃ x9 : t9, p10 x0 x1 x2 x3 x4 x5 x6 x7 x8 x9 ∧ p11 x0 x1 x2 x3 x4 x5 x6 x7 x8 x9 ∧ p12 x0 x1 x2 x3 x4 x5 x6 x7 x8 x9 ∧ p13 x0 x1 x2 x3 x4 x5 x6 x7 x8 x9 ∧ p14 x0 x1 x2 x3 x4 x5 x6 x7 x8 x9 ∧ p15 x0 x1 x2 x3 x4 x5 x6 x7 x8 x9 ∧ p16 x0 x1 x2 x3 x4 x5 x6 x7 x8 x9 ∧ p17 x0 x1 x2 x3 x4 x5 x6 x7 x8 x9 := ⟨x0, x1, x2, x3, x4, x5, x6, x7, x8, x9, h10, h11, h12, h13, h14, h15, h16, h17⟩
theorem el_EEEEEEEEEEEEEEEEEEAA {t0 : Type} {t1 : Type} {t2 : Type} {t3 : Type} {t4 : Type} {t5 : Type} {t6 : Type} {t7 : Type} {t8 : Type} {t9 : Type} {t10 : Type} {t11 : Type} {t12 : Type} {t13 : Type} {t14 : Type} {t15 : Type} {t16 : Type} {t17 : Type} {p18 : t0 → t1 → t2 → t3 → t4 → t5 → t6 → t7 → t8 → t9 → t10 → t11 → t12 → t13 → t14 → t15 → t16 → t17 → Prop} {p19 : t0 → t1 → t2 → t3 → t4 → t5 → t6 → t7 → t8 → t9 → t10 → t11 → t12 → t13 → t14 → t15 → t16 → t17 → Prop} {p20 : t0 → t1 → t2 → t3 → t4 → t5 → t6 → t7 → t8 → t9 → t10 → t11 → t12 → t13 → t14 → t15 → t16 → t17 → Prop} {C : Prop} (k : ∀ x0 : t0, ∀ x1 : t1, ∀ x2 : t2, ∀ x3 : t3, ∀ x4 : t4, ∀ x5 : t5, ∀ x6 : t6, ∀ x7 : t7, ∀ x8 : t8, ∀ x9 : t9, ∀ x10 : t10, ∀ x11 : t11, ∀ x12 : t12, ∀ x13 : t13, ∀ x14 : t14, ∀ x15 : t15, ∀ x16 : t16, ∀ x17 : t17, p18 x0 x1 x2 x3 x4 x5 x6 x7 x8 x9 x10 x11 x12 x13 x14 x15 x16 x17 → p19 x0 x1 x2 x3 x4 x5 x6 x7 x8 x9 x10 x11 x12 x13 x14 x15 x16 x17 → p20 x0 x1 x2 x3 x4 x5 x6 x7 x8 x9 x10 x11 x12 x13 x14 x15 x16 x17 → C) : (∃ x0 : t0, ∃ x1 : t1, ∃ x2 : t2, ∃ x3 : t3, ∃ x4 : t4, ∃ x5 : t5, ∃ x6 : t6, ∃ x7 : t7, ∃ x8 : t8, ∃ x9 : t9, ∃ x10 : t10, ∃ x11 : t11, ∃ x12 : t12, ∃ x13 : t13, ∃ x14 : t14, ∃ x15 : t15, ∃ x16 : t16, ∃ x17 : t17, p18 x0 x1 x2 x3 x4 x5 x6 x7 x8 x9 x10 x11 x12 x13 x14 x15 x16 x17 ∧ p19 x0 x1 x2 x3 x4 x5 x6 x7 x8 x9 x10 x11 x12 x13 x14 x15 x16 x17 ∧ p20 x0 x1 x2 x3 x4 x5 x6 x7 x8 x9 x10 x11 x12 x13 x14 x15 x16 x17) → C := by
  rintro ⟨x0, x1, x2, x3, x4, x5, x6, x7, x8, x9, x10, x11, x12, x13, x14, x15, x16, x17, h18, h19, h20⟩
  exact k x0 x1 x2 x3 x4 x5 x6 x7 x8 x9 x10 x11 x12 x13 x14 x15 x16 x17 h18 h19 h20
theorem mk_EEEEEEEEEEEEEEEEEEAA {t0 : Type} {t1 : Type} {t2 : Type} {t3 : Type} {t4 : Type} {t5 : Type} {t6 : Type} {t7 : Type} {t8 : Type} {t9 : Type} {t10 : Type} {t11 : Type} {t12 : Type} {t13 : Type} {t14 : Type} {t15 : Type} {t16 : Type} {t17 : Type} {p18 : t0 → t1 → t2 → t3 → t4 → t5 → t6 → t7 → t8 → t9 → t10 → t11 → t12 → t13 → t14 → t15 → t16 → t17 → Prop} {p19 : t0 → t1 → t2 → t3 → t4 → t5 → t6 → t7 → t8 → t9 → t10 → t11 → t12 → t13 → t14 → t15 → t16 → t17 → Prop} {p20 : t0 → t1 → t2 → t3 → t4 → t5 → t6 → t7 → t8 → t9 → t10 → t11 → t12 → t13 → t14 → t15 → t16 → t17 → Prop} (x0 : t0) (x1 : t1) (x2 : t2) (x3 : t3) (x4 : t4) (x5 : t5) (x6 : t6) (x7 : t7) (x8 : t8) (x9 : t9) (x10 : t10) (x11 : t11) (x12 : t12) (x13 : t13) (x14 : t14) (x15 : t15) (x16 : t16) (x17 : t17) (h18 : p18 x0 x1 x2 x3 x4 x5 x6 x7 x8 x9 x10 x11 x12 x13 x14 x15 x16 x17) (h19 : p19 x0 x1 x2 x3 x4 x5 x6 x7 x8 x9 x10 x11 x12 x13 x14 x15 x16 x17) (h20 : p20 x0 x1 x2 x3 x4 x5 x6 x7 x8 x9 x10 x11 x12 x13 x14 x15 x16 x17) : ∃ x0 : t0, ∃ x1 : t1, ∃ x2 : t2, ∃ x3 : t3, ∃ x4 : t4, ∃ x5 : t5, ∃ x6 : t6, ∃ x7 : t7, ∃ x8 : t8, ∃ x9 : t9, ∃ x10 : t10, ∃ x11 : t11, ∃ x12 : t12, ∃ x13 : t13, ∃ x14 : t14, ∃ x15 : t15, ∃ x16 : t16, ∃ x17 : t17, p18 x0 x1 x2 x3 x4 x5 x6 x7 x8 x9 x10 x11 x12 x13 x14 x15 x16 x17 ∧ p19 x0 x1 x2 x3 x4 x5 x6 x7 x8 x9 x10 x11 x12 x13 x14 x15 x16 x17 ∧ p20 x0 x1 x2 x3 x4 x5 x6 x7 x8 x9 x10 x11 x12 x13 x14 x15 x16 x17 := ⟨x0, x1, x2, x3, x4, x5, x6, x7, x8, x9, x10, x11, x12, x13, x14, x15, x16, x17, h18, h19, h20⟩
theorem el_EEEEEEEEEEEEEEEEEEEEAAAA {t0 : Type} {t1 : Type} {t2 : Type} {t3 : Type} {t4 : Type} {t5 : Type} {t6 : Type} {t7 : Type} {t8 : Type} {t9 : Type} {t10 : Type} {t11 : Type} {t12 : Type} {t13 : Type} {t14 : Type} {t15 : Type} {t16 : Type} {t17 : Type} {t18 : Type} {t19 : Type} {p20 : t0 → t1 → t2 → t3 → t4 → t5 → t6 → t7 → t8 → t9 → t10 → t11 → t12 → t13 → t14 → t15 → t16 → t17 → t18 → t19 → Prop} {p21 : t0 → t1 → t2 → t3 → t4 → t5 → t6 → t7 → t8 → t9 → t10 → t11 → t12 → t13 → t14 → t15 → t16 → t17 → t18 → t19 → Prop} {p22 : t0 → t1 → t2 → t3 → t4 → t5 → t6 → t7 → t8 → t9 → t10 → t11 → t12 → t13 → t14 → t15 → t16 → t17 → t18 → t19 → Prop} {p23 : t0 → t1 → t2 → t3 → t4 → t5 → t6 → t7 → t8 → t9 → t10 → t11 → t12 → t13 → t14 → t15 → t16 → t17 → t18 → t19 → Prop} {p24 : t0 → t1 → t2 → t3 → t4 → t5 → t6 → t7 → t8 → t9 → t10 → t11 → t12 → t13 → t14 → t15 → t16 → t17 → t18 → t19 → Prop} {C : Prop} (k : ∀ x0 : t0, ∀ x1 : t1, ∀ x2 : t2, ∀ x3 : t3, ∀ x4 : t4, ∀ x5 : t5, ∀ x6 : t6, ∀ x7 : t7, ∀ x8 : t8, ∀ x9 : t9, ∀ x10 : t10, ∀ x11 : t11, ∀ x12 : t12, ∀ x13 : t13, ∀ x14 : t14, ∀ x15 : t15, ∀ x16 : t16, ∀ x17 : t17, ∀ x18 : t18, ∀ x19 : t19, p20 x0 x1 x2 x3 x4 x5 x6 x7 x8 x9 x10 x11 x12 x13 x14 x15 x16 x17 x18 x19 → p21 x0 x1 x2 x3 x4 x5 x6 x7 x8 x9 x10 x11 x12 x13 x14 x15 x16 x17 x18 x19 → p22 x0 x1 x2 x3 x4 x5 x6 x7 x8 x9 x10 x11 x12 x13 x14 x15 x16 x17 x18 x19 → p23 x0 x1 x2 x3 x4 x5 x6 x7 x8 x9 x10 x11 x12 x13 x14 x15 x16 x17 x18 x19 → p24 x0 x1 x2 x3 x4 x5 x6 x7 x8 x9 x10 x11 x12 x13 x14 x15 x16 x17 x18 x19 → C) : (∃ x0 : t0, ∃ x1 : t1, ∃ x2 : t2, ∃ x3 : t3, ∃ x4 : t4, ∃ x5 : t5, ∃ x6 : t6, ∃ x7 : t7, ∃ x8 : t8, ∃ x9 : t9, ∃ x10 : t10, ∃ x11 : t11, ∃ x12 : t12, ∃ x13 : t13, ∃ x14 : t14, ∃ x15 : t15, ∃ x16 : t16, ∃ x17 : t17, ∃ x18 : t18, ∃ x19 : t19, p20 x0 x1 x2 x3 x4 x5 x6 x7 x8 x9 x10 x11 x12 x13 x14 x15 x16 x17 x18 x19 ∧ p21 x0 x1 x2 x3 x4 x5 x6 x7 x8 x9 x10 x11 x12 x13 x14 x15 x16 x17 x18 x19 ∧ p22 x0 x1 x2 x3 x4 x5 x6 x7 x8 x9 x10 x11 x12 x13 x14 x15 x16 x17 x18 x19 ∧ p23 x0 x1 x2 x3 x4 x5 x6 x7 x8 x9 x10 x11 x12 x13 x14 x15 x16 x17 x18 x19 ∧ p24 x0 x1 x2 x3 x4 x5 x6 x7 x8 x9 x10 x11 x12 x13 x14 x15 x16 x17 x18 x19) → C := by
  rintro ⟨x0, x1, x2, x3, x4, x5, x6, x7, x8, x9, x10, x11, x12, x13, x14, x15, x16, x17, x18, x19, h20, h21, h22, h23, h24⟩
  exact k x0 x1 x2 x3 x4 x5 x6 x7 x8 x9 x10 x11 x12 x13 x14 x15 x16 x17 x18 x19 h20 h21 h22 h23 h24
theorem mk_EEEEEEEEEEEEEEEEEEEEAAAA {t0 : Type} {t1 : Type} {t2 : Type} {t3 : Type} {t4 : Type} {t5 : Type} {t6 : Type} {t7 : Type} {t8 : Type} {t9 : Type} {t10 : Type} {t11 : Type} {t12 : Type} {t13 : Type} {t14 : Type} {t15 : Type} {t16 : Type} {t17 : Type} {t18 : Type} {t19 : Type} {p20 : t0 → t1 → t2 → t3 → t4 → t5 → t6 → t7 → t8 → t9 → t10 → t11 → t12 → t13 → t14 → t15 → t16 → t17 → t18 → t19 → Prop} {p21 : t0 → t1 → t2 → t3 → t4 → t5 → t6 → t7 → t8 → t9 → t10 → t11 → t12 → t13 → t14 → t15 → t16 → t17 → t18 → t19 → Prop} {p22 : t0 → t1 → t2 → t3 → t4 → t5 → t6 → t7 → t8 → t9 → t10 → t11 → t12 → t13 → t14 → t15 → t16 → t17 → t18 → t19 → Prop} {p23 : t0 → t1 → t2 → t3 → t4 → t5 → t6 → t7 → t8 → t9 → t10 → t11 → t12 → t13 → t14 → t15 → t16 → t17 → t18 → t19 → Prop} {p24 : t0 → t1 → t2 → t3 → t4 → t5 → t6 → t7 → t8 → t9 → t10 → t11 → t12 → t13 → t14 → t15 → t16 → t17 → t18 → t19 → Prop} (x0 : t0) (x1 : t1) (x2 : t2) (x3 : t3) (x4 : t4) (x5 : t5) (x6 : t6) (x7 : t7) (x8 : t8) (x9 : t9) (x10 : t10) (x11 : t11) (x12 : t12) (x13 : t13) (x14 : t14) (x15 : t15) (x16 : t16) (x17 : t17) (x18 : t18) (x19 : t19) (h20 : p20 x0 x1 x2 x3 x4 x5 x6 x7 x8 x9 x10 x11 x12 x13 x14 x15 x16 x17 x18 x19) (h21 : p21 x0 x1 x2 x3 x4 x5 x6 x7 x8 x9 x10 x11 x12 x13 x14 x15 x16 x17 x18 x19) (h22 : p22 x0 x1 x2 x3 x4 x5 x6 x7 x8 x9 x10 x11 x12 x13 x14 x15 x16 x17 x18 x19) (h23 : p23 x0 x1 x2 x3 x4 x5 x6 x7 x8 x9 x10 x11 x12 x13 x14 x15 x16 x17 x18 x19) (h24 : p24 x0 x1 x2 x3 x4 x5 x6 x7 x8 x9 x10 x11 x12 x13 x14 x15 x16 x17 x18 x19) : ∃ x0 : t0, ∃ x1 : t1, ∃ x2 : t2, ∃ x3 : t3, ∃ x4 : t4, ∃ x5 : t5, ∃ x6 : t6, ∃ x7 : t7, ∃ x8 : t8, ∃ x9 : t9, ∃ x10 : t10, ∃ x11 : t11, ∃ x12 : t12, ∃ x13 : t13, ∃ x14 : t14, ∃ x15 : t15, ∃ x16 : t16, ∃ x17 : t17, ∃ x18 : t18, ∃ x19 : t19, p20 x0 x1 x2 x3 x4 x5 x6 x7 x8 x9 x10 x11 x12 x13 x14 x15 x16 x17 x18 x19 ∧ p21 x0 x1 x2 x3 x4 x5 x6 x7 x8 x9 x10 x11 x12 x13 x14 x15 x16 x17 x18 x19 ∧ p22 x0 x1 x2 x3 x4 x5 x6 x7 x8 x9 x10 x11 x12 x13 x14 x15 x16 x17 x18 x19 ∧ p23 x0 x1 x2 x3 x4 x5 x6 x7 x8 x9 x10 x11 x12 x13 x14 x15 x16 x17 x18 x19 ∧ p24 x0 x1 x2 x3 x4 x5 x6 x7 x8 x9 x10 x11 x12 x13 x14 x15 x16 x17 x18 x19 := ⟨x0, x1, x2, x3, x4, x5, x6, x7, x8, x9, x10, x11, x12, x13, x14, x15, x16, x17, x18, x19, h20, h21, h22, h23, h24⟩
theorem el_EEEEEEEEEEEEEEEEEEEEEAA {t0 : Type} {t1 : Type} {t2 : Type} {t3 : Type} {t4 : Type} {t5 : Type} {t6 : Type} {t7 : Type} {t8 : Type} {t9 : Type} {t10 : Type} {t11 : Type} {t12 : Type} {t13 : Type} {t14 : Type} {t15 : Type} {t16 : Type} {t17 : Type} {t18 : Type} {t19 : Type} {t20 : Type} {p21 : t0 → t1 → t2 → t3 → t4 → t5 → t6 → t7 → t8 → t9 → t10 → t11 → t12 → t13 → t14 → t15 → t16 → t17 → t18 → t19 → t20 → Prop} {p22 : t0 → t1 → t2 → t3 → t4 → t5 → t6 → t7 → t8 → t9 → t10 → t11 → t12 → t13 → t14 → t15 → t16 → t17 → t18 → t19 → t20 → Prop} {p23 : t0 → t1 → t2 → t3 → t4 → t5 → t6 → t7 → t8 → t9 → t10 → t11 → t12 → t13 → t14 → t15 → t16 → t17 → t18 → t19 → t20 → Prop} {C : Prop} (k : ∀ x0 : t0, ∀ x1 : t1, ∀ x2 : t2, ∀ x3 : t3, ∀ x4 : t4, ∀ x5 : t5, ∀ x6 : t6, ∀ x7 : t7, ∀ x8 : t8, ∀ x9 : t9, ∀ x10 : t10, ∀ x11 : t11, ∀ x12 : t12, ∀ x13 : t13, ∀ x14 : t14, ∀ x15 : t15, ∀ x16 : t16, ∀ x17 : t17, ∀ x18 : t18, ∀ x19 : t19, ∀ x20 : t20, p21 x0 x1 x2 x3 x4 x5 x6 x7 x8 x9 x10 x11 x12 x13 x14 x15 x16 x17 x18 x19 x20 → p22 x0 x1 x2 x3 x4 x5 x6 x7 x8 x9 x10 x11 x12 x13 x14 x15 x16 x17 x18 x19 x20 → p23 x0 x1 x2 x3 x4 x5 x6 x7 x8 x9 x10 x11 x12 x13 x14 x15 x16 x17 x18 x19 x20 → C) : (∃ x0 : t0, ∃ x1 : t1, ∃ x2 : t2, ∃ x3 : t3, ∃ x4 : t4, ∃ x5 : t5, ∃ x6 : t6, ∃ x7 : t7, ∃ x8 : t8, ∃ x9 : t9, ∃ x10 : t10, ∃ x11 : t11, ∃ x12 : t12, ∃ x13 : t13, ∃ x14 : t14, ∃ x15 : t15, ∃ x16 : t16, ∃ x17 : t17, ∃ x18 : t18, ∃ x19 : t19, ∃ x20 : t20, p21 x0 x1 x2 x3 x4 x5 x6 x7 x8 x9 x10 x11 x12 x13 x14 x15 x16 x17 x18 x19 x20 ∧ p22 x0 x1 x2 x3 x4 x5 x6 x7 x8 x9 x10 x11 x12 x13 x14 x15 x16 x17 x18 x19 x20 ∧ p23 x0 x1 x2 x3 x4 x5 x6 x7 x8 x9 x10 x11 x12 x13 x14 x15 x16 x17 x18 x19 x20) → C := by
  rintro ⟨x0, x1, x2, x3, x4, x5, x6, x7, x8, x9, x10, x11, x12, x13, x14, x15, x16, x17, x18, x19, x20, h21, h22, h23⟩
  exact k x0 x1 x2 x3 x4 x5 x6 x7 x8 x9 x10 x11 x12 x13 x14 x15 x16 x17 x18 x19 x20 h21 h22 h23
theorem mk_EEEEEEEEEEEEEEEEEEEEEAA {t0 : Type} {t1 : Type} {t2 : Type} {t3 : Type} {t4 : Type} {t5 : Type} {t6 : Type} {t7 : Type} {t8 : Type} {t9 : Type} {t10 : Type} {t11 : Type} {t12 : Type} {t13 : Type} {t14 : Type} {t15 : Type} {t16 : Type} {t17 : Type} {t18 : Type} {t19 : Type} {t20 : Type} {p21 : t0 → t1 → t2 → t3 → t4 → t5 → t6 → t7 → t8 → t9 → t10 → t11 → t12 → t13 → t14 → t15 → t16 → t17 → t18 → t19 → t20 → Prop} {p22 : t0 → t1 → t2 → t3 → t4 → t5 → t6 → t7 → t8 → t9 → t10 → t11 → t12 → t13 → t14 → t15 → t16 → t17 → t18 → t19 → t20 → Prop} {p23 : t0 → t1 → t2 → t3 → t4 → t5 → t6 → t7 → t8 → t9 → t10 → t11 → t12 → t13 → t14 → t15 → t16 → t17 → t18 → t19 → t20 → Prop} (x0 : t0) (x1 : t1) (x2 : t2) (x3 : t3) (x4 : t4) (x5 : t5) (x6 : t6) (x7 : t7) (x8 : t8) (x9 : t9) (x10 : t10) (x11 : t11) (x12 : t12) (x13 : t13) (x14 : t14) (x15 : t15) (x16 : t16) (x17 : t17) (x18 : t18) (x19 : t19) (x20 : t20) (h21 : p21 x0 x1 x2 x3 x4 x5 x6 x7 x8 x9 x10 x11 x12 x13 x14 x15 x16 x17 x18 x19 x20) (h22 : p22 x0 x1 x2 x3 x4 x5 x6 x7 x8 x9 x10 x11 x12 x13 x14 x15 x16 x17 x18 x19 x20) (h23 : p23 x0 x1 x2 x3 x4 x5 x6 x7 x8 x9 x10 x11 x12 x13 x14 x15 x16 x17 x18 x19 x20) : ∃ x0 : t0, ∃ x1 : t1, ∃ x2 : t2, ∃ x3 : t3, ∃ x4 : t4, ∃ x5 : t5, ∃ x6 : t6, ∃ x7 : t7, ∃ x8 : t8, ∃ x9 : t9, ∃ x10 : t10, ∃ x11 : t11, ∃ x12 : t12, ∃ x13 : t13, ∃ x14 : t14, ∃ x15 : t15, ∃ x16 : t16, ∃ x17 : t17, ∃ x18 : t18, ∃ x19 : t19, ∃ x20 : t20, p21 x0 x1 x2 x3 x4 x5 x6 x7 x8 x9 x10 x11 x12 x13 x14 x15 x16 x17 x18 x19 x20 ∧ p22 x0 x1 x2 x3 x4 x5 x6 x7 x8 x9 x10 x11 x12 x13 x14 x15 x16 x17 x18 x19 x20 ∧ p23 x0 x1 x2 x3 x4 x5 x6 x7 x8 x9 x10 x11 x12 x13 x14 x15 x16 x17 x18 x19 x20 := ⟨x0, x1, x2, x3, x4, x5, x6, x7, x8, x9, x10, x11, x12, x13, x14, x15, x16, x17, x18, x19, x20, h21, h22, h23⟩
open PySem PySem.Calls PySem.W PyProof.Rows
set_option Elab.async false
set_option maxRecDepth 100000
set_option linter.unusedVariables false
abbrev Led := List (Addr × Obj)
/-- the room that a call wants: n frames more -/
structure Ok (n : Nat) (A : Around) : Prop where
  handled : A.handled = none
  depth : A.depth + n < recursionLimit
  units : A.units + 20 * n + 100 < cLine
section
variable {n k : Nat} {A : Around} {env : Env}
theorem Ok.room (h : Ok n A) : A.depth < recursionLimit := Nat.lt_of_le_of_lt (Nat.le_add_right _ _) h.depth
theorem Ok.deeper (h : Ok (n + 1) A) : Ok n (A.deeper env) :=
  ⟨h.handled, by have := h.depth; show A.depth + 1 + n < _; omega, by have := h.units; show A.units + 3 + 20 * n + 100 < _; omega⟩
theorem Ok.in1 (h : Ok (n + 1) A) : Ok n A.in1 :=
  ⟨h.handled, by have := h.depth; show A.depth + n < _; omega, by have := h.units; show A.units + 1 + 20 * n + 100 < _; omega⟩
theorem Ok.le (h : Ok n A) (hk : k ≤ n) : Ok k A :=
  ⟨h.handled, by have := h.depth; omega, by have := h.units; omega⟩
theorem Ok.make {C : Addr} {pos : List Value} (h : Ok (n + 1) A) : Ok n (A.under (.builtin "type.__call__" ⟨.ref C :: pos, []⟩)) :=
  ⟨h.handled, by have := h.depth; show A.depth + 1 + n < _; omega, by have := h.units; show A.units + 1 + 20 * n + 100 < _; omega⟩
end

/-- what is new lies above what stood -/
def Abv (news tl : Led) : Prop := ∀ q ∈ news, ∀ p ∈ tl, q.1 < p.1
section
variable {news news' tl tl' : Led} {x : Addr × Obj} {a : Addr} {o o' : Obj}
theorem Abv.nil : Abv news [] := fun _ _ _ h => nomatch h
theorem Abv.app (h : Abv news tl) (h' : Abv news tl') : Abv news (tl ++ tl') := fun q hq p hp => (List.mem_append.mp hp).elim (h q hq p) (h' q hq p)
theorem Abv.cons (h : ∀ q ∈ news, q.1 < a) (h' : Abv news tl) : Abv news ((a, o) :: tl) := fun q hq p hp => by
  rcases List.mem_cons.mp hp with rfl | hp
  · exact h q hq
  · exact h' q hq p hp
theorem Abv.sub (h : Abv news tl) (hs : ∀ p ∈ news', p ∈ news) : Abv news' tl := fun q hq => h q (hs q hq)
theorem Abv.ne (h : Abv news tl) {q : Addr × Obj} (hq : q ∈ news) : ∀ p ∈ tl, p.1 ≠ q.1 := fun p hp => Nat.ne_of_gt (h q hq p hp)
theorem Abv.lt (h : Abv news tl) (hq : (a, o) ∈ news) : ∀ p ∈ tl, a < p.1 := fun p hp => h _ hq p hp
theorem ltAll {L : Led} {d : Addr} : AllLt d L → ∀ p ∈ L, p.1 < d := fun h p hp => ktn_ltOf h p hp
theorem allLt_left {d : Addr} : ∀ {a b : Led}, AllLt d (a ++ b) → AllLt d a
  | [], _, _ => trivial
  | _ :: _, _, h => ⟨h.1, allLt_left h.2⟩
theorem ltCons {L D : Addr} {oL : Obj} {news : Led} (h1 : L < D) (h2 : AllLt D news) : ∀ q ∈ (L, oL) :: news, q.1 < D := fun q hq => by
  rcases List.mem_cons.mp hq with rfl | hq
  · exact h1
  · exact ltAll h2 q hq
theorem neAll {L : Led} {d : Addr} : AllLt d L → ∀ p ∈ L, p.1 ≠ d := fun h p hp => Nat.ne_of_lt (ktn_ltOf h p hp)
end

/-- an object that is a frame's names -/
def NsObj (o : Obj) (m : Str → Option Value) : Prop := ∃ es ep, o.data = .dict es ep ∧ StrKeys es ∧ ∀ name, nsFind es name = m name
theorem NsObj.ns {o : Obj} {m : Str → Option Value} {h : Heap} {L : Addr} (x : NsObj o m) (e : h.get? L = some o) : h.Ns L m :=
  let ⟨es, ep, a, b, c⟩ := x; (mk_EEEAAA o es ep e a b c)
section
variable {prog : Program} {w : World} {A : Around} {E : Value → Shared → Prop} {s : Shared} {K : Frag} {L : Addr} {hB : Heap} {m mg mb : Str → Option Value} {news : Led} {p : Program} {loose : List Str} {R : Result → Shared → Prop}

theorem enterC {name qual : Str} {params : Arguments} {body : List Stmt} {scope : Scope} {dV kV doc pm cdv ct oc : Value} {an od : Option Addr} {osl : Array (Option Value)} {f : Addr} {args : Args} (binds : List (Str × Value))
    (F : Fr hB L s.heap m) (X : K.In hB) (N : News hB L s.heap news) (T : TopRead p loose mg mb hB)
    (ho : K.lookup f = some ⟨oc, od, .func (fnOf name qual params body scope dV kV doc pm an cdv ct), osl⟩) (hcd : codeIn K cdv qual = true) (hroom : A.depth < recursionLimit)
    (hbind : BindsTo s (fnOf name qual params body scope dV kV doc pm an cdv ct) args binds) (hloc : ∀ y ∈ binds, scope.names.lookup y.1 = some .local)
    (hco : scope.isCoroutine = false) (hgen : scope.isGenerator = false) (hk : scope.kind = .function) (hcell : ∀ x ∈ scope.names, x.2 ≠ .cell)
    (h : ∀ L' h₁ oL tk, Fr hB L' h₁ (fun y => binds.reverse.lookup y) → News hB L' h₁ ((L, oL) :: news) → NsObj oL m → (∀ q ∈ (L, oL) :: news, q.1 < L') → hB.objs.size ≤ L → (∀ q ∈ news, q.1 ≠ L) →
      wpAny (model prog w) (A.deeper (envX qual scope L' f cdv [])) (execs body (envX qual scope L' f cdv []))
        (fun fl s' => R (.ok (.ret (match fl with | .ret v => v | _ => .none))) s') (fun _ _ => False)
        { s with heap := h₁, toks := tk }) :
    codeAny (model prog w) A (.call (.ref f) args) R s := by
  have XS := X.keeps F.keep
  refine codeAny_call_def (fd := fnOf name qual params body scope dV kV doc pm an cdv ct) (body := body) (binds := binds) hroom (XS _ _ ho) rfl (T.nolimit.keeps F.keep) (codeRec_of XS hcd) rfl hbind hcell hloc (fun h₁ hns hk₁ => ?_) hco hgen hk
  refine el_EEEAAA ?_ (F.ns); rintro oL es ep hL hLd hLk hLf
  have hLs := Heap.lt_size hL
  refine wpAny_mono (h s.heap.objs.size h₁ oL _ ⟨hns, fun b o e => hk₁ b o (F.keep b o e), Nat.le_of_lt (Nat.lt_of_le_of_lt F.above hLs)⟩ ?_ (mk_EEAA es ep hLd hLk hLf) ?_ F.above fun q hq => (N q hq).2.1) (fun fl s' q => q) (fun _ _ q => q.elim)
  · intro q hq
    rcases List.mem_cons.mp hq with rfl | hq
    · refine (mk_AA (hk₁ _ _ hL) (Nat.ne_of_lt hLs) ?_)
      cases e : hB.get? L with
      | none => rfl
      | some o => exact absurd (Nat.lt_of_lt_of_le (Heap.lt_size e) F.above) (Nat.lt_irrefl _)
    · exact (mk_AA (hk₁ _ _ (N q hq).1) (Nat.ne_of_lt (Heap.lt_size (N q hq).1)) ((N q hq).2.2))
  · intro q hq
    rcases List.mem_cons.mp hq with rfl | hq
    · exact hLs
    · exact Heap.lt_size (N q hq).1

theorem enterCells {name qual : Str} {params : Arguments} {body : List Stmt} {scope : Scope} {dV kV doc pm cdv ct oc : Value} {an od : Option Addr} {osl : Array (Option Value)} {f : Addr} {args : Args} (binds : List (Str × Value))
    (F : Fr hB L s.heap m) (X : K.In hB) (N : News hB L s.heap news) (T : TopRead p loose mg mb hB)
    (ho : K.lookup f = some ⟨oc, od, .func (fnOf name qual params body scope dV kV doc pm an cdv ct), osl⟩) (hcd : codeIn K cdv qual = true) (hroom : A.depth < recursionLimit)
    (hbind : BindsTo s (fnOf name qual params body scope dV kV doc pm an cdv ct) args binds)
    (hkind : (binds.all fun y => scope.names.lookup y.1 == some .local || scope.names.lookup y.1 == some .cell) = true)
    (hnd : ((cellsFrom 0 scope.names []).map (·.1)).Nodup)
    (hco : scope.isCoroutine = false) (hgen : scope.isGenerator = false) (hk : scope.kind = .function)
    (h : ∀ L' h₁ oL tk cells, Fr hB L' h₁ (bindL (envOfC qual scope L' f cdv).kindOf binds fun _ => none) → News hB L' h₁ (cells ++ (L, oL) :: news) → NsObj oL m →
      CellsAre (bindC (envOfC qual scope L' f cdv).kindOf binds fun _ => none) (cellsFrom (L' + 1) scope.names []) cells → (∀ q ∈ (L, oL) :: news, q.1 < L') → hB.objs.size ≤ L → (∀ q ∈ news, q.1 ≠ L) →
      wpAny (model prog w) (A.deeper (envX qual scope L' f cdv (cellsFrom (L' + 1) scope.names []))) (execs body (envX qual scope L' f cdv (cellsFrom (L' + 1) scope.names [])))
        (fun fl s' => R (.ok (.ret (match fl with | .ret v => v | _ => .none))) s') (fun _ _ => False)
        { s with heap := h₁, toks := tk }) :
    codeAny (model prog w) A (.call (.ref f) args) R s := by
  have XS := X.keeps F.keep
  refine codeAny_call_function (fd := fnOf name qual params body scope dV kV doc pm an cdv ct) hroom (XS _ _ ho) rfl hco hgen rfl (codeRec_of XS hcd) (hbind _ _ _ _ ?_)
  refine wpAny_newFunctionEnv_cells hk (kindsX hkind _) fun env' he s' x => ?_
  subst he
  refine ⟨(T.nolimit.keeps F.keep).keeps x.toInCall.keep, codeAny_func ?_⟩
  refine el_EEA ?_ (x.done); rintro h₁ tk rfl _
  have hk₁ := x.toInCall.keep
  refine el_EEEAAA ?_ (F.ns); rintro oL es ep hL hLd hLk hLf
  have hLs := Heap.lt_size hL
  refine el_EA ?_ (Cl.news (h₀ := s.heap) (Nat.le_refl _) fun n c hm => ⟨x.cell n c (lookup_of_mem_nodup (cellsFrom_names scope.names 0 (s.heap.objs.size + 1) [] [] rfl ▸ hnd) hm), x.above n c hm⟩); rintro cells NC Y
  have low : ∀ {b o}, hB.get? b = some o → b < s.heap.objs.size := fun e => Heap.lt_size (F.keep _ _ e)
  refine wpAny_mono (h s.heap.objs.size h₁ oL tk cells ⟨x.toInCall.ns, fun b o e => hk₁ b o (F.keep b o e), Nat.le_of_lt (Nat.lt_of_le_of_lt F.above hLs)⟩ ?_ (mk_EEAA es ep hLd hLk hLf) Y ?_ F.above fun q hq => (N q hq).2.1) (fun fl s' q => q) (fun _ _ q => q.elim)
  · intro q hq
    rcases List.mem_append.mp hq with hq | hq
    · refine (mk_AA ((NC q hq).1) ((NC q hq).2.1) ?_)
      cases e : hB.get? q.1 with
      | none => rfl
      | some o => have := (NC q hq).2.2; rw [F.keep _ _ e] at this; cases this
    · rcases List.mem_cons.mp hq with rfl | hq
      · refine (mk_AA (hk₁ _ _ hL) (Nat.ne_of_lt hLs) ?_)
        cases e : hB.get? L with
        | none => rfl
        | some o => exact absurd (Nat.lt_of_lt_of_le (Heap.lt_size e) F.above) (Nat.lt_irrefl _)
      · exact (mk_AA (hk₁ _ _ (N q hq).1) (Nat.ne_of_lt (Heap.lt_size (N q hq).1)) ((N q hq).2.2))
  · intro q hq
    rcases List.mem_cons.mp hq with rfl | hq
    · exact hLs
    · exact Heap.lt_size (N q hq).1

/-- what stands when the callee's frame is left -/
theorem backF {L' : Addr} {h' : Heap} {m' : Str → Option Value} {news' : Led} {oL : Obj} (hL : hB.objs.size ≤ L) (x : NsObj oL m) (F' : Fr hB L' h' m') (N' : News hB L' h' news') (hm : (L, oL) ∈ news') : Fr hB L h' m :=
  ⟨x.ns (N' _ hm).1, F'.keep, hL⟩
theorem backN {L' : Addr} {h' : Heap} {news' news'' : Led} (N' : News hB L' h' news') (hs : ∀ q ∈ news'', q ∈ news' ∧ q.1 ≠ L) : News hB L h' news'' :=
  fun q hq => (mk_AA ((N' q (hs q hq).1).1) ((hs q hq).2) ((N' q (hs q hq).1).2.2))
theorem leaveT {L' : Addr} {h' : Heap} {m' : Str → Option Value} {led : Led} {oL : Obj} (tl : Led) (hL : hB.objs.size ≤ L) (x : NsObj oL m) (off : ∀ q ∈ tl ++ news, q.1 ≠ L) (F' : Fr hB L' h' m') (N' : News hB L' h' led) (hm : (L, oL) ∈ led) (hs : ∀ q ∈ tl ++ news, q ∈ led) :
    Fr hB L h' m ∧ News hB L h' (tl ++ news) :=
  ⟨backF hL x F' N' hm, backN N' fun q hq => ⟨hs q hq, off q hq⟩⟩
theorem leaveR {G : Prop} {L' : Addr} {h' : Heap} {m' : Str → Option Value} {led : Led} {oL : Obj} (tl : Led) (hL : hB.objs.size ≤ L) (x : NsObj oL m) (F' : Fr hB L' h' m') (N' : News hB L' h' led) (hm : (L, oL) ∈ led) (hs : ∀ q ∈ tl ++ news, q ∈ led) (off : ∀ q ∈ tl ++ news, q.1 ≠ L) (k : Fr hB L h' m → News hB L h' (tl ++ news) → G) : G :=
  (leaveT tl hL x off F' N' hm hs).elim k
theorem leaveA {L' : Addr} {h' : Heap} {m' : Str → Option Value} {oL : Obj} (tl : Led) (hL : hB.objs.size ≤ L) (n : NsObj oL m) (off : ∀ q ∈ news, q.1 ≠ L) (F' : Fr hB L' h' m') (N' : News hB L' h' (tl ++ (L, oL) :: news)) (ab : Abv ((L, oL) :: news) tl) :
    Fr hB L h' m ∧ News hB L h' (tl ++ news) ∧ Abv news tl :=
  have q := leaveT (news := news) tl hL n (fun q hq => (List.mem_append.mp hq).elim (fun h => Nat.ne_of_gt (ab _ (.head _) q h)) (off q)) F' N' (List.mem_append_right _ (.head _)) (fun q hq => (List.mem_append.mp hq).elim (fun h => List.mem_append_left _ h) fun h => List.mem_append_right _ (.tail _ h))
  (mk_AA q.1 q.2 (ab.sub fun p hp => .tail _ hp))
theorem leaveB {L' : Addr} {h' : Heap} {m' : Str → Option Value} {oL : Obj} (pre tl : Led) (hL : hB.objs.size ≤ L) (n : NsObj oL m) (off : ∀ q ∈ news, q.1 ≠ L) (F' : Fr hB L' h' m') (N' : News hB L' h' (pre ++ (L, oL) :: (news ++ tl))) (ab : Abv ((L, oL) :: news) (pre ++ tl)) :
    Fr hB L h' m ∧ News hB L h' ((pre ++ tl) ++ news) ∧ Abv news (pre ++ tl) :=
  have q := leaveT (news := news) (pre ++ tl) hL n (fun q hq => (List.mem_append.mp hq).elim (fun h => Nat.ne_of_gt (ab _ (.head _) q h)) (off q)) F' N' (List.mem_append_right _ (.head _)) (fun q hq => by
    rcases List.mem_append.mp hq with hq | hq
    · rcases List.mem_append.mp hq with hq | hq
      · exact List.mem_append_left _ hq
      · exact List.mem_append_right _ (.tail _ (List.mem_append_right _ hq))
    · exact List.mem_append_right _ (.tail _ (List.mem_append_left _ hq)))
  (mk_AA q.1 q.2 (ab.sub fun p hp => .tail _ hp))
theorem leave22 {L' : Addr} {h' : Heap} {m' : Str → Option Value} {oL : Obj} {a b x d : Addr × Obj} (hL : hB.objs.size ≤ L) (n : NsObj oL m) (F' : Fr hB L' h' m') (N' : News hB L' h' (a :: b :: (L, oL) :: x :: d :: news)) (off : ∀ q ∈ [x, d, a, b] ++ news, q.1 ≠ L) :
    Fr hB L h' m ∧ News hB L h' ([x, d, a, b] ++ news) :=
  leaveT _ hL n off F' N' (.tail _ (.tail _ (.head _))) fun q hq => by
    simp only [List.cons_append, List.nil_append, List.mem_cons] at hq ⊢
    rcases hq with h | h | h | h | h <;> simp [h]
theorem off2 {x d : Addr} {o o' o1 o1' : Obj} (h : ∀ q ∈ (x, o) :: (d, o') :: news, q.1 ≠ L) : ∀ q ∈ [(x, o1), (d, o1')] ++ news, q.1 ≠ L := fun q hq => by
  rcases List.mem_cons.mp hq with rfl | hq
  · exact h (x, o) (.head _)
  · rcases List.mem_cons.mp hq with rfl | hq
    · exact h (d, o') (.tail _ (.head _))
    · exact h q (.tail _ (.tail _ hq))
theorem Abv.two {a b : Addr} {o o' : Obj} (l1 : ∀ p ∈ news, p.1 < b) (l2 : b < a) : Abv news [(a, o), (b, o')] :=
  Abv.cons (fun q hq => Nat.lt_trans (l1 q hq) l2) (Abv.cons l1 Abv.nil)
theorem leave0 {L' : Addr} {h' : Heap} {m' : Str → Option Value} {oL : Obj} (hL : hB.objs.size ≤ L) (x : NsObj oL m) (off : ∀ q ∈ news, q.1 ≠ L) (F' : Fr hB L' h' m') (N' : News hB L' h' ((L, oL) :: news)) :
    Fr hB L h' m ∧ News hB L h' news :=
  ⟨backF hL x F' N' (.head _), backN N' fun q hq => ⟨.tail _ hq, off q hq⟩⟩
theorem newsSwap {h' : Heap} {a b : Led} (N : News hB L h' (a ++ b)) : News hB L h' (b ++ a) := fun q hq => N q ((List.mem_append.mp hq).elim (List.mem_append_right _) (List.mem_append_left _))
theorem newsSub {h' : Heap} {news' news'' : Led} (N' : News hB L h' news') (hs : ∀ q ∈ news'', q ∈ news') : News hB L h' news'' := fun q hq => N' q (hs q hq)
end
theorem subCons {α : Type} {x : α} {r T : List α} (h1 : x ∈ T) (h2 : ∀ q ∈ r, q ∈ T) : ∀ q ∈ x :: r, q ∈ T := fun _ hq => (List.mem_cons.mp hq).elim (fun e => e ▸ h1) (h2 _)
theorem subApp {α : Type} {a b T : List α} (h1 : ∀ q ∈ a, q ∈ T) (h2 : ∀ q ∈ b, q ∈ T) : ∀ q ∈ a ++ b, q ∈ T := fun _ hq => (List.mem_append.mp hq).elim (h1 _) (h2 _)
open PySem PySem.Calls PySem.W PyProof.Rows
set_option Elab.async false
set_option maxRecDepth 100000
set_option linter.unusedVariables false
abbrev adrs (l : Led) : List Addr := l.map (·.1)
theorem subL_of {l all : Led} (h : ∀ p ∈ l, p ∈ all) : SubL l all := by
  induction l with
  | nil => exact trivial
  | cons p r ih => exact ⟨h p (.head _), ih fun q hq => h q (.tail _ hq)⟩
theorem notIn_of_adrs {l l' : Led} {as : List Addr} (e : adrs l' = adrs l) (h : ∀ p ∈ l, p.1 ∉ as) : ∀ p ∈ l', p.1 ∉ as := fun p hp hm => by
  have : p.1 ∈ adrs l := e ▸ List.mem_map_of_mem hp
  refine el_EA ?_ (List.mem_map.mp this); rintro q hq e'
  exact h q hq (e' ▸ hm)
section
variable {prog : Program} {w : World} {A : Around} {s : Shared} {env : Env} {hB : Heap} {target : Expr} {body : List Stmt} {Q : Flow → Shared → Prop}

/-- a turn's end: what was to be kept is kept, what was turned stands anew, what was made lies above -/
def TEnd (hB : Heap) (L : Addr) (mu R : Led) (Z : Led) (J : (Str → Option Value) → Led → Led → Prop) (Q : Flow → Shared → Prop) (s₁ : Shared) (f : Flow) (s₂ : Shared) : Prop :=
  match f with
  | .ret v => Q (.ret v) s₂
  | .brk => Q .next s₂
  | _ => ∃ tl mu' m' h' tk', s₂ = { s₁ with heap := h', toks := tk' } ∧ Fr hB L h' m' ∧ News hB L h' (mu' ++ (tl ++ R)) ∧ adrs mu' = adrs mu ∧ Abv (mu ++ R) tl ∧ J m' mu' (tl ++ Z)

theorem turns_inv {ws : List (Addr × String)} {keep : Led} {adr : List Addr} (J : List Itm → (Str → Option Value) → Led → Led → Prop)
    (turn : ∀ a r m mu Z R v h tk, J (a :: r) m mu Z → a.Is v h → adrs mu = adr → (∀ p ∈ keep, p ∈ Z) → (∀ p ∈ Z, p ∈ R) → (∀ p ∈ R, p.1 ∉ adr) → Fr hB env.locals h m → News hB env.locals h (mu ++ R) →
      wpAny (model prog w) A (assign target env v) (fun _ s₂ => wpAny (model prog w) A (execs body env) (TEnd hB env.locals mu R Z (J r) Q { s with heap := h, toks := tk }) (fun _ _ => False) s₂) (fun _ _ => False) { s with heap := h, toks := tk })
    (done : ∀ m mu Z h tk, J [] m mu Z → adrs mu = adr → (∀ p ∈ keep, p ∈ Z) → (∀ p ∈ Z, p.1 ∉ adr) → Fr hB env.locals h m → News hB env.locals h (mu ++ Z) → Q .next { s with heap := h, toks := tk }) :
    ∀ xs m mu Z, J xs m mu Z → adrs mu = adr → (∀ p ∈ mu ++ Z, p.1 ∉ ws.map (·.1)) → (∀ p ∈ Z, p.1 ∉ adr) → (∀ p ∈ keep, p ∈ Z) →
      ItemsRest prog w A (fun _ _ => False) hB env target body Q s ws keep xs m (mu ++ Z) := by
  intro xs
  induction xs with
  | nil => intro m mu Z hJ ha hw hz hk h tk F N; exact done m mu Z h tk hJ ha hk hz F N
  | cons a r ih =>
    intro m mu Z hJ ha hw hz hk v h tk hv F
    have key : ∀ its, Objs ws its → News hB env.locals h (its ++ (mu ++ Z)) →
        wpAny (model prog w) A (assign target env v) (fun _ s₂ => wpAny (model prog w) A (execs body env) (UnrPostW hB env.locals { s with heap := h, toks := tk } its (fun m' n' => SubL keep n' ∧ ItemsRest prog w A (fun _ _ => False) hB env target body Q s ws keep r m' n') Q) (fun _ _ => False) s₂) (fun _ _ => False) { s with heap := h, toks := tk } := by
      intro its ho N
      have hio : its.map (·.1) = ws.map (·.1) := ho.map
      have hmem : ∀ q ∈ its, q.1 ∈ ws.map (·.1) := fun q hq => hio ▸ List.mem_map_of_mem hq
      have hR : ∀ p ∈ its ++ Z, p.1 ∉ adr := fun p hp hm => by
        rcases List.mem_append.mp hp with hp | hp
        · rw [← ha] at hm
          refine el_EA ?_ (List.mem_map.mp hm); rintro q hq e
          exact hw q (List.mem_append_left _ hq) (e ▸ hmem p hp)
        · exact hz p hp hm
      have N' : News hB env.locals h (mu ++ (its ++ Z)) := fun p hp => N p (by
        rcases List.mem_append.mp hp with hp | hp
        · exact List.mem_append_right _ (List.mem_append_left _ hp)
        · rcases List.mem_append.mp hp with hp | hp
          · exact List.mem_append_left _ hp
          · exact List.mem_append_right _ (List.mem_append_right _ hp))
      refine wpAny_mono (turn a r m mu Z (its ++ Z) v h tk hJ hv ha hk (fun p hp => List.mem_append_right _ hp) hR F N') (fun _ s₂ q => wpAny_mono q (fun f s₃ t => ?_) fun _ _ x => x) fun _ _ x => x
      have fin : (∃ tl mu' m' h' tk', s₃ = { ({ s with heap := h, toks := tk } : Shared) with heap := h', toks := tk' } ∧ Fr hB env.locals h' m' ∧ News hB env.locals h' (mu' ++ (tl ++ (its ++ Z))) ∧ adrs mu' = adrs mu ∧ Abv (mu ++ (its ++ Z)) tl ∧ J r m' mu' (tl ++ Z)) →
          UnrEndW hB env.locals { s with heap := h, toks := tk } its (fun m' n' => SubL keep n' ∧ ItemsRest prog w A (fun _ _ => False) hB env target body Q s ws keep r m' n') s₃ := by
        refine el_EEEEEAAAAA ?_; rintro tl mu' m' h' tk' e F' N2 ea ab hJ'
        have hw' : ∀ p ∈ mu' ++ (tl ++ Z), p.1 ∉ ws.map (·.1) := fun p hp hm => by
          rcases List.mem_append.mp hp with hp | hp
          · exact notIn_of_adrs ea (fun q hq => hw q (List.mem_append_left _ hq)) p hp hm
          · rcases List.mem_append.mp hp with hp | hp
            · rw [← hio] at hm
              refine el_EA ?_ (List.mem_map.mp hm); rintro q hq e'
              exact Nat.lt_irrefl _ (e' ▸ ab q (List.mem_append_right _ (List.mem_append_left _ hq)) p hp)
            · exact hw p (List.mem_append_right _ hp) hm
        have hz' : ∀ p ∈ tl ++ Z, p.1 ∉ adr := fun p hp hm => by
          rcases List.mem_append.mp hp with hp | hp
          · rw [← ha] at hm
            refine el_EA ?_ (List.mem_map.mp hm); rintro q hq e'
            exact Nat.lt_irrefl _ (e' ▸ ab q (List.mem_append_left _ hq) p hp)
          · exact hz p hp hm
        refine (mk_EEEEAAAAA h' tk' m' (mu' ++ (tl ++ Z)) e F' (fun p hp => N2 p ?_) (fun p hp q hq e' => hw' p hp (e' ▸ hmem q hq)) (subL_of fun p hp => List.mem_append_right _ (List.mem_append_right _ (hk p hp))) (ih m' mu' (tl ++ Z) hJ' (ea.trans ha) hw' hz' fun p hp => List.mem_append_right _ (hk p hp)))
        rcases List.mem_append.mp hp with hp | hp
        · exact List.mem_append_right _ (List.mem_append_right _ (List.mem_append_left _ hp))
        · rcases List.mem_append.mp hp with hp | hp
          · exact List.mem_append_left _ hp
          · rcases List.mem_append.mp hp with hp | hp
            · exact List.mem_append_right _ (List.mem_append_left _ hp)
            · exact List.mem_append_right _ (List.mem_append_right _ (List.mem_append_right _ hp))
      cases f with
      | ret v => exact t
      | brk => exact t
      | next => exact fin t
      | cont => exact fin t
    have all : ∀ (ws' : List (Addr × String)) (k : Led → Prop), (∀ its, Objs ws' its → k its) → AllObj ws' k := by
      intro ws'
      induction ws' with
      | nil => intro k h; exact h [] trivial
      | cons w' r' ih' => intro k h o ho; exact ih' _ fun its hi => h _ ⟨⟨rfl, ho⟩, hi⟩
    exact all ws _ key


/-- what a loop draws from, where it stands -/
def Src (prog : Program) (w : World) (A : Around) (hB : Heap) (target : PySem.Expr) (I : Addr) (ws : List (Addr × String)) (keep : Led) (xs : List Itm) (h : Heap) : Prop :=
  ∃ (fp wr : List Addr) (n : Nat) (P Md : Nat → Value → Heap → Prop) (St : Nat → Heap → Prop), KTurns prog w A target I fp wr n P Md St ∧ n = xs.length ∧ (∀ i v h, P i v h → ∃ a, xs[i]? = some a ∧ a.Is v h) ∧
    (∀ i h, St i h → ∃ its, Objs ws its ∧ ∀ p ∈ its, h.get? p.1 = some p.2) ∧ (∀ b ∈ ws.map (·.1), b ∈ fp ∧ hB.get? b = none) ∧ (∀ b ∈ wr, b ∈ ws.map (·.1)) ∧ (∀ b ∈ fp, b ∈ ws.map (·.1) ∨ ∃ o, (b, o) ∈ keep) ∧ St 0 h ∧
    ∀ (s : Shared) (Q : Value → Shared → Prop) (E : Value → Shared → Prop), St 0 s.heap → Q (.ref I) s → wpAny (model prog w) A (pyIter (.ref I)) Q E s
theorem Src.at {prog : Program} {w : World} {A : Around} {hB : Heap} {target : PySem.Expr} {I : Addr} {ws : List (Addr × String)} {keep : Led} {xs : List Itm} {h h' : Heap} (S : Src prog w A hB target I ws keep xs h)
    (hk : ∀ b o, h.get? b = some o → h'.get? b = some o) : Src prog w A hB target I ws keep xs h' := by
  refine el_EEEEEEAAAAAAAA ?_ (S); rintro fp wr n P Md St W a b c d e f g sf
  exact (mk_EEEEEEAAAAAAAA fp wr n P Md St W a b c d e f (W.frame _ _ _ g (fun b _ o e => hk b o e)) sf)

theorem Src.self {prog : Program} {w : World} {A : Around} {hB : Heap} {target : PySem.Expr} {I : Addr} {ws : List (Addr × String)} {keep : Led} {xs : List Itm} {s : Shared} {Q : Value → Shared → Prop} {E : Value → Shared → Prop} (S : Src prog w A hB target I ws keep xs s.heap)
    (h : Q (.ref I) s) : wpAny (model prog w) A (pyIter (.ref I)) Q E s := by
  refine el_EEEEEEAAAAAAAA ?_ (S); rintro fp wr n P Md St W a b c d e f g sf
  exact sf s Q E g h
theorem Src.news {prog : Program} {w : World} {A : Around} {hB : Heap} {target : PySem.Expr} {I : Addr} {ws : List (Addr × String)} {keep : Led} {xs : List Itm} {h : Heap} (S : Src prog w A hB target I ws keep xs h) : ∀ b ∈ ws.map (·.1), b < h.objs.size := by
  refine el_EEEEEEAAAAAAAA ?_ (S); rintro fp wr n P Md St W a b c d e f g sf
  intro x hx
  refine el_EA ?_ (c _ _ g); rintro its ho hg
  rw [← ho.map] at hx
  refine el_EA ?_ (List.mem_map.mp hx); rintro q hq rfl
  exact Heap.lt_size (hg q hq)

theorem for_src {I : Addr} {ws : List (Addr × String)} {keep : Led} {xs : List Itm} {m : Str → Option Value} {mu Z : Led} (J : List Itm → (Str → Option Value) → Led → Led → Prop)
    (S : Src prog w A hB target I ws keep xs s.heap) (F : Fr hB env.locals s.heap m) (N : News hB env.locals s.heap (mu ++ Z)) (hw : ∀ p ∈ mu ++ Z, p.1 ∉ ws.map (·.1)) (hz : ∀ p ∈ Z, p.1 ∉ adrs mu) (hk : ∀ p ∈ keep, p ∈ Z) (hL : env.locals ∉ ws.map (·.1)) (h0 : J xs m mu Z)
    (turn : ∀ a r m mu' Z' R v h tk, J (a :: r) m mu' Z' → a.Is v h → adrs mu' = adrs mu → (∀ p ∈ Z', p ∈ R) → (∀ p ∈ R, p.1 ∉ adrs mu) → Fr hB env.locals h m → News hB env.locals h (mu' ++ R) →
      wpAny (model prog w) A (assign target env v) (fun _ s₂ => wpAny (model prog w) A (execs body env) (TEnd hB env.locals mu' R Z' (J r) Q { s with heap := h, toks := tk }) (fun _ _ => False) s₂) (fun _ _ => False) { s with heap := h, toks := tk })
    (done : ∀ m mu' Z' h tk, J [] m mu' Z' → adrs mu' = adrs mu → (∀ p ∈ Z', p.1 ∉ adrs mu) → Fr hB env.locals h m → News hB env.locals h (mu' ++ Z') → Q .next { s with heap := h, toks := tk }) :
    TurnsAt prog w A hB env target body Q (fun _ _ => False) (.ref I) s := by
  refine el_EEEEEEAAAAAAAA ?_ (S); rintro fp wr n P Md St W hn hP hobj hws hwr hfp hst _
  have hLf : env.locals ∉ fp := fun hm => by
    rcases hfp _ hm with h | ⟨o, h⟩
    · exact hL h
    · exact (N _ (List.mem_append_right _ (hk _ h))).2.1 rfl
  refine ktu_core (tk0 := s.toks) (ws := ws) (keep := keep) W hn hP hobj hws hwr hfp hLf (fun p hp hm => hw p hp (hwr _ hm)) hst F N (subL_of fun p hp => List.mem_append_right _ (hk p hp)) ?_
  exact turns_inv (adr := adrs mu) J (fun a r m mu' Z' R v h tk h1 h2 h3 _ h5 h6 h7 h8 => turn a r m mu' Z' R v h tk h1 h2 h3 h5 h6 h7 h8) (fun m mu' Z' h tk h1 h2 _ h4 h5 h6 => done m mu' Z' h tk h1 h2 h4 h5 h6) xs m mu Z h0 rfl hw hz hk

def BEnd (hB : Heap) (C : Addr) (mu R Z : Led) (J : Led → Led → Prop) (s₁ s₂ : Shared) : Prop :=
  ∃ tl mu' m' h' tk', s₂ = { s₁ with heap := h', toks := tk' } ∧ Fr hB C h' m' ∧ News hB C h' (mu' ++ (tl ++ R)) ∧ adrs mu' = adrs mu ∧ Abv (mu ++ R) tl ∧ J mu' (tl ++ Z)

theorem cmp_core {elt : PySem.Expr} {gens : List Comprehension} {scope : Scope} {pos pos' : Pos} {depth : Nat} {acc : Value} {cenv : Env} {B : Sem Unit} {R' : Result → Shared → Prop}
    {I : Addr} {ws : List (Addr × String)} {keep : Led} {xs : List Itm} {m : Str → Option Value} {mu Z : Led} (J : List Itm → Led → Led → Prop)
    (hden : compTurn (.ListComp elt gens scope pos) depth (.ref I) acc cenv = (standAt pos' >>= fun _ => pyNext (.ref I) >>= fun r => match r with
      | none => pure (.done .next)
      | some v => letOwnedTupleGo target (.ref I) v >>= fun _ => assign target cenv v >>= fun _ => B >>= fun _ => again (.compLoop (.ListComp elt gens scope pos) depth (.ref I) acc cenv)))
    (S : Src prog w A hB target I ws keep xs s.heap) (F : Fr hB cenv.locals s.heap m) (N : News hB cenv.locals s.heap (mu ++ Z)) (hw : ∀ p ∈ mu ++ Z, p.1 ∉ ws.map (·.1)) (hz : ∀ p ∈ Z, p.1 ∉ adrs mu) (hk : ∀ p ∈ keep, p ∈ Z) (hL : cenv.locals ∉ ws.map (·.1)) (h0 : J xs mu Z)
    (turn : ∀ a r m mu' Z' R v h tk, J (a :: r) mu' Z' → a.Is v h → adrs mu' = adrs mu → (∀ p ∈ Z', p ∈ R) → (∀ p ∈ R, p.1 ∉ adrs mu) → Fr hB cenv.locals h m → News hB cenv.locals h (mu' ++ R) →
      wpAny (model prog w) A (assign target cenv v) (fun _ s₂ => wpAny (model prog w) A B (fun _ s₃ => BEnd hB cenv.locals mu' R Z' (J r) { s with heap := h, toks := tk } s₃) (fun _ _ => False) s₂) (fun _ _ => False) { s with heap := h, toks := tk })
    (done : ∀ m mu' Z' h tk, J [] mu' Z' → adrs mu' = adrs mu → (∀ p ∈ Z', p.1 ∉ adrs mu) → Fr hB cenv.locals h m → News hB cenv.locals h (mu' ++ Z') → R' (.ok .next) { s with heap := h, toks := tk }) :
    codeAny (model prog w) A (.compLoop (.ListComp elt gens scope pos) depth (.ref I) acc cenv) R' s := by
  refine el_EEEEEEAAAAAAAA ?_ (S); rintro fp wr n P Md St W hn hP hobj hws hwr hfp hst _
  have hLf : cenv.locals ∉ fp := fun hm => by
    rcases hfp _ hm with h | ⟨o, h⟩
    · exact hL h
    · exact (N _ (List.mem_append_right _ (hk _ h))).2.1 rfl
  have hLw : cenv.locals ∉ wr := fun h => hLf (W.sub _ h)
  have old : ∀ b o, hB.get? b = some o → b ∉ wr := fun b o e hb => by rw [(hws b (hwr b hb)).2] at e; cases e
  refine codeAny_loop rfl (fun k s' => ∃ h' tk m' mu' Z' i, s' = { s with heap := h', toks := tk } ∧ St i h' ∧ Fr hB cenv.locals h' m' ∧ News hB cenv.locals h' (mu' ++ Z') ∧ adrs mu' = adrs mu ∧ (∀ p ∈ mu' ++ Z', p.1 ∉ ws.map (·.1)) ∧ (∀ p ∈ Z', p.1 ∉ adrs mu) ∧
    (∀ p ∈ keep, p ∈ Z') ∧ J (xs.drop i) mu' Z' ∧ i ≤ n ∧ k = n + 1 - i) ?_ (n + 1) (mk_EEEEEEAAAAAAAAAA s.heap s.toks m mu Z 0 rfl hst F N rfl hw hz hk (by rw [List.drop_zero]; exact h0) (Nat.zero_le _) rfl)
  rintro k s'; refine el_EEEEEEAAAAAAAAAA ?_; rintro h' tk m' mu' Z' i rfl hst' F' N' ha hw' hz' hk' hJ hi rfl
  show wpAny _ _ ((compTurn (.ListComp elt gens scope pos) depth (.ref I) acc cenv).onRaise (fun x => do noteFrame x cenv; theTreesLotGoes x)) _ _ _
  refine wpAny_onRaise (wpAny_mono (Q := _) (E := fun _ _ => False) ?_ (fun _ _ q => q) fun _ _ x => x.elim)
  rw [hden]
  refine wpAny_bind (wpAny_standAt (wpAny_bind ?_))
  have next : ∀ h₁ : Heap, (∀ b o, b ∉ wr → h'.get? b = some o → h₁.get? b = some o) → Fr hB cenv.locals h₁ m' ∧ News hB cenv.locals h₁ (mu' ++ Z') := fun h₁ hk₁ =>
    ⟨⟨F'.ns.at' fun o e => hk₁ _ o hLw e, fun b o e => hk₁ b o (old b o e) (F'.keep b o e), F'.above⟩, fun p hp => ⟨hk₁ _ _ (fun hm => hw' p hp (hwr _ hm)) (N' p hp).1, (N' p hp).2⟩⟩
  by_cases hlt : i < n
  · refine W.item i _ _ _ hlt hst' fun v h₁ tk₁ hMd hk₁ => ?_
    refine wpAny_bind (W.go i v _ _ _ hMd fun h₂ hPv hst₂ hk₂ => ?_)
    obtain ⟨F₂, N₂⟩ := next h₂ fun b o hb x => hk₂ b o hb (hk₁ b o hb x)
    refine el_EA ?_ (hP i v h₂ hPv); rintro a hxa hav
    have hdrop : xs.drop i = a :: xs.drop (i + 1) := by
      have hil : i < xs.length := by omega
      rw [List.drop_eq_getElem_cons hil]
      rw [List.getElem?_eq_getElem hil] at hxa
      rw [Option.some.inj hxa]
    rw [hdrop] at hJ
    have Nown : News hB cenv.locals h₂ (PyProof.Rows.ownOf hB fp h₂) := news_ownOf hLf
    have hown : ∀ p ∈ PyProof.Rows.ownOf hB fp h₂, p.1 ∉ adrs mu := fun p hp hm => by
      rcases hfp _ (ownOf_sub p hp) with h | ⟨o, h⟩
      · rw [← ha] at hm
        refine el_EA ?_ (List.mem_map.mp hm); rintro q hq e
        exact hw' q (List.mem_append_left _ hq) (e ▸ h)
      · exact hz' _ (hk' _ h) hm
    have NR : News hB cenv.locals h₂ (mu' ++ (PyProof.Rows.ownOf hB fp h₂ ++ Z')) := fun p hp => by
      rcases List.mem_append.mp hp with hp | hp
      · exact N₂ p (List.mem_append_left _ hp)
      · rcases List.mem_append.mp hp with hp | hp
        · exact Nown p hp
        · exact N₂ p (List.mem_append_right _ hp)
    refine wpAny_bind (wpAny_mono (turn a _ m' mu' Z' (PyProof.Rows.ownOf hB fp h₂ ++ Z') v h₂ tk₁ hJ hav ha (fun p hp => List.mem_append_right _ hp) (fun p hp => (List.mem_append.mp hp).elim (hown p) (hz' p)) F₂ NR) (fun _ s₂ q => wpAny_bind (wpAny_mono q (fun _ s₃ t => ?_) fun _ _ x => x)) fun _ _ x => x)
    refine el_EEEEEAAAAA ?_ (t); rintro tl mu'' m₃ h₃ tk₃ rfl F₃ N₃ ea ab hJ₃
    have hwsOwn : ∀ b ∈ ws.map (·.1), ∃ o, (b, o) ∈ PyProof.Rows.ownOf hB fp h₂ := fun b hb => by
      refine el_EA ?_ (hobj _ _ hst₂); rintro its ho hg
      rw [← ho.map] at hb
      refine el_EA ?_ (List.mem_map.mp hb); rintro q hq e
      have hb' : q.1 ∈ ws.map (·.1) := ho.map ▸ List.mem_map_of_mem hq
      exact ⟨q.2, e ▸ mem_ownOf (hws _ hb').1 (hws _ hb').2 (hg q hq)⟩
    refine wpAny_pure (mk_AEAEEEEEEAAAAAAAAAA rfl (n + 1 - (i + 1)) (by omega) h₃ tk₃ m₃ mu'' (tl ++ Z') (i + 1) rfl ?_ F₃ (fun p hp => N₃ p ?_) (ea.trans ha) (fun p hp hm => ?_) (fun p hp hm => ?_) (fun p hp => List.mem_append_right _ (hk' p hp)) hJ₃ hlt rfl)
    · refine W.frame _ _ _ hst₂ fun b hb o e => ?_
      cases hnb : hB.get? b with
      | some o₀ =>
        have : o₀ = o := by have q := F₂.keep b o₀ hnb; rw [e] at q; exact (Option.some.inj q).symm
        exact this ▸ F₃.keep b o₀ hnb
      | none => exact (N₃ _ (List.mem_append_right _ (List.mem_append_right _ (List.mem_append_left _ (mem_ownOf hb hnb e))))).1
    · rcases List.mem_append.mp hp with hp | hp
      · exact List.mem_append_left _ hp
      · rcases List.mem_append.mp hp with hp | hp
        · exact List.mem_append_right _ (List.mem_append_left _ hp)
        · exact List.mem_append_right _ (List.mem_append_right _ (List.mem_append_right _ hp))
    · rcases List.mem_append.mp hp with hp | hp
      · exact notIn_of_adrs ea (fun q hq => hw' q (List.mem_append_left _ hq)) p hp hm
      · rcases List.mem_append.mp hp with hp | hp
        · obtain ⟨o, ho⟩ := hwsOwn _ hm
          exact Nat.lt_irrefl _ (ab _ (List.mem_append_right _ (List.mem_append_left _ ho)) p hp)
        · exact hw' p (List.mem_append_right _ hp) hm
    · rcases List.mem_append.mp hp with hp | hp
      · rw [← ha] at hm
        refine el_EA ?_ (List.mem_map.mp hm); rintro q hq e'
        exact Nat.lt_irrefl _ (e' ▸ ab q (List.mem_append_left _ hq) p hp)
      · exact hz' p hp hm
  · have hin : i = n := by omega
    subst hin
    refine W.done _ _ _ hst' fun h₁ tk₁ hk₁ => ?_
    obtain ⟨F₁, N₁⟩ := next h₁ hk₁
    have hJ' : J [] mu' Z' := by
      have e : xs.drop i = [] := List.drop_eq_nil_of_le (by omega)
      rw [e] at hJ; exact hJ
    exact wpAny_pure (done m' mu' Z' h₁ tk₁ hJ' ha hz' F₁ N₁)
end
open PySem PySem.Calls PySem.W PyProof.Rows
set_option Elab.async false
set_option maxRecDepth 100000
set_option linter.unusedVariables false
section
variable {prog : Program} {w : World} {A : Around} {E : Value → Shared → Prop} {s : Shared} {L : Addr} {hB : Heap} {target : PySem.Expr} {Q : Value → Shared → Prop} {m : Str → Option Value} {news : Led}
theorem freshAt (F : Fr hB L s.heap m) {b : Addr} (h : s.heap.objs.size ≤ b) : hB.get? b = none := by
  cases e : hB.get? b with
  | none => rfl
  | some o => exact absurd (Heap.lt_size (F.keep _ _ e)) (Nat.not_lt.mpr h)

theorem src_list {l : Addr} {vs : List Value} {nn : Nat} (hh : A.handled = none) (F : Fr hB L s.heap m) (N : News hB L s.heap news) (hl : (l, listOf vs.toArray nn) ∈ news)
    (h : ∀ I h', Src prog w A hB target I [(I, "list_iterator")] [(l, listOf vs.toArray nn)] (vs.map .val) h' → Fr hB L h' m → News hB L h' news → (∀ p ∈ news, p.1 < I) → L < I → I < h'.objs.size → Q (.ref I) { s with heap := h' }) :
    wpAny (model prog w) A (pyIter (.ref l)) Q E s := by
  have hax := N _ hl
  have hL : s.heap.IsList l vs.toArray := (mk_EAAE _ hax.1 rfl nn rfl)
  have hne : l ≠ s.heap.objs.size := Nat.ne_of_lt (Heap.lt_size hax.1)
  refine wpAny_pyIter_list hL (h s.heap.objs.size _ ?_ (F.push _) (fun p hp => ⟨Heap.get?_push_of_some _ (N p hp).1, (N p hp).2⟩) (fun p hp => Heap.lt_size (N p hp).1) F.ns.lt (by rw [Heap.size_push]; exact Nat.lt_succ_self _))
  refine (mk_EEEEEEAAAAAAAA _ _ _ _ _ _ (KTurns.ofWalks (Walks.list hh s.heap.objs.size l hne vs.toArray) fun i v s Q E st q => letGo_listiter st.1 q) (by simp) (fun i v h hp => (mk_EA (.val v) ?_ rfl)) (fun i h st => ?_) (fun b hb => ?_) (fun b hb => by simpa using hb) (fun b hb => ?_) (⟨(mk_EAA _ (Heap.get?_push_size _ rfl) rfl rfl), hL.at fun o e => Heap.get?_push_of_some _ e⟩) (fun s Q E st q => (Walks.list hh _ l hne vs.toArray).self 0 s Q E st q))
  · have hp' : vs.toArray[i]? = some v := hp
    simpa using hp'
  · refine el_EAA ?_ (st.1); rintro it hit hic _
    exact (mk_EA ([(s.heap.objs.size, it)]) (⟨⟨rfl, hic⟩, trivial⟩) (fun p hp => by rw [List.mem_singleton.mp hp]; exact hit))
  · have hb' : b = s.heap.objs.size := by simpa using hb
    rw [hb']
    exact ⟨List.mem_cons_self .., freshAt F (Nat.le_refl _)⟩
  · have hb' : b = s.heap.objs.size ∨ b = l := by simpa using hb
    rcases hb' with e | e
    · exact .inl (by simp [e])
    · exact .inr ⟨_, by rw [e]; exact .head _⟩

theorem src_tuple {l : Addr} {vs : List Value} {nn : Nat} (hh : A.handled = none) (F : Fr hB L s.heap m) (N : News hB L s.heap news) (hl : (l, ({ cls := .type "tuple", data := .seq vs.toArray nn } : Obj)) ∈ news)
    (h : ∀ I h', Src prog w A hB target I [(I, "tuple_iterator")] [(l, ({ cls := .type "tuple", data := .seq vs.toArray nn } : Obj))] (vs.map .val) h' → Fr hB L h' m → News hB L h' news → (∀ p ∈ news, p.1 < I) → L < I → I < h'.objs.size → Q (.ref I) { s with heap := h' }) :
    wpAny (model prog w) A (pyIter (.ref l)) Q E s := by
  have hax := N _ hl
  have hL : s.heap.IsTuple l vs.toArray := (mk_EAAE _ hax.1 rfl nn rfl)
  have hne : l ≠ s.heap.objs.size := Nat.ne_of_lt (Heap.lt_size hax.1)
  refine wpAny_pyIter_tuple hL (h s.heap.objs.size _ ?_ (F.push _) (fun p hp => ⟨Heap.get?_push_of_some _ (N p hp).1, (N p hp).2⟩) (fun p hp => Heap.lt_size (N p hp).1) F.ns.lt (by rw [Heap.size_push]; exact Nat.lt_succ_self _))
  refine (mk_EEEEEEAAAAAAAA _ _ _ _ _ _ (KTurns.ofWalks (Walks.tuple hh s.heap.objs.size l hne vs.toArray) fun i v s Q E st q => letGo_tupleiter st.1 q) (by simp) (fun i v h hp => (mk_EA (.val v) ?_ rfl)) (fun i h st => ?_) (fun b hb => ?_) (fun b hb => by simpa using hb) (fun b hb => ?_) (⟨(mk_EAA _ (Heap.get?_push_size _ rfl) rfl rfl), hL.at fun o e => Heap.get?_push_of_some _ e⟩) (fun s Q E st q => (Walks.tuple hh _ l hne vs.toArray).self 0 s Q E st q))
  · have hp' : vs.toArray[i]? = some v := hp
    simpa using hp'
  · refine el_EAA ?_ (st.1); rintro it hit hic _
    exact (mk_EA ([(s.heap.objs.size, it)]) (⟨⟨rfl, hic⟩, trivial⟩) (fun p hp => by rw [List.mem_singleton.mp hp]; exact hit))
  · have hb' : b = s.heap.objs.size := by simpa using hb
    rw [hb']
    exact ⟨List.mem_cons_self .., freshAt F (Nat.le_refl _)⟩
  · have hb' : b = s.heap.objs.size ∨ b = l := by simpa using hb
    rcases hb' with e | e
    · exact .inl (by simp [e])
    · exact .inr ⟨_, by rw [e]; exact .head _⟩

def rangeItms (n : Nat) : List Itm := (List.range n).map fun (i : Nat) => Itm.tok fun t => .int (i : Int) t
theorem src_range {x : Str} {px : Pos} {n : Nat} {t : Tok} (hh : A.handled = none) (hn : n < 1048576) (F : Fr hB L s.heap m) (N : News hB L s.heap news)
    (h : ∀ I h' tk, Src prog w A hB (.Name x px) I [(I, "range_iterator")] [] (rangeItms n) h' → Fr hB L h' m → News hB L h' news → (∀ p ∈ news, p.1 < I) → L < I → I < h'.objs.size → Q (.ref I) { s with heap := h', toks := tk }) :
    wpAny (model prog w) A (call (.type "range") [.int (n : Int) t]) (fun xv s₁ => wpAny (model prog w) A (pyIter xv) Q E s₁) E s := by
  refine call_range_1 ?_
  have hs : Builtin.Range.small 0 (n : Int) 1 = true := small_one (by decide) (by decide) (by omega) (by omega)
  refine wpAny_pyIter_range (IsRange.new _ _ _ _ _ _ _) hs ?_
  have F' := (F.push { cls := .type "range", data := .fields #[.int 0 s.toks, .int (n : Int) t, .int 1 (s.toks + 1)] })
  have N' : News hB L (s.heap.push { cls := .type "range", data := .fields #[.int 0 s.toks, .int (n : Int) t, .int 1 (s.toks + 1)] }) news := fun p hp => ⟨Heap.get?_push_of_some _ (N p hp).1, (N p hp).2⟩
  have hz : Builtin.Range.rangeSize 0 (n : Int) 1 = (n : Int) := by rw [rangeSize_one]; split <;> omega
  refine h _ _ _ ?_ (F'.push _) (fun p hp => ⟨Heap.get?_push_of_some _ (N' p hp).1, (N' p hp).2⟩) (fun p hp => Heap.lt_size (N' p hp).1) F'.ns.lt (Nat.lt_of_lt_of_le (Nat.lt_succ_self _) (Nat.le_of_eq (Heap.size_push _ _).symm))
  refine (mk_EEEEEEAAAAAAAA _ _ _ _ _ _ (KTurns.ofWalks ((Walks.range hh _ 0 1 n).bound) (fun i v s Q E st q => wpAny_pure q)) (by simp [rangeItms]) (fun i v h hp => ?_) (fun i h st => ?_) (fun b hb => ?_) (fun b hb => by simpa using hb) (fun b hb => .inl (by simpa using hb)) ?_ (fun s Q E st q => ((Walks.range hh _ 0 1 n).bound).self 0 s Q E st q))
  · refine el_AE ?_ (hp); rintro hi t' rfl
    have e : (0 : Int) + (i : Int) * 1 = (i : Int) := by omega
    rw [e]
    exact ⟨Itm.tok fun t => .int (i : Int) t, by simp [rangeItms, hi], t', rfl⟩
  · exact (mk_EA ([(_, _)]) (⟨⟨rfl, rfl⟩, trivial⟩) (fun p hp => by rw [List.mem_singleton.mp hp]; exact st))
  · have hb' : b = (s.heap.push { cls := .type "range", data := .fields #[.int 0 s.toks, .int (n : Int) t, .int 1 (s.toks + 1)] }).objs.size := by simpa using hb
    subst hb'
    exact ⟨List.mem_cons_self .., freshAt (s := { s with heap := _ }) F' (Nat.le_refl _)⟩
  · show IsRangeIter _ _ _ _ _
    rw [hz]
    have := Heap.get?_push_size (s.heap.push { cls := .type "range", data := .fields #[.int 0 s.toks, .int (n : Int) t, .int 1 (s.toks + 1)] }) (o := { cls := .type "range_iterator", data := .fields #[rawInt 0, rawInt (n : Int), rawInt 1] }) rfl
    simpa using this

theorem src_enum {elts : List PySem.Expr} {k : Nat} {pos : Pos} {l : Addr} {vs : List Value} {nn : Nat} (hh : A.handled = none) (F : Fr hB L s.heap m) (N : News hB L s.heap news) (hl : (l, listOf vs.toArray nn) ∈ news)
    (h : ∀ I h' tk, Src prog w A hB (.Tuple elts k pos) (I + 1) [(I + 1, "enumerate"), (I, "list_iterator")] [(l, listOf vs.toArray nn)] (enumItems 0 vs) h' → Fr hB L h' m → News hB L h' news → (∀ p ∈ news, p.1 < I) → L < I → I + 1 < h'.objs.size → Q (.ref (I + 1)) { s with heap := h', toks := tk }) :
    wpAny (model prog w) A (call (.type "enumerate") [.ref l]) (fun xv s₁ => wpAny (model prog w) A (pyIter xv) Q E s₁) E s := by
  have hax := N _ hl
  have hL : s.heap.IsList l vs.toArray := (mk_EAAE _ hax.1 rfl nn rfl)
  have hlt : l < s.heap.objs.size := Heap.lt_size hax.1
  refine call_enumerate_list hL fun h' hE hI hsz hk => ?_
  refine wpAny_pyIter_enum hE ?_
  refine h s.heap.objs.size h' s.toks ?_ (F.keeps hk) (N.grown hk) (fun p hp => Heap.lt_size (N p hp).1) F.ns.lt (Heap.lt_size hE)
  refine (mk_EEEEEEAAAAAAAA _ _ _ _ _ _ (KTurns.ofWalksU (WalksT.enumerate hh (s.heap.objs.size + 1) s.heap.objs.size l (Nat.succ_ne_self _) (ktu_ne 1 hlt) (Nat.ne_of_lt hlt) vs.toArray).toU) (by simp [enumItems_length]) ?_ ?_ ?_ ?_ ?_ ((mk_AA (⟨.none, hE⟩) hI (hL.at fun o e => hk l o e))) (fun s Q E st q => by
    obtain ⟨⟨old, he⟩, _⟩ := st
    exact wpAny_pyIter_enum he q))
  · rintro i v h; refine el_EEAA ?_; rintro T vals rfl ⟨t, x, hx, rfl⟩ hT
    refine ⟨_, enumItems_get vs 0 i (v := x) (by simpa using hx), T, t, rfl, ?_⟩
    show IsTup h T #[.int ((0 + i : Nat) : Int) t, x]
    rw [Nat.zero_add]
    exact hT
  · rintro i h; refine el_AA ?_; rintro ⟨old, he⟩ ⟨oi, hoi, hic, _⟩ _
    have he' : ∃ oe : Obj, h.get? (s.heap.objs.size + 1) = some oe ∧ oe.cls = .type "enumerate" := (mk_EA _ he rfl)
    refine el_EA ?_ (he'); rintro oe h1 h2
    refine (mk_EA ([(s.heap.objs.size + 1, oe), (s.heap.objs.size, oi)]) ((mk_AA (⟨rfl, h2⟩) (⟨rfl, hic⟩) trivial)) (fun p hp => ?_))
    rcases List.mem_cons.mp hp with rfl | hp
    · exact h1
    · rw [List.mem_singleton.mp hp]; exact hoi
  · intro b hb
    have hb' : b = s.heap.objs.size + 1 ∨ b = s.heap.objs.size := by simpa using hb
    rcases hb' with rfl | rfl
    · exact ⟨by simp, freshAt F (Nat.le_add_right _ _)⟩
    · exact ⟨by simp, freshAt F (Nat.le_refl _)⟩
  · intro b hb
    simpa using hb
  · intro b hb
    have hb' : b = s.heap.objs.size + 1 ∨ b = s.heap.objs.size ∨ b = l := by simpa using hb
    rcases hb' with rfl | rfl | rfl
    · exact .inl (by simp)
    · exact .inl (by simp)
    · exact .inr ⟨_, .head _⟩
end
open PySem PySem.Calls PySem.W PyProof.Rows
set_option Elab.async false
set_option maxRecDepth 100000
set_option linter.unusedVariables false
theorem abv_adrs {mu mu' R tl : Led} (e : adrs mu' = adrs mu) (h : Abv (mu ++ R) tl) : Abv (mu' ++ R) tl := fun q hq p hp => by
  rcases List.mem_append.mp hq with hq | hq
  · have : q.1 ∈ adrs mu := e ▸ List.mem_map_of_mem hq
    refine el_EA ?_ (List.mem_map.mp this); rintro q' hq' e'
    exact e' ▸ h q' (List.mem_append_left _ hq') p hp
  · exact h q (List.mem_append_right _ hq) p hp
section
variable {prog : Program} {w : World} {A : Around} {s : Shared} {env : Env} {hB : Heap} {target : PySem.Expr} {body : List Stmt} {Q : Flow → Shared → Prop}

/-- a loop, what it makes told apart -/
theorem for_srcT {I : Addr} {ws : List (Addr × String)} {keep : Led} {xs : List Itm} {m : Str → Option Value} {mu Z : Led} (J : List Itm → (Str → Option Value) → Led → Led → Prop)
    (S : Src prog w A hB target I ws keep xs s.heap) (F : Fr hB env.locals s.heap m) (N : News hB env.locals s.heap (mu ++ Z)) (hw : ∀ p ∈ mu ++ Z, p.1 ∉ ws.map (·.1)) (hz : ∀ p ∈ Z, p.1 ∉ adrs mu) (hk : ∀ p ∈ keep, p ∈ Z) (hL : env.locals ∉ ws.map (·.1)) (h0 : J xs m mu [])
    (turn : ∀ a r m mu' T R v h tk, J (a :: r) m mu' T → a.Is v h → adrs mu' = adrs mu → Abv (mu ++ Z) T → (∀ p ∈ T ++ Z, p ∈ R) → (∀ p ∈ R, p.1 ∉ adrs mu) → Fr hB env.locals h m → News hB env.locals h (mu' ++ R) →
      wpAny (model prog w) A (assign target env v) (fun _ s₂ => wpAny (model prog w) A (execs body env) (TEnd hB env.locals mu' R T (J r) Q { s with heap := h, toks := tk }) (fun _ _ => False) s₂) (fun _ _ => False) { s with heap := h, toks := tk })
    (done : ∀ m mu' T h tk, J [] m mu' T → adrs mu' = adrs mu → Abv (mu ++ Z) T → Fr hB env.locals h m → News hB env.locals h (mu' ++ (T ++ Z)) → Q .next { s with heap := h, toks := tk }) :
    TurnsAt prog w A hB env target body Q (fun _ _ => False) (.ref I) s := by
  refine for_src (mu := mu) (Z := Z) (fun xs m mu' Z' => ∃ T, Z' = T ++ Z ∧ Abv (mu ++ Z) T ∧ J xs m mu' T) S F N hw hz hk hL (mk_EAA ([]) rfl Abv.nil h0) ?_ ?_
  · rintro a r m mu' Z' R v h tk; refine el_EAA ?_; rintro T rfl ab hJ hv ha hs ho F' N'
    refine wpAny_mono (turn a r m mu' T R v h tk hJ hv ha ab hs ho F' N') (fun _ s₂ q => wpAny_mono q (fun f s₃ t => ?_) fun _ _ x => x) fun _ _ x => x
    have fin : (∃ tl mu'' m' h' tk', s₃ = { ({ s with heap := h, toks := tk } : Shared) with heap := h', toks := tk' } ∧ Fr hB env.locals h' m' ∧ News hB env.locals h' (mu'' ++ (tl ++ R)) ∧ adrs mu'' = adrs mu' ∧ Abv (mu' ++ R) tl ∧ J r m' mu'' (tl ++ T)) →
        ∃ tl mu'' m' h' tk', s₃ = { ({ s with heap := h, toks := tk } : Shared) with heap := h', toks := tk' } ∧ Fr hB env.locals h' m' ∧ News hB env.locals h' (mu'' ++ (tl ++ R)) ∧ adrs mu'' = adrs mu' ∧ Abv (mu' ++ R) tl ∧ (∃ T', tl ++ (T ++ Z) = T' ++ Z ∧ Abv (mu ++ Z) T' ∧ J r m' mu'' T') := by
      refine el_EEEEEAAAAA ?_; rintro tl mu'' m' h' tk' e F2 N2 ea ab2 hJ2
      refine (mk_EEEEEAAAAAEAA tl mu'' m' h' tk' e F2 N2 ea ab2 (tl ++ T) ((List.append_assoc ..).symm) (Abv.app ((abv_adrs ha.symm ab2).sub fun p hp => ?_) ab) hJ2)
      rcases List.mem_append.mp hp with hp | hp
      · exact List.mem_append_left _ hp
      · exact List.mem_append_right _ (hs p (List.mem_append_right _ hp))
    cases f with
    | ret v => exact t
    | brk => exact t
    | next => exact fin t
    | cont => exact fin t
  · rintro m mu' Z' h tk; refine el_EAA ?_; rintro T rfl ab hJ ha _ F' N'
    exact done m mu' T h tk hJ ha ab F' N'
end

section
variable {prog : Program} {w : World} {A : Around} {s : Shared} {env : Env} {hB : Heap} {target : PySem.Expr}


theorem comp_block {B : Env → Value → Sem Unit} {elt : PySem.Expr} {gens : List Comprehension} {scope : Scope} {cl : List (Str × Addr)} {pos pos' : Pos} {RR : Value → Addr → Result → Shared → Prop}
    {I : Addr} {ws : List (Addr × String)} {keep : Led} {xs : List Itm} {m : Str → Option Value} {mu Z : Led} (J : List Itm → List Value → Led → Led → Prop)
    (hcell : ∀ y ∈ scope.names, y.2 ≠ .cell) (hkind : scope.kind = .function)
    (hstart : ∀ (it' acc : Value) (cenv : Env) (R : Result → Shared → Prop) (s : Shared), codeAny (model prog w) A (.compLoop (.ListComp elt gens scope pos) 0 it' acc cenv) R s → wpAny (model prog w) A (pyIter it') (fun it'' s' => codeAny (model prog w) A (.compLoop (.ListComp elt gens scope pos) 0 it'' acc cenv) R s') (notedBy (model prog w) A cenv fun x s' => R (.error x) s') s →
      codeAny (model prog w) A (.compStart (.ListComp elt gens scope pos) 0 it' acc cenv) R s)
    (hden : ∀ (I : Addr) (acc : Value) (cenv : Env), compTurn (.ListComp elt gens scope pos) 0 (.ref I) acc cenv = (standAt pos' >>= fun _ => pyNext (.ref I) >>= fun r => match r with
      | none => pure (.done .next)
      | some v => letOwnedTupleGo target (.ref I) v >>= fun _ => assign target cenv v >>= fun _ => B cenv acc >>= fun _ => again (.compLoop (.ListComp elt gens scope pos) 0 (.ref I) acc cenv)))
    (S : Src prog w A hB target I ws keep xs s.heap) (F : Fr hB env.locals s.heap m) (N : News hB env.locals s.heap (mu ++ Z)) (hw : ∀ p ∈ mu ++ Z, p.1 ∉ ws.map (·.1)) (hz : ∀ p ∈ Z, p.1 ∉ adrs mu) (hk : ∀ p ∈ keep, p ∈ Z) (hLw : env.locals ∉ ws.map (·.1)) (h0 : J xs [] mu [])
    (turn : ∀ a r acc C D m' mu' T R v h tk, J (a :: r) acc mu' T → a.Is v h → adrs mu' = adrs mu → Abv (mu ++ Z) T → (∀ p ∈ T ++ Z, p ∈ R) → (∀ p ∈ R, p.1 ∉ D :: adrs mu) → (∀ p ∈ mu', p.1 < D) →
      Fr hB C h m' → News hB C h (((D, listOf acc.toArray acc.length) :: mu') ++ R) →
      wpAny (model prog w) A (assign target (compEnvC scope cl C env) v) (fun _ s₂ => wpAny (model prog w) A (B (compEnvC scope cl C env) (.ref D))
        (fun _ s₃ => BEnd hB C ((D, listOf acc.toArray acc.length) :: mu') R T (fun mu₃ T' => ∃ acc' mu₄, mu₃ = (D, listOf acc'.toArray acc'.length) :: mu₄ ∧ J r acc' mu₄ T') { s with heap := h, toks := tk } s₃) (fun _ _ => False) s₂) (fun _ _ => False) { s with heap := h, toks := tk })
    (hRR : ∀ acc D C mu' T h tk m' oL, J [] acc mu' T → adrs mu' = adrs mu → Abv (mu ++ Z) T → (∀ p ∈ mu ++ Z, p.1 < D) → (∀ p ∈ T, p.1 ≠ D) → Fr hB C h m' → News hB C h ((env.locals, oL) :: (D, listOf acc.toArray acc.length) :: (mu' ++ (T ++ Z))) → NsObj oL m →
      (∀ p ∈ (D, listOf acc.toArray acc.length) :: (mu' ++ (T ++ Z)), p.1 ≠ env.locals) → RR (.ref D) C (.ok .next) { s with heap := h, toks := tk }) :
    wpAny (model prog w) A (newList []) (fun acc s₃ => wpAny (model prog w) A (newFunctionEnv scope env.globals cl [] env.qual none .none (some env)) (fun cenv s₄ =>
      codeAny (model prog w) A (.compStart (.ListComp elt gens scope pos) 0 (.ref I) acc { cenv with scope := relabel scope env }) (RR acc cenv.locals) s₄) (fun _ _ => False) s₃) (fun _ _ => False) s := by
  have hI := S.news
  refine wpAny_newObj_type (wpAny_newFunctionEnv hcell (by intro y hy; simp at hy) (fun h₂ hns hsb => ?_) hkind)
  dsimp only at hns hsb ⊢
  have FD := F.push { cls := .type "list", data := .seq ([] : List Value).toArray }
  have hDs : (s.heap.push { cls := .type "list", data := .seq ([] : List Value).toArray }).objs.size = s.heap.objs.size + 1 := Heap.size_push ..
  have keep₁ : ∀ b o, (s.heap.push { cls := .type "list", data := .seq ([] : List Value).toArray }).get? b = some o → h₂.get? b = some o := fun b o e => hsb.extBut b o (Nat.ne_of_lt (Heap.lt_size e)) (Heap.get?_push_of_some _ e)
  have keep₀ : ∀ b o, s.heap.get? b = some o → h₂.get? b = some o := fun b o e => keep₁ b o (Heap.get?_push_of_some _ e)
  refine el_EEEAAA ?_ (id F.ns); rintro oL es ep hL hLd hLk hLf
  have hLs := Heap.lt_size hL
  have lt : ∀ p ∈ mu ++ Z, p.1 < s.heap.objs.size := fun p hp => Heap.lt_size (N p hp).1
  have FC : Fr hB (s.heap.push { cls := .type "list", data := .seq ([] : List Value).toArray }).objs.size h₂ _ := ⟨hns, fun b o e => keep₀ b o (F.keep b o e), by rw [hDs]; exact Nat.le_of_lt (Nat.lt_succ_of_lt (Nat.lt_of_le_of_lt F.above hLs))⟩
  have fresh : ∀ b, s.heap.objs.size ≤ b → hB.get? b = none := fun b hb => freshAt F hb
  have NC : News hB (s.heap.push { cls := .type "list", data := .seq ([] : List Value).toArray }).objs.size h₂ (((s.heap.objs.size, listOf ([] : List Value).toArray 0) :: mu) ++ ((env.locals, oL) :: Z)) := by
    intro p hp
    rcases List.mem_append.mp hp with hp | hp
    · rcases List.mem_cons.mp hp with rfl | hp
      · exact (mk_AA (keep₁ _ _ (Heap.get?_push_size _ rfl)) (by rw [hDs]; exact Nat.ne_of_lt (Nat.lt_succ_self _)) (fresh _ (Nat.le_refl _)))
      · have q := N p (List.mem_append_left _ hp)
        exact (mk_AA (keep₀ _ _ q.1) (by rw [hDs]; exact Nat.ne_of_lt (Nat.lt_succ_of_lt (Heap.lt_size q.1))) q.2.2)
    · rcases List.mem_cons.mp hp with rfl | hp
      · refine (mk_AA (keep₀ _ _ hL) (by rw [hDs]; exact Nat.ne_of_lt (Nat.lt_succ_of_lt hLs)) ?_)
        cases e : hB.get? env.locals with
        | none => rfl
        | some o => exact absurd (Nat.lt_of_lt_of_le (Heap.lt_size e) F.above) (Nat.lt_irrefl _)
      · have q := N p (List.mem_append_right _ hp)
        exact (mk_AA (keep₀ _ _ q.1) (by rw [hDs]; exact Nat.ne_of_lt (Nat.lt_succ_of_lt (Heap.lt_size q.1))) q.2.2)
  have S₂ : Src prog w A hB target I ws keep xs h₂ := S.at keep₀
  have loop : ∀ s₃ : Shared, s₃ = { s with heap := h₂, toks := s.toks + ([] : List (Str × Value)).length } →
      codeAny (model prog w) A (.compLoop (.ListComp elt gens scope pos) 0 (.ref I) (.ref s.heap.objs.size) (compEnvC scope cl (s.heap.push { cls := .type "list", data := .seq ([] : List Value).toArray }).objs.size env))
        (RR (.ref s.heap.objs.size) (s.heap.push { cls := .type "list", data := .seq ([] : List Value).toArray }).objs.size) s₃ := by
    rintro s₃ rfl
    generalize hCg : (s.heap.push { cls := .type "list", data := .seq ([] : List Value).toArray }).objs.size = C at FC NC hDs ⊢
    generalize hDg : s.heap.objs.size = D at NC hDs lt hI hLs ⊢
    refine cmp_core (s := { s with heap := h₂, toks := s.toks + ([] : List (Str × Value)).length }) (cenv := compEnvC scope cl C env) (keep := keep) (xs := xs) (mu := (D, listOf ([] : List Value).toArray 0) :: mu) (Z := (env.locals, oL) :: Z)
      (fun xs mu₀ Z₀ => ∃ acc mu' T, mu₀ = (D, listOf acc.toArray acc.length) :: mu' ∧ Z₀ = T ++ ((env.locals, oL) :: Z) ∧ Abv ((env.locals, oL) :: (mu ++ Z)) T ∧ J xs acc mu' T) (hden I _ _) S₂ FC NC ?_ ?_ ?_ ?_ (mk_EEEAAA ([]) mu ([]) rfl rfl Abv.nil h0) ?_ ?_
    · intro p hp hm
      rcases List.mem_append.mp hp with hp | hp
      · rcases List.mem_cons.mp hp with rfl | hp
        · exact Nat.lt_irrefl _ (hI _ hm)
        · exact hw p (List.mem_append_left _ hp) hm
      · rcases List.mem_cons.mp hp with rfl | hp
        · exact hLw hm
        · exact hw p (List.mem_append_right _ hp) hm
    · intro p hp hm
      rcases List.mem_cons.mp hm with e | hm
      · have : p.1 < D := by
          rcases List.mem_cons.mp hp with rfl | hp
          · exact hLs
          · exact lt p (List.mem_append_right _ hp)
        exact Nat.ne_of_lt this e
      · rcases List.mem_cons.mp hp with rfl | hp
        · refine el_EA ?_ (List.mem_map.mp hm); rintro q hq e
          exact (N q (List.mem_append_left _ hq)).2.1 e
        · exact hz p hp hm
    · exact fun p hp => .tail _ (hk p hp)
    · intro hm
      have h1 : C < D := hI _ hm
      exact absurd h1 (by rw [hDs]; exact Nat.not_lt.mpr (Nat.le_succ D))
    · rintro a r m' mu₀ Z₀ R v h tk; refine el_EEEAAA ?_; rintro acc mu' T rfl rfl ab hJ hv ha hs ho F' N'
      have ha' : adrs mu' = adrs mu := (List.cons.inj ha).2
      have hlD : ∀ p ∈ mu', p.1 < D := fun p hp => by
        have : p.1 ∈ adrs mu := ha' ▸ List.mem_map_of_mem hp
        refine el_EA ?_ (List.mem_map.mp this); rintro q hq e
        exact e ▸ lt q (List.mem_append_left _ hq)
      have hsT : ∀ p ∈ T ++ Z, p ∈ R := fun p hp => hs p (by
        rcases List.mem_append.mp hp with hp | hp
        · exact List.mem_append_left _ hp
        · exact List.mem_append_right _ (.tail _ hp))
      refine wpAny_mono (turn a r acc C D m' mu' T R v h tk hJ hv ha' (ab.sub fun p hp => .tail _ hp) hsT ho hlD F' N') (fun _ s₂ q => wpAny_mono q (fun _ s₃ t => ?_) fun _ _ x => x) fun _ _ x => x
      refine el_EEEEEAAAAAEEA ?_ (t); rintro tl mu₃ m₃ h₃ tk₃ e F₃ N₃ ea ab₃ acc' mu₄ rfl hJ₃
      refine (mk_EEEEEAAAAAEEEAAA tl _ m₃ h₃ tk₃ e F₃ N₃ ea ab₃ acc' mu₄ (tl ++ T) rfl ((List.append_assoc ..).symm) (Abv.app ((abv_adrs (mu' := (D, listOf ([] : List Value).toArray 0) :: mu) ha.symm ab₃).sub fun p hp => ?_) ab) hJ₃)
      rcases List.mem_cons.mp hp with rfl | hp
      · exact List.mem_append_right _ (hs _ (List.mem_append_right _ (.head _)))
      · rcases List.mem_append.mp hp with hp | hp
        · exact List.mem_append_left _ (.tail _ hp)
        · exact List.mem_append_right _ (hsT p (List.mem_append_right _ hp))
    · rintro m' mu₀ Z₀ h tk; refine el_EEEAAA ?_; rintro acc mu' T rfl rfl ab hJ ha hzz F' N'
      have ha' : adrs mu' = adrs mu := (List.cons.inj ha).2
      have N2 : News hB C h ((env.locals, oL) :: (D, listOf acc.toArray acc.length) :: (mu' ++ (T ++ Z))) := fun p hp => N' p (by
        rcases List.mem_cons.mp hp with rfl | hp
        · exact List.mem_append_right _ (List.mem_append_right _ (.head _))
        · rcases List.mem_cons.mp hp with rfl | hp
          · exact List.mem_append_left _ (.head _)
          · rcases List.mem_append.mp hp with hp | hp
            · exact List.mem_append_left _ (.tail _ hp)
            · rcases List.mem_append.mp hp with hp | hp
              · exact List.mem_append_right _ (List.mem_append_left _ hp)
              · exact List.mem_append_right _ (List.mem_append_right _ (.tail _ hp)))
      refine hRR acc D C mu' T h tk m' oL hJ ha' (ab.sub fun p hp => .tail _ hp) lt (fun p hp e => hzz p (List.mem_append_left _ hp) (e ▸ List.mem_cons_self ..)) F' N2 (mk_EEAA es ep hLd hLk hLf) fun p hp => ?_
      rcases List.mem_cons.mp hp with rfl | hp
      · exact Nat.ne_of_gt hLs
      · rcases List.mem_append.mp hp with hp | hp
        · intro e
          have : p.1 ∈ adrs mu := ha' ▸ List.mem_map_of_mem hp
          refine el_EA ?_ (List.mem_map.mp this); rintro q hq e'
          exact (N q (List.mem_append_left _ hq)).2.1 (e'.trans e)
        · rcases List.mem_append.mp hp with hp | hp
          · exact Nat.ne_of_gt (ab _ (.head _) p hp)
          · exact (N p (List.mem_append_right _ hp)).2.1
  exact hstart _ _ _ _ _ (loop _ rfl) (S₂.self (s := { s with heap := h₂, toks := s.toks + ([] : List (Str × Value)).length }) (loop _ rfl))

def CEnd (hB : Heap) (C D : Addr) (acc : List Value) (mu R T : Led) (J : List Value → Led → Led → Prop) (s₁ : Shared) (x : Value) (s₂ : Shared) : Prop :=
  ∃ tl mu' m' h' tk', s₂ = { s₁ with heap := h', toks := tk' } ∧ Fr hB C h' m' ∧ News hB C h' (((D, listOf acc.toArray acc.length) :: mu') ++ (tl ++ R)) ∧ adrs mu' = adrs mu ∧ Abv (((D, listOf acc.toArray acc.length) :: mu) ++ R) tl ∧ J (acc ++ [x]) mu' (tl ++ T)

/-- what a comprehension of one clause asks where its source stands -/
def CompAt (prog : Program) (w : World) (A : Around) (hB : Heap) (env : Env) (scope : Scope) (cl : List (Str × Addr)) (target elt : PySem.Expr) (st : Value → (Str → Option Value) → Str → Option Value) (Q : Value → Shared → Prop) (it : Value) (s : Shared) : Prop :=
  ∃ (I : Addr) (ws : List (Addr × String)) (keep : Led) (xs : List Itm) (m : Str → Option Value) (mu Z : Led) (J : List Itm → List Value → Led → Led → Prop),
    it = .ref I ∧ xs.length ≤ 1000000 ∧ Src prog w A hB target I ws keep xs s.heap ∧ Fr hB env.locals s.heap m ∧ News hB env.locals s.heap (mu ++ Z) ∧ (∀ p ∈ mu ++ Z, p.1 ∉ ws.map (·.1)) ∧ (∀ p ∈ Z, p.1 ∉ adrs mu) ∧ (∀ p ∈ keep, p ∈ Z) ∧ env.locals ∉ ws.map (·.1) ∧ J xs [] mu [] ∧
    (∀ a r acc C D m' mu' T R v h tk, J (a :: r) acc mu' T → a.Is v h → adrs mu' = adrs mu → Abv (mu ++ Z) T → (∀ p ∈ T ++ Z, p ∈ R) → (∀ p ∈ R, p.1 ∉ D :: adrs mu) → (∀ p ∈ mu', p.1 < D) →
      Fr hB C h m' → News hB C h (((D, listOf acc.toArray acc.length) :: mu') ++ R) →
      wpAny (model prog w) A (assign target (compEnvC scope cl C env) v) (fun _ s₂ => wpAny (model prog w) A (eval elt (compEnvC scope cl C env)) (CEnd hB C D acc mu' R T (J r) { s with heap := h, toks := tk }) (fun _ _ => False) s₂) (fun _ _ => False) { s with heap := h, toks := tk }) ∧
    ∀ acc D mu' T h tk, J [] acc mu' T → adrs mu' = adrs mu → Abv (mu ++ Z) T → (∀ p ∈ mu ++ Z, p.1 < D) → (∀ p ∈ T, p.1 ≠ D) → Fr hB env.locals h (st (.ref D) m) → News hB env.locals h ((D, listOf acc.toArray acc.length) :: (mu' ++ (T ++ Z))) → Q (.ref D) { s with heap := h, toks := tk }

theorem comp_ran {st : Value → (Str → Option Value) → Str → Option Value} {iter elt : PySem.Expr} {scope : Scope} {cl : List (Str × Addr)} {pos : Pos} {RR : Value → Addr → Result → Shared → Prop} {Q : Value → Shared → Prop} {it : Value}
    (hcell : ∀ y ∈ scope.names, y.2 ≠ .cell) (hkind : scope.kind = .function)
    (hden : ∀ (I : Addr) (acc : Value) (cenv : Env), compTurn (.ListComp elt [⟨target, iter, [], 0⟩] scope pos) 0 (.ref I) acc cenv = (standAt iter.pos >>= fun _ => pyNext (.ref I) >>= fun r => match r with
      | none => pure (.done .next)
      | some v => letOwnedTupleGo target (.ref I) v >>= fun _ => assign target cenv v >>= fun _ => (eval elt cenv >>= fun x => call (.builtin "list.append") [acc, x] >>= fun _ => pure ()) >>= fun _ => again (.compLoop (.ListComp elt [⟨target, iter, [], 0⟩] scope pos) 0 (.ref I) acc cenv)))
    (hc : CompAt prog w A hB env scope cl target elt st Q it s)
    (hRR : ∀ D C h tk m m' oL led, Fr hB C h m' → News hB C h ((env.locals, oL) :: led) → NsObj oL m → hB.objs.size ≤ env.locals → (∀ p ∈ led, p.1 ≠ env.locals) → (∀ p ∈ led, p.1 ≠ C) →
      (∀ h' tk', Fr hB env.locals h' (st (.ref D) m) → News hB env.locals h' led → Q (.ref D) { s with heap := h', toks := tk' }) → RR (.ref D) C (.ok .next) { s with heap := h, toks := tk }) :
    wpAny (model prog w) A (newList []) (fun acc s₃ => wpAny (model prog w) A (newFunctionEnv scope env.globals cl [] env.qual none .none (some env)) (fun cenv s₄ =>
      codeAny (model prog w) A (.compStart (.ListComp elt [⟨target, iter, [], 0⟩] scope pos) 0 it acc { cenv with scope := relabel scope env }) (RR acc cenv.locals) s₄) (fun _ _ => False) s₃) (fun _ _ => False) s := by
  refine el_EEEEEEEEAAAAAAAAAAA ?_ (hc); rintro I ws keep xs m mu Z J rfl hx S F N hw hz hk hLw h0 turn done
  refine comp_block (fun xs' acc mu' T => acc.length + xs'.length = xs.length ∧ J xs' acc mu' T) hcell hkind (fun _ _ _ _ _ => codeAny_compStart_list) hden S F N hw hz hk hLw ⟨by simp, h0⟩ ?_ ?_
  · rintro a r acc C D m' mu' T R v h tk ⟨hlen, hJ⟩ hv ha ab hs ho hlD F' N'
    refine wpAny_mono (turn a r acc C D m' mu' T R v h tk hJ hv ha ab hs ho hlD F' N') (fun _ s₂ q => wpAny_bind (wpAny_mono q (fun x s₃ t => ?_) fun _ _ x => x)) fun _ _ x => x
    refine el_EEEEEAAAAA ?_ (t); rintro tl mu'' m₃ h₃ tk₃ rfl F₃ N₃ ea ab₃ hJ₃
    rw [List.cons_append] at N₃
    have hU : Upd D (listOf acc.toArray acc.length) (listOf (acc.toArray.push x) (acc.length + 1)) ((D, listOf acc.toArray acc.length) :: (mu'' ++ (tl ++ R))) ((D, listOf (acc.toArray.push x) (acc.length + 1)) :: (mu'' ++ (tl ++ R))) := by
      refine Upd.head fun p hp => ?_
      rcases List.mem_append.mp hp with hp | hp
      · have : p.1 ∈ adrs mu' := ea ▸ List.mem_map_of_mem hp
        refine el_EA ?_ (List.mem_map.mp this); rintro q hq e'
        exact e' ▸ Nat.ne_of_lt (hlD q hq)
      · rcases List.mem_append.mp hp with hp | hp
        · exact Nat.ne_of_gt (ab₃ _ (.head _) p hp)
        · exact fun e => ho p hp (e ▸ List.mem_cons_self ..)
    have hsz : acc.toArray.size ≤ sizeLine := by
      have h1 : acc.toArray.size = acc.length := List.size_toArray
      have h2 : sizeLine = 16777216 := rfl
      have h3 : (a :: r).length = r.length + 1 := List.length_cons
      omega
    refine wpAny_bind (append_K F₃ N₃ hU (fun h₄ F₄ N₄ => wpAny_pure ?_) hsz)
    have e1 : listOf (acc.toArray.push x) (acc.length + 1) = listOf (acc ++ [x]).toArray (acc ++ [x]).length := by
      rw [List.length_append, List.length_singleton, List.push_toArray]
    rw [e1] at N₄
    refine (mk_EEEEEAAAAAEEAA tl ((D, listOf (acc ++ [x]).toArray (acc ++ [x]).length) :: mu'') m₃ h₄ tk₃ rfl F₄ N₄ ?_ ab₃ (acc ++ [x]) mu'' rfl ?_ hJ₃)
    · show D :: adrs mu'' = D :: adrs mu'
      rw [ea]
    · rw [List.length_cons] at hlen
      rw [List.length_append, List.length_singleton]; omega
  · rintro acc D C mu' T h tk m' oL ⟨_, hJ⟩ ha ab hlD hTD F' N' hn hne
    exact hRR D C h tk m m' oL _ F' N' hn F.above hne (fun p hp => (N' p (.tail _ hp)).2.1) fun h' tk' F2 N2 => done acc D mu' T h' tk' hJ ha ab hlD hTD F2 N2

theorem comp_eval {iter elt : PySem.Expr} {scope : Scope} {cl : List (Str × Addr)} {pos : Pos} {Q : Value → Shared → Prop} {m₀ : Str → Option Value} (_F : Fr hB env.locals s.heap m₀)
    (hclos : closureFor scope env = pure cl) (hcell : ∀ y ∈ scope.names, y.2 ≠ .cell) (hkind : scope.kind = .function) (hnames : ∀ y ∈ scope.names, y.2 = .local → scope.names.lookup y.1 = some .local)
    (hs : ∀ x, foldedSetIterable iter env x = pure x)
    (hden : ∀ (I : Addr) (acc : Value) (cenv : Env), compTurn (.ListComp elt [⟨target, iter, [], 0⟩] scope pos) 0 (.ref I) acc cenv = (standAt iter.pos >>= fun _ => pyNext (.ref I) >>= fun r => match r with
      | none => pure (.done .next)
      | some v => letOwnedTupleGo target (.ref I) v >>= fun _ => assign target cenv v >>= fun _ => (eval elt cenv >>= fun x => call (.builtin "list.append") [acc, x] >>= fun _ => pure ()) >>= fun _ => again (.compLoop (.ListComp elt [⟨target, iter, [], 0⟩] scope pos) 0 (.ref I) acc cenv)))
    (h : wpAny (model prog w) A (eval iter env) (fun xv s₁ => wpAny (model prog w) A (pyIter xv) (fun it s₂ => CompAt prog w A hB env scope cl target elt (fun _ m => m) Q it s₂) (fun _ _ => False) s₁) (fun _ _ => False) s) :
    wpAny (model prog w) A (eval (.ListComp elt [⟨target, iter, [], 0⟩] scope pos) env) Q (fun _ _ => False) s := by
  rw [eval_ListComp]
  refine wpAny_comprehension_free (use := none) rfl hs hclos hkind hnames (wpAny_mono h (fun xv s₁ h₁ => wpAny_mono h₁ (fun it s₂ h₂ => ?_) fun _ _ e => e) fun _ _ e => e)
  refine comp_ran (RR := fun acc C => compPost (model prog w) A (fun _ _ => False) none Q acc C) hcell hkind hden h₂ ?_
  intro D C h tk m m' oL led FC NC hn hb hne hneC k
  have hLC : env.locals ≠ C := (NC _ (.head _)).2.1
  refine (mk_EA m' FC.ns (fun h' hs' => k h' tk ⟨hn.ns ((hs'.2 _ hLC).trans (NC _ (.head _)).1), fun b o e => (hs'.2 b ?_).trans (FC.keep b o e), hb⟩ fun p hp => (mk_AA ((hs'.2 _ (hneC p hp)).trans (NC p (.tail _ hp)).1) (hne p hp) ((NC p (.tail _ hp)).2.2))))
  exact Nat.ne_of_lt (Nat.lt_of_lt_of_le (Heap.lt_size e) FC.above)

theorem comp_assign {iter elt : PySem.Expr} {scope : Scope} {cl : List (Str × Addr)} {pos spos py : Pos} {y : Str} {Q : Flow → Shared → Prop} {m₀ : Str → Option Value} (_F : Fr hB env.locals s.heap m₀)
    (hsw : swapsWith (.ListComp elt [⟨target, iter, [], 0⟩] scope pos) (some (.Name y py)) spos.line env = pure true)
    (hclos : closureFor scope env = pure cl) (hcell : ∀ y ∈ scope.names, y.2 ≠ .cell) (hkind : scope.kind = .function) (hnames : ∀ y ∈ scope.names, y.2 = .local → scope.names.lookup y.1 = some .local)
    (hy : env.kindOf y = some .local) (hp : (env.scope.kind == .class || (env.scope.kind == .module && env.locals != env.globals)) = false)
    (hs : ∀ x, foldedSetIterable iter env x = pure x)
    (hden : ∀ (I : Addr) (acc : Value) (cenv : Env), compTurn (.ListComp elt [⟨target, iter, [], 0⟩] scope pos) 0 (.ref I) acc cenv = (standAt iter.pos >>= fun _ => pyNext (.ref I) >>= fun r => match r with
      | none => pure (.done .next)
      | some v => letOwnedTupleGo target (.ref I) v >>= fun _ => assign target cenv v >>= fun _ => (eval elt cenv >>= fun x => call (.builtin "list.append") [acc, x] >>= fun _ => pure ()) >>= fun _ => again (.compLoop (.ListComp elt [⟨target, iter, [], 0⟩] scope pos) 0 (.ref I) acc cenv)))
    (h : wpAny (model prog w) A (eval iter env) (fun xv s₁ => wpAny (model prog w) A (pyIter xv) (fun it s₂ => CompAt prog w A hB env scope cl target elt (fun v m z => if z = y then some v else m z) (fun _ s₃ => Q .next s₃) it s₂) (fun _ _ => False) s₁) (fun _ _ => False) s) :
    wpAny (model prog w) A (exec (.Assign [.Name y py] (.ListComp elt [⟨target, iter, [], 0⟩] scope pos) spos) env) Q (fun _ _ => False) s := by
  rw [exec_Assign_Name_used _ _ _ _ hsw]
  refine wpAny_bind (wpAny_standAt (wpAny_bind ?_))
  show wpAny _ A (do let _ ← comprehension (.ListComp elt [⟨target, iter, [], 0⟩] scope pos) scope env _ (newList []) false (eval iter env) (some (assign (.Name y py) env))) _ _ s
  refine wpAny_bind (wpAny_mono (wpAny_comprehension_free (use := some (assign (.Name y py) env)) (Q := fun _ s' => Q .next s') rfl hs hclos hkind hnames
    (wpAny_mono h (fun xv s₁ h₁ => wpAny_mono h₁ (fun it s₂ h₂ => ?_) fun _ _ e => e) fun _ _ e => e)) (fun _ s' hq => wpAny_pure (wpAny_pure hq)) fun _ _ e => e)
  refine comp_ran (RR := fun acc C => compPost (model prog w) A (fun _ _ => False) (some (assign (.Name y py) env)) (fun _ s' => Q .next s') acc C) hcell hkind hden h₂ ?_
  intro D C h tk m m' oL led FC NC hn hb hne hneC k
  have hLC : env.locals ≠ C := (NC _ (.head _)).2.1
  show wpAny _ A (assign (.Name y py) env (.ref D)) _ _ _
  refine wpAny_assign_Name (wpAny_storeName_local hy (hn.ns (NC _ (.head _)).1) (fun h₂ hn₂ hs₂ => ?_) hp)
  have low : ∀ {b o}, hB.get? b = some o → b ≠ C := fun e => Nat.ne_of_lt (Nat.lt_of_lt_of_le (Heap.lt_size e) FC.above)
  have lowL : ∀ {b o}, hB.get? b = some o → b ≠ env.locals := fun e => Nat.ne_of_lt (Nat.lt_of_lt_of_le (Heap.lt_size e) hb)
  refine (mk_EA m' (FC.ns.sameBut hs₂ (Ne.symm hLC)) (fun h₃ hs₃ => ?_))
  exact k h₃ _ ⟨hn₂.sameBut hs₃ hLC, fun b o e => (hs₃.2 b (low e)).trans ((hs₂.2 b (lowL e)).trans (FC.keep b o e)), hb⟩
    fun p hp => (mk_AA ((hs₃.2 _ (hneC p hp)).trans ((hs₂.2 _ (hne p hp)).trans (NC p (.tail _ hp)).1)) (hne p hp) ((NC p (.tail _ hp)).2.2))

theorem pin {L : Addr} {h : Heap} {m : Str → Option Value} {x : Str} {v : Value} (F : Fr hB L h m) (e : m x = some v) : Fr hB L h (fun y => if y = x then some v else m y) := by
  have : (fun y => if y = x then some v else m y) = m := by
    funext y
    by_cases h : y = x
    · rw [if_pos h, h, e]
    · rw [if_neg h]
  rw [this]; exact F
theorem notIn_nil {l : Led} : ∀ p ∈ l, p.1 ∉ adrs [] := fun _ _ h => nomatch h
theorem offI {l : Led} {I : Addr} {k : String} (h : ∀ p ∈ l, p.1 < I) : ∀ p ∈ l, p.1 ∉ [(I, k)].map (·.1) := fun p hp hm => Nat.ne_of_lt (h p hp) (List.mem_singleton.mp hm)
theorem offL {L I : Addr} {k : String} (h : L < I) : L ∉ [(I, k)].map (·.1) := fun hm => Nat.ne_of_lt h (List.mem_singleton.mp hm)
theorem offI2 {l : Led} {I : Addr} {k k' : String} (h : ∀ p ∈ l, p.1 < I) : ∀ p ∈ l, p.1 ∉ [(I + 1, k), (I, k')].map (·.1) := fun p hp hm => by
  rcases List.mem_cons.mp hm with e | hm
  · exact Nat.ne_of_lt (Nat.lt_succ_of_lt (h p hp)) e
  · exact Nat.ne_of_lt (h p hp) (List.mem_singleton.mp hm)
theorem offL2 {L I : Addr} {k k' : String} (h : L < I) : L ∉ [(I + 1, k), (I, k')].map (·.1) := fun hm => by
  rcases List.mem_cons.mp hm with e | hm
  · exact Nat.ne_of_lt (Nat.lt_succ_of_lt h) e
  · exact Nat.ne_of_lt h (List.mem_singleton.mp hm)
end
section
variable {prog : Program} {w : World} {A : Around} {s : Shared} {env : Env} {hB : Heap} {target : PySem.Expr} {body : List Stmt} {Q : Flow → Shared → Prop}
theorem for_listT {l : Addr} {vs : List Value} {nn : Nat} {m : Str → Option Value} {mu Z : Led} (J : List Itm → (Str → Option Value) → Led → Led → Prop)
    (hh : A.handled = none) (F : Fr hB env.locals s.heap m) (N : News hB env.locals s.heap (mu ++ Z)) (hl : (l, listOf vs.toArray nn) ∈ Z) (hz : ∀ p ∈ Z, p.1 ∉ adrs mu) (h0 : J (vs.map .val) m mu [])
    (turn : ∀ a r m mu' T R v h tk, J (a :: r) m mu' T → a.Is v h → adrs mu' = adrs mu → Abv (mu ++ Z) T → (∀ p ∈ T ++ Z, p ∈ R) → (∀ p ∈ R, p.1 ∉ adrs mu) → Fr hB env.locals h m → News hB env.locals h (mu' ++ R) →
      ∀ P : Flow → Shared → Prop, (∀ f s', TEnd hB env.locals mu' R T (J r) Q { s with heap := h, toks := tk } f s' → P f s') → wpAny (model prog w) A (assign target env v) (fun _ s₂ => wpAny (model prog w) A (execs body env) P (fun _ _ => False) s₂) (fun _ _ => False) { s with heap := h, toks := tk })
    (done : ∀ m mu' T h tk, J [] m mu' T → adrs mu' = adrs mu → Abv (mu ++ Z) T → Fr hB env.locals h m → News hB env.locals h (mu' ++ (T ++ Z)) → Q .next { s with heap := h, toks := tk }) :
    wpAny (model prog w) A (pyIter (.ref l)) (fun it s₂ => TurnsAt prog w A hB env target body Q (fun _ _ => False) it s₂) (fun _ _ => False) s :=
  src_list hh F N (List.mem_append_right _ hl) fun I h' S F' N' lI hLI _ => for_srcT J S F' N' (offI lI) hz (fun p hp => by rw [List.mem_singleton.mp hp]; exact hl) (offL hLI) h0 (fun a r m mu' T R v h tk a0 a1 a2 a3 a4 a5 a6 a7 => turn a r m mu' T R v h tk a0 a1 a2 a3 a4 a5 a6 a7 _ fun _ _ x => x) done
theorem for_tupleT {l : Addr} {vs : List Value} {nn : Nat} {m : Str → Option Value} {mu Z : Led} (J : List Itm → (Str → Option Value) → Led → Led → Prop)
    (hh : A.handled = none) (F : Fr hB env.locals s.heap m) (N : News hB env.locals s.heap (mu ++ Z)) (hl : (l, ({ cls := .type "tuple", data := .seq vs.toArray nn } : Obj)) ∈ Z) (hz : ∀ p ∈ Z, p.1 ∉ adrs mu) (h0 : J (vs.map .val) m mu [])
    (turn : ∀ a r m mu' T R v h tk, J (a :: r) m mu' T → a.Is v h → adrs mu' = adrs mu → Abv (mu ++ Z) T → (∀ p ∈ T ++ Z, p ∈ R) → (∀ p ∈ R, p.1 ∉ adrs mu) → Fr hB env.locals h m → News hB env.locals h (mu' ++ R) →
      ∀ P : Flow → Shared → Prop, (∀ f s', TEnd hB env.locals mu' R T (J r) Q { s with heap := h, toks := tk } f s' → P f s') → wpAny (model prog w) A (assign target env v) (fun _ s₂ => wpAny (model prog w) A (execs body env) P (fun _ _ => False) s₂) (fun _ _ => False) { s with heap := h, toks := tk })
    (done : ∀ m mu' T h tk, J [] m mu' T → adrs mu' = adrs mu → Abv (mu ++ Z) T → Fr hB env.locals h m → News hB env.locals h (mu' ++ (T ++ Z)) → Q .next { s with heap := h, toks := tk }) :
    wpAny (model prog w) A (pyIter (.ref l)) (fun it s₂ => TurnsAt prog w A hB env target body Q (fun _ _ => False) it s₂) (fun _ _ => False) s :=
  src_tuple hh F N (List.mem_append_right _ hl) fun I h' S F' N' lI hLI _ => for_srcT J S F' N' (offI lI) hz (fun p hp => by rw [List.mem_singleton.mp hp]; exact hl) (offL hLI) h0 (fun a r m mu' T R v h tk a0 a1 a2 a3 a4 a5 a6 a7 => turn a r m mu' T R v h tk a0 a1 a2 a3 a4 a5 a6 a7 _ fun _ _ x => x) done
theorem for_rangeT {x : Str} {px : Pos} {n : Nat} {t : Tok} {m : Str → Option Value} {mu Z : Led} (J : List Itm → (Str → Option Value) → Led → Led → Prop)
    (hh : A.handled = none) (hn : n < 1048576) (F : Fr hB env.locals s.heap m) (N : News hB env.locals s.heap (mu ++ Z)) (hz : ∀ p ∈ Z, p.1 ∉ adrs mu) (h0 : J (rangeItms n) m mu [])
    (turn : ∀ a r m mu' T R v h tk, J (a :: r) m mu' T → a.Is v h → adrs mu' = adrs mu → Abv (mu ++ Z) T → (∀ p ∈ T ++ Z, p ∈ R) → (∀ p ∈ R, p.1 ∉ adrs mu) → Fr hB env.locals h m → News hB env.locals h (mu' ++ R) →
      ∀ P : Flow → Shared → Prop, (∀ f s', TEnd hB env.locals mu' R T (J r) Q { s with heap := h, toks := tk } f s' → P f s') → wpAny (model prog w) A (assign (.Name x px) env v) (fun _ s₂ => wpAny (model prog w) A (execs body env) P (fun _ _ => False) s₂) (fun _ _ => False) { s with heap := h, toks := tk })
    (done : ∀ m mu' T h tk, J [] m mu' T → adrs mu' = adrs mu → Abv (mu ++ Z) T → Fr hB env.locals h m → News hB env.locals h (mu' ++ (T ++ Z)) → Q .next { s with heap := h, toks := tk }) :
    wpAny (model prog w) A (call (.type "range") [.int (n : Int) t]) (fun xv s₁ => wpAny (model prog w) A (pyIter xv) (fun it s₂ => TurnsAt prog w A hB env (.Name x px) body Q (fun _ _ => False) it s₂) (fun _ _ => False) s₁) (fun _ _ => False) s :=
  src_range hh hn F N fun I h' tk S F' N' lI hLI _ => for_srcT J S F' N' (offI lI) hz (fun _ hp => nomatch hp) (offL hLI) h0 (fun a r m mu' T R v h tk a0 a1 a2 a3 a4 a5 a6 a7 => turn a r m mu' T R v h tk a0 a1 a2 a3 a4 a5 a6 a7 _ fun _ _ x => x) done
theorem for_enumT {elts : List PySem.Expr} {k : Nat} {pos : Pos} {l : Addr} {vs : List Value} {nn : Nat} {m : Str → Option Value} {mu Z : Led} (J : List Itm → (Str → Option Value) → Led → Led → Prop)
    (hh : A.handled = none) (F : Fr hB env.locals s.heap m) (N : News hB env.locals s.heap (mu ++ Z)) (hl : (l, listOf vs.toArray nn) ∈ Z) (hz : ∀ p ∈ Z, p.1 ∉ adrs mu) (h0 : J (enumItems 0 vs) m mu [])
    (turn : ∀ a r m mu' T R v h tk, J (a :: r) m mu' T → a.Is v h → adrs mu' = adrs mu → Abv (mu ++ Z) T → (∀ p ∈ T ++ Z, p ∈ R) → (∀ p ∈ R, p.1 ∉ adrs mu) → Fr hB env.locals h m → News hB env.locals h (mu' ++ R) →
      ∀ P : Flow → Shared → Prop, (∀ f s', TEnd hB env.locals mu' R T (J r) Q { s with heap := h, toks := tk } f s' → P f s') → wpAny (model prog w) A (assign (.Tuple elts k pos) env v) (fun _ s₂ => wpAny (model prog w) A (execs body env) P (fun _ _ => False) s₂) (fun _ _ => False) { s with heap := h, toks := tk })
    (done : ∀ m mu' T h tk, J [] m mu' T → adrs mu' = adrs mu → Abv (mu ++ Z) T → Fr hB env.locals h m → News hB env.locals h (mu' ++ (T ++ Z)) → Q .next { s with heap := h, toks := tk }) :
    wpAny (model prog w) A (call (.type "enumerate") [.ref l]) (fun xv s₁ => wpAny (model prog w) A (pyIter xv) (fun it s₂ => TurnsAt prog w A hB env (.Tuple elts k pos) body Q (fun _ _ => False) it s₂) (fun _ _ => False) s₁) (fun _ _ => False) s :=
  src_enum hh F N (List.mem_append_right _ hl) fun I h' tk S F' N' lI hLI _ => for_srcT J S F' N' (offI2 lI) hz (fun p hp => by rw [List.mem_singleton.mp hp]; exact hl) (offL2 hLI) h0 (fun a r m mu' T R v h tk a0 a1 a2 a3 a4 a5 a6 a7 => turn a r m mu' T R v h tk a0 a1 a2 a3 a4 a5 a6 a7 _ fun _ _ x => x) done
end

section
variable {prog : Program} {w : World} {M : Model} {A : Around} {E : Value → Shared → Prop} {s : Shared} {env : Env} {hB : Heap} {L : Addr} {m mg mb : Str → Option Value} {news : Led} {K : Frag} {p : Program} {loose : List Str} {x : Str} {pos : Pos} {v : Value} {Q : Value → Shared → Prop}
theorem nmL (F : Fr hB L s.heap m) (hv : m x = some v) (h : Q v s) (hL : env.locals = L) (hk : env.scope.kind = .function) (hx : env.kindOf x = some .local) (hd : (x == ("__debug__" : Str)) = false) : wpAny M A (eval (.Name x pos) env) Q E s :=
  wpAny_Name (wpAny_loadName_local hk hx (hL ▸ F.ns) hv h) hd
theorem nmC {c : Addr} {o : Obj} (N : News hB L s.heap news) (hc : env.cells.lookup x = some c) (hm : (c, o) ∈ news) (ho : o.data = .cell (some v)) (h : Q v s) (hk : env.scope.kind = .function) (hx : env.kindOf x = some .cell) (hd : (x == ("__debug__" : Str)) = false) : wpAny M A (eval (.Name x pos) env) Q E s :=
  wpAny_Name (wpAny_loadName_cell hk hx hc (mk_EA o (N.get hm) ho) h) hd
theorem nmG (F : Fr hB L s.heap m) (X : K.In hB) (T : TopRead p loose mg mb hB) (e : nsIn K mainGlobals x = some (some v)) (h : Q v s) (hg : env.globals = mainGlobals) (hk : env.scope.kind = .function) (hx : env.kindOf x = some .globalImplicit) (hd : (x == ("__debug__" : Str)) = false) : wpAny M A (eval (.Name x pos) env) Q E s :=
  Name_function_global hk hx (loadGlobal_global (by rw [hg]; exact T.g.keeps F.keep) (mg_of X T.g e) h) hd
theorem nmB (F : Fr hB L s.heap m) (X : K.In hB) (T : TopRead p loose mg mb hB) (e : nsIn K mainGlobals x = some none) (hv : bootBuiltins x = some v) (hn : x ≠ "__name__") (h : Q v s) (hg : env.globals = mainGlobals) (hb : env.builtins = builtinsNs) (hk : env.scope.kind = .function) (hx : env.kindOf x = some .globalImplicit) (hd : (x == ("__debug__" : Str)) = false) : wpAny M A (eval (.Name x pos) env) Q E s :=
  Name_function_global hk hx (loadGlobal_builtin (by rw [hg]; exact T.g.keeps F.keep) (mg_none_of X T.g e) (by rw [hb]; exact T.b.keeps F.keep) ((T.builtins x hn).trans hv) h) hd
theorem stG {Q : Unit → Shared → Prop} (F : Fr hB L s.heap m) (N : News hB L s.heap news) (h : ∀ h', Fr hB L h' (fun y => if y = x then some v else m y) → News hB L h' news → Q () { s with heap := h', toks := s.toks + 1 })
    (hL : env.locals = L) (hx : env.kindOf x = some .local) (hp : (env.scope.kind == .class || (env.scope.kind == .module && env.locals != env.globals)) = false) : wpAny M A (storeName env x v) Q E s := by
  subst hL
  exact wpAny_storeName_local hx F.ns (fun h' hn hs => h h' (F.set hn hs) (N.set hs)) hp
end
section
variable {prog : Program} {w : World} {A : Around} {s : Shared} {env : Env} {hB : Heap} {target elt : PySem.Expr} {scope : Scope} {cl : List (Str × Addr)} {Q : Value → Shared → Prop} {st : Value → (Str → Option Value) → Str → Option Value}
theorem comp_listT {l : Addr} {vs : List Value} {nn : Nat} {m : Str → Option Value} {mu Z : Led} (J : List Itm → List Value → Led → Led → Prop)
    (hh : A.handled = none) (hlen : vs.length ≤ 1000000) (F : Fr hB env.locals s.heap m) (N : News hB env.locals s.heap (mu ++ Z)) (hl : (l, listOf vs.toArray nn) ∈ Z) (hz : ∀ p ∈ Z, p.1 ∉ adrs mu) (h0 : J (vs.map .val) [] mu [])
    (turn : ∀ a r acc C D m' mu' T R v h tk, J (a :: r) acc mu' T → a.Is v h → adrs mu' = adrs mu → Abv (mu ++ Z) T → (∀ p ∈ T ++ Z, p ∈ R) → (∀ p ∈ R, p.1 ∉ D :: adrs mu) → (∀ p ∈ mu', p.1 < D) →
      Fr hB C h m' → News hB C h (((D, listOf acc.toArray acc.length) :: mu') ++ R) →
      ∀ P : Value → Shared → Prop, (∀ x s', CEnd hB C D acc mu' R T (J r) { s with heap := h, toks := tk } x s' → P x s') → wpAny (model prog w) A (assign target (compEnvC scope cl C env) v) (fun _ s₂ => wpAny (model prog w) A (eval elt (compEnvC scope cl C env)) P (fun _ _ => False) s₂) (fun _ _ => False) { s with heap := h, toks := tk })
    (done : ∀ acc D mu' T h tk, J [] acc mu' T → adrs mu' = adrs mu → Abv (mu ++ Z) T → (∀ p ∈ mu ++ Z, p.1 < D) → (∀ p ∈ T, p.1 ≠ D) → Fr hB env.locals h (st (.ref D) m) → News hB env.locals h ((D, listOf acc.toArray acc.length) :: (mu' ++ (T ++ Z))) → Q (.ref D) { s with heap := h, toks := tk }) :
    wpAny (model prog w) A (pyIter (.ref l)) (fun it s₂ => CompAt prog w A hB env scope cl target elt st Q it s₂) (fun _ _ => False) s :=
  src_list hh F N (List.mem_append_right _ hl) fun I h' S F' N' lI hLI _ => (mk_EEEEEEEEAAAAAAAAAAA I _ _ _ m mu Z J rfl (by rw [List.length_map]; exact hlen) S F' N' (offI lI) hz (fun p hp => by rw [List.mem_singleton.mp hp]; exact hl) (offL hLI) h0 (fun a r acc C D m' mu' T R v h tk a0 a1 a2 a3 a4 a5 a6 a7 a8 => turn a r acc C D m' mu' T R v h tk a0 a1 a2 a3 a4 a5 a6 a7 a8 _ fun _ _ x => x) done)
theorem comp_tupleT {l : Addr} {vs : List Value} {nn : Nat} {m : Str → Option Value} {mu Z : Led} (J : List Itm → List Value → Led → Led → Prop)
    (hh : A.handled = none) (hlen : vs.length ≤ 1000000) (F : Fr hB env.locals s.heap m) (N : News hB env.locals s.heap (mu ++ Z)) (hl : (l, ({ cls := .type "tuple", data := .seq vs.toArray nn } : Obj)) ∈ Z) (hz : ∀ p ∈ Z, p.1 ∉ adrs mu) (h0 : J (vs.map .val) [] mu [])
    (turn : ∀ a r acc C D m' mu' T R v h tk, J (a :: r) acc mu' T → a.Is v h → adrs mu' = adrs mu → Abv (mu ++ Z) T → (∀ p ∈ T ++ Z, p ∈ R) → (∀ p ∈ R, p.1 ∉ D :: adrs mu) → (∀ p ∈ mu', p.1 < D) →
      Fr hB C h m' → News hB C h (((D, listOf acc.toArray acc.length) :: mu') ++ R) →
      ∀ P : Value → Shared → Prop, (∀ x s', CEnd hB C D acc mu' R T (J r) { s with heap := h, toks := tk } x s' → P x s') → wpAny (model prog w) A (assign target (compEnvC scope cl C env) v) (fun _ s₂ => wpAny (model prog w) A (eval elt (compEnvC scope cl C env)) P (fun _ _ => False) s₂) (fun _ _ => False) { s with heap := h, toks := tk })
    (done : ∀ acc D mu' T h tk, J [] acc mu' T → adrs mu' = adrs mu → Abv (mu ++ Z) T → (∀ p ∈ mu ++ Z, p.1 < D) → (∀ p ∈ T, p.1 ≠ D) → Fr hB env.locals h (st (.ref D) m) → News hB env.locals h ((D, listOf acc.toArray acc.length) :: (mu' ++ (T ++ Z))) → Q (.ref D) { s with heap := h, toks := tk }) :
    wpAny (model prog w) A (pyIter (.ref l)) (fun it s₂ => CompAt prog w A hB env scope cl target elt st Q it s₂) (fun _ _ => False) s :=
  src_tuple hh F N (List.mem_append_right _ hl) fun I h' S F' N' lI hLI _ => (mk_EEEEEEEEAAAAAAAAAAA I _ _ _ m mu Z J rfl (by rw [List.length_map]; exact hlen) S F' N' (offI lI) hz (fun p hp => by rw [List.mem_singleton.mp hp]; exact hl) (offL hLI) h0 (fun a r acc C D m' mu' T R v h tk a0 a1 a2 a3 a4 a5 a6 a7 a8 => turn a r acc C D m' mu' T R v h tk a0 a1 a2 a3 a4 a5 a6 a7 a8 _ fun _ _ x => x) done)
theorem comp_rangeT {x : Str} {px : Pos} {n : Nat} {t : Tok} {m : Str → Option Value} {mu Z : Led} (J : List Itm → List Value → Led → Led → Prop)
    (hh : A.handled = none) (hn : n ≤ 1000000) (F : Fr hB env.locals s.heap m) (N : News hB env.locals s.heap (mu ++ Z)) (hz : ∀ p ∈ Z, p.1 ∉ adrs mu) (h0 : J (rangeItms n) [] mu [])
    (turn : ∀ a r acc C D m' mu' T R v h tk, J (a :: r) acc mu' T → a.Is v h → adrs mu' = adrs mu → Abv (mu ++ Z) T → (∀ p ∈ T ++ Z, p ∈ R) → (∀ p ∈ R, p.1 ∉ D :: adrs mu) → (∀ p ∈ mu', p.1 < D) →
      Fr hB C h m' → News hB C h (((D, listOf acc.toArray acc.length) :: mu') ++ R) →
      ∀ P : Value → Shared → Prop, (∀ x s', CEnd hB C D acc mu' R T (J r) { s with heap := h, toks := tk } x s' → P x s') → wpAny (model prog w) A (assign (.Name x px) (compEnvC scope cl C env) v) (fun _ s₂ => wpAny (model prog w) A (eval elt (compEnvC scope cl C env)) P (fun _ _ => False) s₂) (fun _ _ => False) { s with heap := h, toks := tk })
    (done : ∀ acc D mu' T h tk, J [] acc mu' T → adrs mu' = adrs mu → Abv (mu ++ Z) T → (∀ p ∈ mu ++ Z, p.1 < D) → (∀ p ∈ T, p.1 ≠ D) → Fr hB env.locals h (st (.ref D) m) → News hB env.locals h ((D, listOf acc.toArray acc.length) :: (mu' ++ (T ++ Z))) → Q (.ref D) { s with heap := h, toks := tk }) :
    wpAny (model prog w) A (call (.type "range") [.int (n : Int) t]) (fun xv s₁ => wpAny (model prog w) A (pyIter xv) (fun it s₂ => CompAt prog w A hB env scope cl (.Name x px) elt st Q it s₂) (fun _ _ => False) s₁) (fun _ _ => False) s :=
  src_range hh (Nat.lt_of_le_of_lt hn (by decide)) F N fun I h' tk S F' N' lI hLI _ => (mk_EEEEEEEEAAAAAAAAAAA I _ _ _ m mu Z J rfl (by rw [rangeItms, List.length_map, List.length_range]; exact hn) S F' N' (offI lI) hz ((fun p hp => absurd hp List.not_mem_nil)) (offL hLI) h0 (fun a r acc C D m' mu' T R v h tk a0 a1 a2 a3 a4 a5 a6 a7 a8 => turn a r acc C D m' mu' T R v h tk a0 a1 a2 a3 a4 a5 a6 a7 a8 _ fun _ _ x => x) done)
theorem comp_enumT {elts : List PySem.Expr} {k : Nat} {pos : Pos} {l : Addr} {vs : List Value} {nn : Nat} {m : Str → Option Value} {mu Z : Led} (J : List Itm → List Value → Led → Led → Prop)
    (hh : A.handled = none) (hlen : vs.length ≤ 1000000) (F : Fr hB env.locals s.heap m) (N : News hB env.locals s.heap (mu ++ Z)) (hl : (l, listOf vs.toArray nn) ∈ Z) (hz : ∀ p ∈ Z, p.1 ∉ adrs mu) (h0 : J (enumItems 0 vs) [] mu [])
    (turn : ∀ a r acc C D m' mu' T R v h tk, J (a :: r) acc mu' T → a.Is v h → adrs mu' = adrs mu → Abv (mu ++ Z) T → (∀ p ∈ T ++ Z, p ∈ R) → (∀ p ∈ R, p.1 ∉ D :: adrs mu) → (∀ p ∈ mu', p.1 < D) →
      Fr hB C h m' → News hB C h (((D, listOf acc.toArray acc.length) :: mu') ++ R) →
      ∀ P : Value → Shared → Prop, (∀ x s', CEnd hB C D acc mu' R T (J r) { s with heap := h, toks := tk } x s' → P x s') → wpAny (model prog w) A (assign (.Tuple elts k pos) (compEnvC scope cl C env) v) (fun _ s₂ => wpAny (model prog w) A (eval elt (compEnvC scope cl C env)) P (fun _ _ => False) s₂) (fun _ _ => False) { s with heap := h, toks := tk })
    (done : ∀ acc D mu' T h tk, J [] acc mu' T → adrs mu' = adrs mu → Abv (mu ++ Z) T → (∀ p ∈ mu ++ Z, p.1 < D) → (∀ p ∈ T, p.1 ≠ D) → Fr hB env.locals h (st (.ref D) m) → News hB env.locals h ((D, listOf acc.toArray acc.length) :: (mu' ++ (T ++ Z))) → Q (.ref D) { s with heap := h, toks := tk }) :
    wpAny (model prog w) A (call (.type "enumerate") [.ref l]) (fun xv s₁ => wpAny (model prog w) A (pyIter xv) (fun it s₂ => CompAt prog w A hB env scope cl (.Tuple elts k pos) elt st Q it s₂) (fun _ _ => False) s₁) (fun _ _ => False) s :=
  src_enum hh F N (List.mem_append_right _ hl) fun I h' tk S F' N' lI hLI _ => (mk_EEEEEEEEAAAAAAAAAAA (I + 1) _ _ _ m mu Z J rfl (by rw [enumItems_length]; exact hlen) S F' N' (offI2 lI) hz (fun p hp => by rw [List.mem_singleton.mp hp]; exact hl) (offL2 hLI) h0 (fun a r acc C D m' mu' T R v h tk a0 a1 a2 a3 a4 a5 a6 a7 a8 => turn a r acc C D m' mu' T R v h tk a0 a1 a2 a3 a4 a5 a6 a7 a8 _ fun _ _ x => x) done)
end
open PySem PySem.Calls PySem.W PyProof.Rows
set_option Elab.async false
set_option maxRecDepth 100000
set_option linter.unusedVariables false
abbrev accO (D : Addr) (acc : List Value) : Addr × Obj := (D, listOf acc.toArray acc.length)
/-- the inner clause of a comprehension of two clauses, where its source stands -/
def InAt (prog : Program) (w : World) (A : Around) (hB : Heap) (cenv : Env) (D : Addr) (acc : List Value) (R : Led) (target elt : PySem.Expr) (Jo : List Value → Led → Prop) (s₀ : Shared) (it : Value) (s : Shared) : Prop :=
  ∃ (I : Addr) (ws : List (Addr × String)) (keep : Led) (xs : List Itm) (m : Str → Option Value) (tl0 : Led) (J2 : List Itm → List Value → Led → Prop),
    it = .ref I ∧ s = { s₀ with heap := s.heap, toks := s.toks } ∧ acc.length + xs.length ≤ 1000000 ∧ Src prog w A hB target I ws keep xs s.heap ∧ Fr hB cenv.locals s.heap m ∧ News hB cenv.locals s.heap (accO D acc :: (tl0 ++ R)) ∧ Abv (accO D acc :: R) tl0 ∧ (∀ p ∈ R, p.1 ≠ D) ∧
    (∀ p ∈ accO D acc :: (tl0 ++ R), p.1 ∉ ws.map (·.1)) ∧ (∀ p ∈ keep, p ∈ tl0 ++ R) ∧ cenv.locals ∉ ws.map (·.1) ∧ J2 xs acc [] ∧
    (∀ a r acc' m' T R' v h tk, J2 (a :: r) acc' T → a.Is v h → (∀ p ∈ T ++ (tl0 ++ R), p ∈ R') → (∀ p ∈ R', p.1 ≠ D) → Fr hB cenv.locals h m' → News hB cenv.locals h (accO D acc' :: R') →
      wpAny (model prog w) A (assign target cenv v) (fun _ s₂ => wpAny (model prog w) A (eval elt cenv) (CEnd hB cenv.locals D acc' [] R' T (fun x mu T' => mu = [] ∧ J2 r x T') { s with heap := h, toks := tk }) (fun _ _ => False) s₂) (fun _ _ => False) { s with heap := h, toks := tk }) ∧
    ∀ acc' T2, J2 [] acc' T2 → Jo acc' (T2 ++ tl0)
theorem Abv.sub' {news news' tl : Led} (h : Abv news tl) (hs : ∀ q ∈ news', ∃ p ∈ news, p.1 = q.1) : Abv news' tl := fun q hq p hp => by
  refine el_EA ?_ (hs q hq); rintro q' h1 h2
  exact h2 ▸ h q' h1 p hp
section
variable {prog : Program} {w : World} {A : Around} {s : Shared} {env : Env} {hB : Heap} {t1 target : PySem.Expr}
theorem compStart1 {elt i1 i2 : PySem.Expr} {scope : Scope} {pos : Pos} {it acc : Value} {env : Env} {R : Result → Shared → Prop}
    (h0 : codeAny (model prog w) A (.compLoop (.ListComp elt [⟨t1, i1, [], 0⟩, ⟨target, i2, [], 0⟩] scope pos) 1 it acc env) R s)
    (h : wpAny (model prog w) A (pyIter it) (fun it' s' => codeAny (model prog w) A (.compLoop (.ListComp elt [⟨t1, i1, [], 0⟩, ⟨target, i2, [], 0⟩] scope pos) 1 it' acc env) R s')
      (notedBy (model prog w) A env fun x s' => R (.error x) s') s) :
    codeAny (model prog w) A (.compStart (.ListComp elt [⟨t1, i1, [], 0⟩, ⟨target, i2, [], 0⟩] scope pos) 1 it acc env) R s := by
  refine codeAny_of_tree ?_
  show wpAny _ _ ((compStart (.ListComp elt [⟨t1, i1, [], 0⟩, ⟨target, i2, [], 0⟩] scope pos) 1 it acc env).onRaise (fun x => do noteFrame x env; standAt theWindowsPlace)) _ _ s
  refine wpAny_notedAt ?_
  unfold compStart
  show wpAny _ _ (ask >>= _) _ _ s
  refine wpAny_bind (wpAny_askSetting (wpAny_ite ?_))
  split
  · first
      | exact wpAny_bind (wpAny_pure (wpAny_pure (And.intro rfl h0)))
      | exact wpAny_pure (And.intro rfl h0)
  · first
      | exact wpAny_bind (wpAny_rule (wpAny_bind (wpAny_standAt (wpAny_bind (wpAny_mono h (fun it' s' h' => wpAny_pure (And.intro rfl h')) fun _ _ x => x)))))
      | (refine wpAny_bind (wpAny_rule ?_); show wpAny _ _ (standAt i2.pos >>= _) _ _ s; exact wpAny_bind (wpAny_standAt (wpAny_bind (wpAny_mono h (fun it' s' h' => wpAny_pure (And.intro rfl h')) fun _ _ x => x))))
theorem compTurn21 (elt i1 i2 : PySem.Expr) (scope : Scope) (pos : Pos) (it acc : Value) (env : Env) :
    compTurn (.ListComp elt [⟨t1, i1, [], 0⟩, ⟨target, i2, [], 0⟩] scope pos) 1 it acc env = (standAt i2.pos >>= fun _ => pyNext it >>= fun r => match r with
      | none => pure (.done .next)
      | some v => letOwnedTupleGo target it v >>= fun _ => assign target env v >>= fun _ =>
        (eval elt env >>= fun x => call (.builtin "list.append") [acc, x] >>= fun _ => pure ()) >>= fun _ =>
          again (.compLoop (.ListComp elt [⟨t1, i1, [], 0⟩, ⟨target, i2, [], 0⟩] scope pos) 1 it acc env)) := by rfl
def inner2 (e i2 : PySem.Expr) (env : Env) (acc : Value) : Sem Unit :=
  eval i2 env >>= fun x => standAt i2.pos >>= fun _ => foldedSetIterable i2 env x >>= fun x => holding [x] (pyIter x) >>= fun it => runOwn (.compStart e 1 it acc env) env >>= fun _ => pure ()
theorem compTurn20 (elt i1 i2 : PySem.Expr) (scope : Scope) (pos : Pos) (it acc : Value) (env : Env) :
    compTurn (.ListComp elt [⟨t1, i1, [], 0⟩, ⟨target, i2, [], 0⟩] scope pos) 0 it acc env = (standAt i1.pos >>= fun _ => pyNext it >>= fun r => match r with
      | none => pure (.done .next)
      | some v => letOwnedTupleGo t1 it v >>= fun _ => assign t1 env v >>= fun _ =>
        inner2 (.ListComp elt [⟨t1, i1, [], 0⟩, ⟨target, i2, [], 0⟩] scope pos) i2 env acc >>= fun _ =>
          again (.compLoop (.ListComp elt [⟨t1, i1, [], 0⟩, ⟨target, i2, [], 0⟩] scope pos) 0 it acc env)) := by
  first
  | rfl
  | (simp only [inner2, bind_assoc, pure_bind]; rfl)

theorem in_run {elt i1 i2 : PySem.Expr} {scope : Scope} {pos : Pos} {cenv : Env} {D : Addr} {acc : List Value} {R : Led} {Jo : List Value → Led → Prop} {s₀ : Shared} {it : Value}
    (hin : InAt prog w A hB cenv D acc R target elt Jo s₀ it s) :
    codeAny (model prog w) A (.compStart (.ListComp elt [⟨t1, i1, [], 0⟩, ⟨target, i2, [], 0⟩] scope pos) 1 it (.ref D) cenv)
      (fun r s₂ => r = .ok .next ∧ ∃ tl acc' m' h' tk', s₂ = { s₀ with heap := h', toks := tk' } ∧ Fr hB cenv.locals h' m' ∧ News hB cenv.locals h' (accO D acc' :: (tl ++ R)) ∧ Abv (accO D acc :: R) tl ∧ Jo acc' tl) s := by
  refine el_EEEEEEEAAAAAAAAAAAAA ?_ (hin); rintro I ws keep xs m tl0 J2 rfl hs hlen S F N ab0 hRD hw hk hL h0 turn done
  have hZD : ∀ p ∈ tl0 ++ R, p.1 ≠ D := fun p hp => (List.mem_append.mp hp).elim (fun h => Nat.ne_of_gt (ab0 _ (.head _) p h)) (hRD p)
  have main : codeAny (model prog w) A (.compLoop (.ListComp elt [⟨t1, i1, [], 0⟩, ⟨target, i2, [], 0⟩] scope pos) 1 (.ref I) (.ref D) cenv)
      (fun r s₂ => r = .ok .next ∧ ∃ tl acc' m' h' tk', s₂ = { s₀ with heap := h', toks := tk' } ∧ Fr hB cenv.locals h' m' ∧ News hB cenv.locals h' (accO D acc' :: (tl ++ R)) ∧ Abv (accO D acc :: R) tl ∧ Jo acc' tl) s := by
    refine cmp_core (mu := [accO D acc]) (Z := tl0 ++ R) (fun xs' mu' Z' => ∃ acc' T, mu' = [accO D acc'] ∧ Z' = T ++ (tl0 ++ R) ∧ Abv (accO D acc :: (tl0 ++ R)) T ∧ acc'.length + xs'.length = acc.length + xs.length ∧ J2 xs' acc' T)
      (compTurn21 elt i1 i2 scope pos (.ref I) (.ref D) cenv) S F N hw (fun p hp hm => hZD p hp (List.mem_singleton.mp hm)) hk hL (mk_EEAAAA acc ([]) rfl rfl Abv.nil rfl h0) ?_ ?_
    · rintro a r m' mu' Z' R' v h tk; refine el_EEAAAA ?_; rintro acc' T rfl rfl abT hl hJ hv ha hs' ho F' N'
      have hRD' : ∀ p ∈ R', p.1 ≠ D := fun p hp e => ho p hp (e ▸ List.mem_singleton.mpr rfl)
      refine wpAny_mono (turn a r acc' m' T R' v h tk hJ hv hs' hRD' F' N') (fun _ s₂ q => wpAny_bind (wpAny_mono q (fun x s₃ t => ?_) fun _ _ x => x)) fun _ _ x => x
      refine el_EEEEEAAAAAA ?_ (t); rintro tl mu'' m₃ h₃ tk₃ rfl F₃ N₃ ea ab₃ rfl hJ₃
      rw [List.cons_append, List.nil_append] at N₃
      have hU : Upd D (listOf acc'.toArray acc'.length) (listOf (acc'.toArray.push x) (acc'.length + 1)) (accO D acc' :: (tl ++ R')) ((D, listOf (acc'.toArray.push x) (acc'.length + 1)) :: (tl ++ R')) := by
        refine Upd.head fun p hp => ?_
        rcases List.mem_append.mp hp with hp | hp
        · exact Nat.ne_of_gt (ab₃ _ (.head _) p hp)
        · exact hRD' p hp
      have hsz : acc'.toArray.size ≤ sizeLine := by
        have h1 : acc'.toArray.size = acc'.length := List.size_toArray
        have h2 : sizeLine = 16777216 := rfl
        have h3 : (a :: r).length = r.length + 1 := List.length_cons
        omega
      refine wpAny_bind (append_K F₃ N₃ hU (fun h₄ F₄ N₄ => wpAny_pure ?_) hsz)
      have e1 : listOf (acc'.toArray.push x) (acc'.length + 1) = listOf (acc' ++ [x]).toArray (acc' ++ [x]).length := by
        rw [List.length_append, List.length_singleton, List.push_toArray]
      rw [e1] at N₄
      refine (mk_EEEEEAAAAAEEAAAA tl ([accO D (acc' ++ [x])]) m₃ h₄ tk₃ rfl F₄ N₄ rfl ab₃ (acc' ++ [x]) (tl ++ T) rfl ((List.append_assoc ..).symm) (Abv.app ((show Abv (accO D acc' :: R') tl from ab₃).sub' ?_) abT) ?_ hJ₃)
      · intro q hq
        rcases List.mem_cons.mp hq with rfl | hq
        · exact (mk_EA _ (.head _) rfl)
        · exact (mk_EA q (.tail _ (hs' q (List.mem_append_right _ hq))) rfl)
      · rw [List.length_cons] at hl
        rw [List.length_append, List.length_singleton]; omega
    · rintro m' mu' Z' h tk; refine el_EEAAAA ?_; rintro acc' T rfl rfl abT hl hJ ha hz F' N'
      refine (mk_AEEEEEAAAA rfl (T ++ tl0) acc' m' h tk (by rw [hs]) F' ?_ ?_ (done acc' T hJ))
      · rw [List.append_assoc]; exact N'
      · exact Abv.app (abT.sub fun p hp => (List.mem_cons.mp hp).elim (fun h => h ▸ .head _) fun h => .tail _ (List.mem_append_right _ h)) ab0
  exact compStart1 main (S.self (s := s) main)

/-- what a comprehension of two clauses asks where its first source stands -/
def CompAt2 (prog : Program) (w : World) (A : Around) (hB : Heap) (env : Env) (scope : Scope) (cl : List (Str × Addr)) (t1 i2 target elt : PySem.Expr) (st : Value → (Str → Option Value) → Str → Option Value) (Q : Value → Shared → Prop) (it : Value) (s : Shared) : Prop :=
  ∃ (I : Addr) (ws : List (Addr × String)) (keep : Led) (xs : List Itm) (m : Str → Option Value) (Z : Led) (J : List Itm → List Value → Led → Prop),
    it = .ref I ∧ Src prog w A hB t1 I ws keep xs s.heap ∧ Fr hB env.locals s.heap m ∧ News hB env.locals s.heap Z ∧ (∀ p ∈ Z, p.1 ∉ ws.map (·.1)) ∧ (∀ p ∈ keep, p ∈ Z) ∧ env.locals ∉ ws.map (·.1) ∧ J xs [] [] ∧
    (∀ a r acc C D m' T R v h tk, J (a :: r) acc T → a.Is v h → Abv Z T → (∀ p ∈ T ++ Z, p ∈ R) → (∀ p ∈ R, p.1 ≠ D) → Fr hB C h m' → News hB C h (accO D acc :: R) →
      wpAny (model prog w) A (assign t1 (compEnvC scope cl C env) v) (fun _ s₂ => wpAny (model prog w) A (eval i2 (compEnvC scope cl C env)) (fun xv s₃ => wpAny (model prog w) A (pyIter xv) (fun it2 s₄ =>
        InAt prog w A hB (compEnvC scope cl C env) D acc R target elt (fun acc' tl => J r acc' (tl ++ T)) { s with heap := h, toks := tk } it2 s₄) (fun _ _ => False) s₃) (fun _ _ => False) s₂) (fun _ _ => False) { s with heap := h, toks := tk }) ∧
    ∀ acc D T h tk, J [] acc T → Abv Z T → (∀ p ∈ Z, p.1 < D) → (∀ p ∈ T, p.1 ≠ D) → Fr hB env.locals h (st (.ref D) m) → News hB env.locals h (accO D acc :: (T ++ Z)) → Q (.ref D) { s with heap := h, toks := tk }

theorem comp_ran2 {st : Value → (Str → Option Value) → Str → Option Value} {i1 i2 elt : PySem.Expr} {scope : Scope} {cl : List (Str × Addr)} {pos : Pos} {RR : Value → Addr → Result → Shared → Prop} {Q : Value → Shared → Prop} {it : Value}
    (hcell : ∀ y ∈ scope.names, y.2 ≠ .cell) (hkind : scope.kind = .function) (hs2 : ∀ cenv x, foldedSetIterable i2 cenv x = pure x)
    (hc : CompAt2 prog w A hB env scope cl t1 i2 target elt st Q it s)
    (hRR : ∀ D C h tk m m' oL led, Fr hB C h m' → News hB C h ((env.locals, oL) :: led) → NsObj oL m → hB.objs.size ≤ env.locals → (∀ p ∈ led, p.1 ≠ env.locals) → (∀ p ∈ led, p.1 ≠ C) →
      (∀ h' tk', Fr hB env.locals h' (st (.ref D) m) → News hB env.locals h' led → Q (.ref D) { s with heap := h', toks := tk' }) → RR (.ref D) C (.ok .next) { s with heap := h, toks := tk }) :
    wpAny (model prog w) A (newList []) (fun acc s₃ => wpAny (model prog w) A (newFunctionEnv scope env.globals cl [] env.qual none .none (some env)) (fun cenv s₄ =>
      codeAny (model prog w) A (.compStart (.ListComp elt [⟨t1, i1, [], 0⟩, ⟨target, i2, [], 0⟩] scope pos) 0 it acc { cenv with scope := relabel scope env }) (RR acc cenv.locals) s₄) (fun _ _ => False) s₃) (fun _ _ => False) s := by
  refine el_EEEEEEEAAAAAAAAA ?_ (hc); rintro I ws keep xs m Z J rfl S F N hw hk hLw h0 turn done
  refine comp_block (mu := []) (Z := Z) (fun xs' acc mu' T => mu' = [] ∧ J xs' acc T) hcell hkind (fun _ _ _ _ _ => codeAny_compStart_list) (fun I acc cenv => compTurn20 elt i1 i2 scope pos (.ref I) acc cenv) S F N hw (fun _ _ hm => nomatch hm) hk hLw ⟨rfl, h0⟩ ?_ ?_
  · rintro a r acc C D m' mu' T R v h tk ⟨rfl, hJ⟩ hv ha ab hs ho hlD F' N'
    have hRD : ∀ p ∈ R, p.1 ≠ D := fun p hp e => ho p hp (e ▸ List.mem_cons_self ..)
    refine wpAny_mono (turn a r acc C D m' T R v h tk hJ hv ab hs hRD F' N') (fun _ s₂ q => ?_) fun _ _ x => x
    show wpAny _ _ (inner2 _ i2 (compEnvC scope cl C env) (.ref D)) _ _ _
    unfold inner2
    refine wpAny_bind (wpAny_mono q (fun xv s₃ q => wpAny_bind (wpAny_standAt (wpAny_bind (wpAny_of_eq (hs2 _ xv) (wpAny_bind (wpAny_holding (wpAny_mono q (fun it2 s₄ q => wpAny_bind (wpAny_runOwn (codeAny_mono (in_run q) fun r s₅ t => ?_)
      (by intro x; cases x))) fun _ _ x => x))))))) fun _ _ x => x)
    refine el_AEEEEEAAAA ?_ (t); rintro rfl tl acc' m₃ h₃ tk₃ e F₃ N₃ ab₃ hJ₃
    exact wpAny_pure (mk_EEEEEAAAAAEEAA tl ([accO D acc']) m₃ h₃ tk₃ e F₃ N₃ rfl ab₃ acc' ([]) rfl rfl hJ₃)
  · rintro acc D C mu' T h tk m' oL ⟨rfl, hJ⟩ ha ab hlD hTD F' N' hn hne
    exact hRR D C h tk m m' oL _ F' N' hn F.above hne (fun p hp => (N' p (.tail _ hp)).2.1) fun h' tk' F2 N2 => done acc D T h' tk' hJ ab hlD hTD F2 N2

theorem comp_assign2 {i1 i2 elt : PySem.Expr} {scope : Scope} {cl : List (Str × Addr)} {pos spos py : Pos} {y : Str} {Q : Flow → Shared → Prop} {m₀ : Str → Option Value} (_F : Fr hB env.locals s.heap m₀)
    (hsw : swapsWith (.ListComp elt [⟨t1, i1, [], 0⟩, ⟨target, i2, [], 0⟩] scope pos) (some (.Name y py)) spos.line env = pure true)
    (hclos : closureFor scope env = pure cl) (hcell : ∀ y ∈ scope.names, y.2 ≠ .cell) (hkind : scope.kind = .function) (hnames : ∀ y ∈ scope.names, y.2 = .local → scope.names.lookup y.1 = some .local)
    (hy : env.kindOf y = some .local) (hp : (env.scope.kind == .class || (env.scope.kind == .module && env.locals != env.globals)) = false)
    (hs : ∀ x, foldedSetIterable i1 env x = pure x) (hs2 : ∀ cenv x, foldedSetIterable i2 cenv x = pure x)
    (h : wpAny (model prog w) A (eval i1 env) (fun xv s₁ => wpAny (model prog w) A (pyIter xv) (fun it s₂ => CompAt2 prog w A hB env scope cl t1 i2 target elt (fun v m z => if z = y then some v else m z) (fun _ s₃ => Q .next s₃) it s₂) (fun _ _ => False) s₁) (fun _ _ => False) s) :
    wpAny (model prog w) A (exec (.Assign [.Name y py] (.ListComp elt [⟨t1, i1, [], 0⟩, ⟨target, i2, [], 0⟩] scope pos) spos) env) Q (fun _ _ => False) s := by
  rw [exec_Assign_Name_used _ _ _ _ hsw]
  refine wpAny_bind (wpAny_standAt (wpAny_bind ?_))
  show wpAny _ A (do let _ ← comprehension (.ListComp elt [⟨t1, i1, [], 0⟩, ⟨target, i2, [], 0⟩] scope pos) scope env _ (newList []) false (eval i1 env) (some (assign (.Name y py) env))) _ _ s
  refine wpAny_bind (wpAny_mono (wpAny_comprehension_free (use := some (assign (.Name y py) env)) (Q := fun _ s' => Q .next s') rfl hs hclos hkind hnames
    (wpAny_mono h (fun xv s₁ h₁ => wpAny_mono h₁ (fun it s₂ h₂ => ?_) fun _ _ e => e) fun _ _ e => e)) (fun _ s' hq => wpAny_pure (wpAny_pure hq)) fun _ _ e => e)
  refine comp_ran2 (RR := fun acc C => compPost (model prog w) A (fun _ _ => False) (some (assign (.Name y py) env)) (fun _ s' => Q .next s') acc C) hcell hkind hs2 h₂ ?_
  intro D C h tk m m' oL led FC NC hn hb hne hneC k
  have hLC : env.locals ≠ C := (NC _ (.head _)).2.1
  show wpAny _ A (assign (.Name y py) env (.ref D)) _ _ _
  refine wpAny_assign_Name (wpAny_storeName_local hy (hn.ns (NC _ (.head _)).1) (fun h₂ hn₂ hs₂ => ?_) hp)
  have low : ∀ {b o}, hB.get? b = some o → b ≠ C := fun e => Nat.ne_of_lt (Nat.lt_of_lt_of_le (Heap.lt_size e) FC.above)
  have lowL : ∀ {b o}, hB.get? b = some o → b ≠ env.locals := fun e => Nat.ne_of_lt (Nat.lt_of_lt_of_le (Heap.lt_size e) hb)
  refine (mk_EA m' (FC.ns.sameBut hs₂ (Ne.symm hLC)) (fun h₃ hs₃ => ?_))
  exact k h₃ _ ⟨hn₂.sameBut hs₃ hLC, fun b o e => (hs₃.2 b (low e)).trans ((hs₂.2 b (lowL e)).trans (FC.keep b o e)), hb⟩
    fun p hp => (mk_AA ((hs₃.2 _ (hneC p hp)).trans ((hs₂.2 _ (hne p hp)).trans (NC p (.tail _ hp)).1)) (hne p hp) ((NC p (.tail _ hp)).2.2))

theorem comp_eval2 {i1 i2 elt : PySem.Expr} {scope : Scope} {cl : List (Str × Addr)} {pos : Pos} {Q : Value → Shared → Prop} {m₀ : Str → Option Value} (_F : Fr hB env.locals s.heap m₀)
    (hclos : closureFor scope env = pure cl) (hcell : ∀ y ∈ scope.names, y.2 ≠ .cell) (hkind : scope.kind = .function) (hnames : ∀ y ∈ scope.names, y.2 = .local → scope.names.lookup y.1 = some .local)
    (hs : ∀ x, foldedSetIterable i1 env x = pure x) (hs2 : ∀ cenv x, foldedSetIterable i2 cenv x = pure x)
    (h : wpAny (model prog w) A (eval i1 env) (fun xv s₁ => wpAny (model prog w) A (pyIter xv) (fun it s₂ => CompAt2 prog w A hB env scope cl t1 i2 target elt (fun _ m => m) Q it s₂) (fun _ _ => False) s₁) (fun _ _ => False) s) :
    wpAny (model prog w) A (eval (.ListComp elt [⟨t1, i1, [], 0⟩, ⟨target, i2, [], 0⟩] scope pos) env) Q (fun _ _ => False) s := by
  rw [eval_ListComp]
  refine wpAny_comprehension_free (use := none) rfl hs hclos hkind hnames (wpAny_mono h (fun xv s₁ h₁ => wpAny_mono h₁ (fun it s₂ h₂ => ?_) fun _ _ e => e) fun _ _ e => e)
  refine comp_ran2 (RR := fun acc C => compPost (model prog w) A (fun _ _ => False) none Q acc C) hcell hkind hs2 h₂ ?_
  intro D C h tk m m' oL led FC NC hn hb hne hneC k
  have hLC : env.locals ≠ C := (NC _ (.head _)).2.1
  refine (mk_EA m' FC.ns (fun h' hs' => k h' tk ⟨hn.ns ((hs'.2 _ hLC).trans (NC _ (.head _)).1), fun b o e => (hs'.2 b ?_).trans (FC.keep b o e), hb⟩ fun p hp => (mk_AA ((hs'.2 _ (hneC p hp)).trans (NC p (.tail _ hp)).1) (hne p hp) ((NC p (.tail _ hp)).2.2))))
  exact Nat.ne_of_lt (Nat.lt_of_lt_of_le (Heap.lt_size e) FC.above)
theorem comp2_listT {i2 elt : PySem.Expr} {scope : Scope} {cl : List (Str × Addr)} {st : Value → (Str → Option Value) → Str → Option Value} {Q : Value → Shared → Prop} {l : Addr} {vs : List Value} {nn : Nat} {m : Str → Option Value} {Z : Led} (J : List Itm → List Value → Led → Prop)
    (hh : A.handled = none) (F : Fr hB env.locals s.heap m) (N : News hB env.locals s.heap Z) (hl : (l, listOf vs.toArray nn) ∈ Z) (h0 : J (vs.map .val) [] [])
    (turn : ∀ a r acc C D m' T R v h tk, J (a :: r) acc T → a.Is v h → Abv Z T → (∀ p ∈ T ++ Z, p ∈ R) → (∀ p ∈ R, p.1 ≠ D) → Fr hB C h m' → News hB C h (accO D acc :: R) →
      wpAny (model prog w) A (assign t1 (compEnvC scope cl C env) v) (fun _ s₂ => wpAny (model prog w) A (eval i2 (compEnvC scope cl C env)) (fun xv s₃ => wpAny (model prog w) A (pyIter xv) (fun it2 s₄ =>
        InAt prog w A hB (compEnvC scope cl C env) D acc R target elt (fun acc' tl => J r acc' (tl ++ T)) { s with heap := h, toks := tk } it2 s₄) (fun _ _ => False) s₃) (fun _ _ => False) s₂) (fun _ _ => False) { s with heap := h, toks := tk })
    (done : ∀ acc D T h tk, J [] acc T → Abv Z T → (∀ p ∈ Z, p.1 < D) → (∀ p ∈ T, p.1 ≠ D) → Fr hB env.locals h (st (.ref D) m) → News hB env.locals h (accO D acc :: (T ++ Z)) → Q (.ref D) { s with heap := h, toks := tk }) :
    wpAny (model prog w) A (pyIter (.ref l)) (fun it s₂ => CompAt2 prog w A hB env scope cl t1 i2 target elt st Q it s₂) (fun _ _ => False) s :=
  src_list hh F N hl fun I h' S F' N' lI hLI _ => (mk_EEEEEEEAAAAAAAAA I _ _ _ m Z J rfl S F' N' (offI lI) ((fun p hp => by rw [List.mem_singleton.mp hp]; exact hl)) (offL hLI) h0 turn done)
theorem in_listT {elt : PySem.Expr} {cenv : Env} {D : Addr} {acc : List Value} {R : Led} {Jo : List Value → Led → Prop} {s₀ : Shared} {l : Addr} {vs : List Value} {nn : Nat} {m : Str → Option Value} (tl0 : Led) (J2 : List Itm → List Value → Led → Prop)
    (hh : A.handled = none) (hs : s = { s₀ with heap := s.heap, toks := s.toks }) (hlen : acc.length + vs.length ≤ 1000000) (F : Fr hB cenv.locals s.heap m) (N : News hB cenv.locals s.heap (accO D acc :: (tl0 ++ R))) (ab0 : Abv (accO D acc :: R) tl0) (hRD : ∀ p ∈ R, p.1 ≠ D) (hl : (l, listOf vs.toArray nn) ∈ tl0 ++ R) (h0 : J2 (vs.map .val) acc [])
    (turn : ∀ a r acc' m' T R' v h tk, J2 (a :: r) acc' T → a.Is v h → (∀ p ∈ T ++ (tl0 ++ R), p ∈ R') → (∀ p ∈ R', p.1 ≠ D) → Fr hB cenv.locals h m' → News hB cenv.locals h (accO D acc' :: R') →
      ∀ P : Value → Shared → Prop, (∀ x s', CEnd hB cenv.locals D acc' [] R' T (fun x mu T' => mu = [] ∧ J2 r x T') { s with heap := h, toks := tk } x s' → P x s') → wpAny (model prog w) A (assign target cenv v) (fun _ s₂ => wpAny (model prog w) A (eval elt cenv) P (fun _ _ => False) s₂) (fun _ _ => False) { s with heap := h, toks := tk })
    (done : ∀ acc' T2, J2 [] acc' T2 → Jo acc' (T2 ++ tl0)) :
    wpAny (model prog w) A (pyIter (.ref l)) (fun it s₂ => InAt prog w A hB cenv D acc R target elt Jo s₀ it s₂) (fun _ _ => False) s :=
  src_list hh F N (.tail _ hl) fun I h' S F' N' lI hLI _ => (mk_EEEEEEEAAAAAAAAAAAAA I _ _ _ m tl0 J2 rfl (by rw [hs]) (by rw [List.length_map]; exact hlen) S F' N' ab0 hRD (offI lI) ((fun p hp => by rw [List.mem_singleton.mp hp]; exact hl)) (offL hLI) h0 (fun a r acc' m' T R' v h tk a0 a1 a2 a3 a4 a5 => turn a r acc' m' T R' v h tk a0 a1 a2 a3 a4 a5 _ fun _ _ x => x) done)
end
open PySem PySem.Calls PySem.W PyProof.Rows
set_option Elab.async false
set_option maxRecDepth 100000
set_option maxHeartbeats 4000000
set_option linter.unusedVariables false
section
variable {prog : Program} {w : World} {A : Around} {E : Value → Shared → Prop} {s : Shared} {L : Addr} {hB : Heap} {m mg mb : Str → Option Value} {p : Program} {loose : List Str} {Q : Value → Shared → Prop} {news : Led}
def heldA : List Nat := [412, 424, 431, 438, 445, 450, 457, 471, 478, 483, 488, 493, 500, 507, 512]
def Hold0 (P : Prop) : Prop := P
theorem of_holdC {M : Model} {n : Nat} {as : List Value} {kw : List (Str × Value)} {Q : Value → Shared → Prop} {E : Value → Shared → Prop} (_ : heldA.contains n = true) (k : Hold0 (wpAny M A (call (.ref n) as kw) Q E s)) : wpAny M A (call (.ref n) as kw) Q E s := k

local macro_rules | `(tactic| walk_at "call ref") => `(tactic| (k_here; with_reducible refine of_holdC (by decide) ?_))
local macro_rules | `(tactic| size_fits) => `(tactic| exact Nat.le_of_ble_eq_true rfl)
local macro_rules | `(tactic| walk_at "q ret0") => `(tactic| (intro h' tk' F' N'; (try k_sweep)))
local macro_rules | `(tactic| walk_at "q ret8") => `(tactic| (intro x' tl' h' tk' F' N' ab' in'; (replace N' := newsSwap N'); (try dsimp only [List.cons_append] at N'); (try k_sweep)))
local macro_rules | `(tactic| walk_at "q up") => `(tactic| (intro p9 hp9; repeat (first | exact hp9 | refine List.mem_cons_of_mem _ ?_ | refine List.mem_append_right _ ?_)))
local macro_rules | `(tactic| walk_at "q split") => `(tactic| repeat ((rename _ ∧ _ => hh9); (obtain ⟨_, _⟩ := hh9)))
local macro_rules | `(tactic| walk_at "q lt") => `(tactic| first | assumption | exact ltCons (by omega) (by assumption) | exact ltCons (by omega) (allLt_left (by assumption)))
local macro_rules | `(tactic| walk_at "q abv") => `(tactic| ((try dsimp only [List.cons_append, List.nil_append]); repeat (first | exact Abv.nil | (refine Abv.cons (by walk_at "q lt") ?_) | (refine Abv.sub (by assumption) ?_; walk_at "q up"))))
local macro_rules | `(tactic| walk_at "q sub") => `(tactic| (intro q9 hq9; (try simp only [List.mem_append, List.mem_cons, List.not_mem_nil, or_false, false_or, List.cons_append, List.nil_append] at hq9 ⊢); (first | assumption | grind)))
local macro_rules | `(tactic| walk_at "q mem") => `(tactic| first | with_reducible assumption | (with_reducible exact List.mem_cons_self ..) | (refine List.mem_append_left _ ?_; walk_at "q mem") | (refine List.mem_append_right _ ?_; walk_at "q mem") | (refine List.mem_cons_of_mem _ ?_; walk_at "q mem"))
local macro_rules | `(tactic| walk_at "q sub") => `(tactic| ((try dsimp only [List.cons_append, List.nil_append]); (repeat' (first | (refine subCons (by walk_at "q mem") ?_) | refine subApp ?_ ?_)); all_goals (intro p9 hp9; walk_at "q mem"); done))
local macro_rules | `(tactic| walk_at "eval Name") => `(tactic| (k_here; k_dflt (first
  | (refine' nmL ?F ?v ?_ ?l ?k ?x ?d; (case x => rfl); (case l => rfl); (case k => rfl); (case d => decide); (case F => k_asm); (case v => rfl); k_whole)
  | (refine' nmC ?N ?c ?m ?o ?_ ?k ?x ?d; (case x => rfl); (case k => rfl); (case d => decide); (case c => rfl); (case N => k_asm); (case m => k_mem); (case o => k_asm); k_whole)
  | (refine' nmG ?F ?X ?T ?e ?_ ?g ?k ?x ?d; (case x => rfl); (case g => rfl); (case k => rfl); (case d => decide); (case F => k_asm); (case X => k_asm); (case T => k_asm); (case e => k_is); k_whole)
  | (refine' nmB ?F ?X ?T ?e ?v ?n ?_ ?g ?b ?k ?x ?d; (case x => rfl); (case g => rfl); (case b => rfl); (case k => rfl); (case d => decide); (case F => k_asm); (case X => k_asm); (case T => k_asm); (case e => k_is); (case v => boot_fast); (case n => decide); k_whole))))
local macro_rules | `(tactic| walk_at "storeName") => `(tactic| (k_here; k_dflt (refine' stG ?F ?N ?_ ?l ?x ?p; (case x => rfl); (case l => rfl); (case p => rfl); (case F => k_asm); (case N => k_asm); k_whole); intro h' F' N'; (try k_sweep)))
local macro_rules | `(tactic| walk_at "call type:tuple") => `(tactic| (k_here; (with_reducible show wpAny _ _ (call (Value.type _) [Value.ref _]) _ _ _); k_dflt (refine' kde_tupleOf ?k1 ?k2 ?k3 ?k4 ?k5 ?_; (case k1 => k_asm); (case k2 => k_asm); (case k3 => exact News.isList (by k_asm) (by k_mem)); (case k4 => first | assumption | exact Nat.le_of_ble_eq_true rfl); (case k5 => first | exact List.toList_toArray | exact rfl); k_whole); intro D' h' F' N' l1; (try k_lt l1); (try k_sweep)))
local macro_rules | `(tactic| walk_at "q for") => `(tactic| (k_here; (rename Fr _ _ _ _ => lF'); k_dflt (refine' For_turns lF' ?_; k_whole)))
local macro_rules | `(tactic| walk_at "exec For") => `(tactic| walk_at "q for")
local macro_rules | `(tactic| walk_at "q comp") => `(tactic| ((case a => with_unfolding_all rfl); (case b => decide); (case c => rfl); (case d => decide); (case e => (intro _; rfl)); (case f => (intro _ _ _; rfl)); (case F => k_asm)))
local macro_rules | `(tactic| walk_at "eval ListComp") => `(tactic| (k_here; (with_reducible show wpAny _ _ (eval (Expr.ListComp _ [_] _ _) _) _ _ _); k_dflt (refine' comp_eval ?F ?a ?b ?c ?d ?e ?f ?_; walk_at "q comp")))
local macro_rules | `(tactic| walk_at "exec Assign cons ListComp") => `(tactic| (k_here; (with_reducible show wpAny _ _ (exec (Stmt.Assign [_] (Expr.ListComp _ [_] _ _) _) _) _ _ _); k_dflt (refine' comp_assign ?F ?w ?a ?b ?c ?d ?y ?p ?e ?f ?_; (case w => with_unfolding_all rfl); walk_at "q comp"; (case y => rfl); (case p => rfl))))
local macro_rules | `(tactic| k_mem) => `(tactic| assumption)
local macro_rules | `(tactic| k_all) => `(tactic| (refine' List.forall_mem_append.mpr ⟨?a, ?b⟩; (case a => k_all); (case b => k_all)))
local macro_rules | `(tactic| k_all) => `(tactic| assumption)
local macro_rules | `(tactic| walk_at "q ok") => `(tactic| first | assumption | ((repeat (first | refine Ok.deeper ?_ | refine Ok.in1 ?_ | refine Ok.make ?_)); exact Ok.le (by assumption) (by first | decide | omega)))
local macro_rules | `(tactic| walk_at "q pre4") => `(tactic| ((case F => k_asm); (case X => k_asm); (case N => k_asm); (case T => k_asm)))
local macro_rules | `(tactic| walk_at "q sidesA") => `(tactic| (walk_at "q pre4"; (case ho => k_dflt k_is); (case hcd => k_dflt k_is); (case hr => (refine Ok.room (n := 0) ?_; walk_at "q ok")); (case hb => k_dflt (first | exact BindsTo.of_eq rfl | exact binds_K (by k_in) rfl (by k_is) rfl rfl rfl)); (case c1 => k_dflt (exact rfl)); (case c2 => k_dflt (exact rfl)); (case c3 => k_dflt (exact rfl))))
local macro_rules | `(tactic| walk_at "q sides") => `(tactic| (walk_at "q sidesA"; (case hl => k_dflt (exact locs rfl)); (case c4 => decide)))
local macro_rules | `(tactic| walk_at "q sidesC") => `(tactic| (walk_at "q sidesA"; (case hk => k_dflt (exact rfl)); (case hn => decide +kernel)))
local macro_rules | `(tactic| walk_at "q pre") => `(tactic| (walk_at "q pre4"; (case ok => walk_at "q ok")))
theorem is_whole_ct {v lo hi : Int} {tv tl th : Tok} (X : (hd.heap_1 w.params).In hB) (T : TopRead p loose mg mb hB) (ok : Ok 1 A)
    (F : Fr hB L s.heap m) (N : News hB L s.heap news)
    (ret : ∀ h' tk', Fr hB L h' m → News hB L h' news → Q (.bool (decide (lo ≤ v ∧ v ≤ hi))) { s with heap := h', toks := tk' }) :
    wpAny (model prog w) A (call (.ref 101) [.int v tv, .int lo tl, .int hi th]) Q E s := by
  refine wpAny_call ?_
  k_dflt (refine' enterC [(Str.ofString "value", .int v tv), (Str.ofString "low", .int lo tl), (Str.ofString "high", .int hi th)] ?F ?X ?N ?T ?ho ?hcd ?hr ?hb ?hl ?c1 ?c2 ?c3 ?c4 ?_)
  walk_at "q sides"
  intro L' h₁ oL tk F' N' nL lt hL off
  clear F N
  k_steps
  · rename_i h1
    obtain ⟨F2, N2⟩ := leave0 hL nL off F' N'
    have e : decide (lo ≤ v ∧ v ≤ hi) = decide (v ≤ hi) := by simp [h1]
    rw [e] at ret
    exact ret _ _ F2 N2
  · rename_i h1
    obtain ⟨F2, N2⟩ := leave0 hL nL off F' N'
    have e : decide (lo ≤ v ∧ v ≤ hi) = decide (lo ≤ v) := by simp [h1]
    rw [e] at ret
    exact ret _ _ F2 N2

local macro_rules | `(tactic| walk_at "call ref") => `(tactic| (k_dflt (refine' is_whole_ct ?X ?T ?ok ?F ?N ?_; walk_at "q pre"; k_whole); walk_at "q ret0"))

theorem check_whole_ct {v : Int} {tv : Tok} (X : (hd.heap_1 w.params).In hB) (T : TopRead p loose mg mb hB) (ok : Ok 1 A)
    (F : Fr hB L s.heap m) (N : News hB L s.heap news)
    (ret : ∀ h' tk', Fr hB L h' m → News hB L h' news → Q (.int v tv) { s with heap := h', toks := tk' }) :
    wpAny (model prog w) A (call (.ref 108) [.int v tv]) Q E s := by
  refine wpAny_call ?_
  k_dflt (refine' enterC [(Str.ofString "value", .int v tv)] ?F ?X ?N ?T ?ho ?hcd ?hr ?hb ?hl ?c1 ?c2 ?c3 ?c4 ?_)
  walk_at "q sides"
  intro L' h₁ oL tk F' N' nL lt hL off
  clear F N
  k_steps
  · obtain ⟨F2, N2⟩ := leave0 hL nL off F' N'
    exact ret _ _ F2 N2

local macro_rules | `(tactic| walk_at "call ref") => `(tactic| (k_dflt (refine' check_whole_ct ?X ?T ?ok ?F ?N ?_; walk_at "q pre"; k_whole); walk_at "q ret0"))

theorem check_number_ct {v : Int} {tv : Tok} (X : (hd.heap_1 w.params).In hB) (T : TopRead p loose mg mb hB) (ok : Ok 2 A)
    (F : Fr hB L s.heap m) (N : News hB L s.heap news) (hv : -2147483647 ≤ v ∧ v ≤ 2147483647)
    (ret : ∀ h' tk', Fr hB L h' m → News hB L h' news → Q (.int v tv) { s with heap := h', toks := tk' }) :
    wpAny (model prog w) A (call (.ref 115) [.int v tv]) Q E s := by
  refine wpAny_call ?_
  k_dflt (refine' enterC [(Str.ofString "value", .int v tv)] ?F ?X ?N ?T ?ho ?hcd ?hr ?hb ?hl ?c1 ?c2 ?c3 ?c4 ?_)
  walk_at "q sides"
  intro L' h₁ oL tk F' N' nL lt hL off
  clear F N
  k_steps
  obtain ⟨F2, N2⟩ := leave0 hL nL off (by assumption) (by assumption)
  exact ret _ _ F2 N2

local macro_rules | `(tactic| walk_at "call ref") => `(tactic| (k_dflt (refine' check_number_ct ?X ?T ?ok ?F ?N ?hv ?_; walk_at "q pre"; (case hv => omega); k_whole); walk_at "q ret0"))

theorem check_dimen_ct {v : Int} {tv : Tok} (X : (hd.heap_1 w.params).In hB) (T : TopRead p loose mg mb hB) (ok : Ok 2 A)
    (F : Fr hB L s.heap m) (N : News hB L s.heap news) (hv : -1073741823 ≤ v ∧ v ≤ 1073741823)
    (ret : ∀ h' tk', Fr hB L h' m → News hB L h' news → Q (.int v tv) { s with heap := h', toks := tk' }) :
    wpAny (model prog w) A (call (.ref 122) [.int v tv]) Q E s := by
  refine wpAny_call ?_
  k_dflt (refine' enterC [(Str.ofString "value", .int v tv)] ?F ?X ?N ?T ?ho ?hcd ?hr ?hb ?hl ?c1 ?c2 ?c3 ?c4 ?_)
  walk_at "q sides"
  intro L' h₁ oL tk F' N' nL lt hL off
  clear F N
  k_steps
  obtain ⟨F2, N2⟩ := leave0 hL nL off (by assumption) (by assumption)
  exact ret _ _ F2 N2

local macro_rules | `(tactic| walk_at "call ref") => `(tactic| (k_dflt (refine' check_dimen_ct ?X ?T ?ok ?F ?N ?hv ?_; walk_at "q pre"; (case hv => omega); k_whole); walk_at "q ret0"))


def KernIn (Z : Led) (v : Value) (size : Int) : Prop := ∃ x dx h1 h2 t1 t2 tv ts n, v = .ref x ∧ (x, instObj 346 dx) ∈ Z ∧ (dx, dictOf [⟨h1, .str (Str.ofString "width") t1, .int size tv⟩, ⟨h2, .str (Str.ofString "sort") t2, .int 1 ts⟩] n) ∈ Z
theorem KernIn.mono {Z Z' : Led} {v : Value} {i : Int} (h : KernIn Z v i) (hs : ∀ p ∈ Z, p ∈ Z') : KernIn Z' v i := by
  refine el_EEEEEEEEEAA ?_ (h); rintro x dx h1 h2 t1 t2 tv ts n e a b
  exact (mk_EEEEEEEEEAA x dx h1 h2 t1 t2 tv ts n e (hs _ a) (hs _ b))
theorem kern_ct {v : Int} {tv t1 : Tok} (X : (hd.heap_1 w.params).In hB) (T : TopRead p loose mg mb hB) (ok : Ok 5 A)
    (F : Fr hB L s.heap m) (N : News hB L s.heap news) (hv : -1073741823 ≤ v ∧ v ≤ 1073741823)
    (ret : ∀ x tl h' tk', Fr hB L h' m → News hB L h' (tl ++ news) → Abv news tl → KernIn tl (.ref x) v → Q (.ref x) { s with heap := h', toks := tk' }) :
    wpAny (model prog w) A (call (.ref 346) [.int v tv, .int 1 t1]) Q E s := by
  obtain ⟨ah, ad, af, ag, au⟩ := A
  have hh := ok.handled
  dsimp only at hh
  subst hh
  k_dflt (refine' call_cls ?k1 ?k2 ?k3 ?k4 ?k5 ?k6 ?_; (case k1 => k_asm); (case k2 => k_asm); (case k3 => k_asm); (case k4 => k_is); (case k5 => k_is); (case k6 => k_is); k_whole)
  intro x' d' h' F1 N1 l1 l2
  k_dflt (refine' enterC [(Str.ofString "self", .ref x'), (Str.ofString "width", .int v tv), (Str.ofString "sort", .int 1 t1)] ?F ?X ?N ?T ?ho ?hcd ?hr ?hb ?hl ?c1 ?c2 ?c3 ?c4 ?_)
  walk_at "q sides"
  intro L' h₁ oL tk F' N' nL lt hL off
  clear F N F1 N1
  have e1 := neN (off _ (.head _))
  have e2 := neN (off _ (.tail _ (.head _)))
  replace l2 := ltN l2
  have e3 : ∀ p ∈ news, p.1 ≠ d' := fun p hp => Nat.ne_of_lt (l1 p hp)
  k_steps
  all_goals (
    (try dsimp only [InitBack])
    refine ⟨rfl, ?_⟩
    (try dsimp only)
    obtain ⟨F2, N2⟩ := leaveT [(x', instObj 346 d'), (d', _)] hL nL (off2 off) (by assumption) (by assumption) (.head _) (fun q hq => .tail _ hq)
    refine ret _ _ _ _ F2 N2 (Abv.two l1 l2) ?_
    exact (mk_EEEEEEEEEAA _ _ _ _ _ _ _ _ _ rfl (.head _) (.tail _ (.head _))))

def GlueIn (Z : Led) (v : Value) (g : Int) : Prop := ∃ x dx h1 h2 h3 h4 h5 t1 t2 t3 t4 t5 tv v2 v3 v4 v5 n, v = .ref x ∧ (x, instObj 232 dx) ∈ Z ∧ (dx, dictOf [⟨h1, .str (Str.ofString "width") t1, .int g tv⟩, ⟨h2, .str (Str.ofString "stretch") t2, v2⟩, ⟨h3, .str (Str.ofString "stretch_order") t3, v3⟩, ⟨h4, .str (Str.ofString "shrink") t4, v4⟩, ⟨h5, .str (Str.ofString "shrink_order") t5, v5⟩] n) ∈ Z
theorem GlueIn.mono {Z Z' : Led} {v : Value} {i : Int} (h : GlueIn Z v i) (hs : ∀ p ∈ Z, p ∈ Z') : GlueIn Z' v i := by
  refine el_EEEEEEEEEEEEEEEEEEAA ?_ (h); rintro x dx h1 h2 h3 h4 h5 t1 t2 t3 t4 t5 tv v2 v3 v4 v5 n e a b
  exact (mk_EEEEEEEEEEEEEEEEEEAA x dx h1 h2 h3 h4 h5 t1 t2 t3 t4 t5 tv v2 v3 v4 v5 n e (hs _ a) (hs _ b))
theorem glue_ct {v f f2 : Int} {tv tf to tg tp : Tok} (X : (hd.heap_1 w.params).In hB) (T : TopRead p loose mg mb hB) (ok : Ok 5 A)
    (F : Fr hB L s.heap m) (N : News hB L s.heap news) (hv : -1073741823 ≤ v ∧ v ≤ 1073741823) (hf : -1073741823 ≤ f ∧ f ≤ 1073741823) (hg : -1073741823 ≤ f2 ∧ f2 ≤ 1073741823)
    (ret : ∀ x tl h' tk', Fr hB L h' m → News hB L h' (tl ++ news) → Abv news tl → GlueIn tl (.ref x) v → Q (.ref x) { s with heap := h', toks := tk' }) :
    wpAny (model prog w) A (call (.ref 232) [.int v tv, .int f tf, .int 1 to, .int f2 tg, .int 0 tp]) Q E s := by
  obtain ⟨ah, ad, af, ag, au⟩ := A
  have hh := ok.handled
  dsimp only at hh
  subst hh
  k_dflt (refine' call_cls ?k1 ?k2 ?k3 ?k4 ?k5 ?k6 ?_; (case k1 => k_asm); (case k2 => k_asm); (case k3 => k_asm); (case k4 => k_is); (case k5 => k_is); (case k6 => k_is); k_whole)
  intro x' d' h' F1 N1 l1 l2
  k_dflt (refine' enterC [(Str.ofString "self", .ref x'), (Str.ofString "width", .int v tv), (Str.ofString "stretch", .int f tf), (Str.ofString "stretch_order", .int 1 to), (Str.ofString "shrink", .int f2 tg), (Str.ofString "shrink_order", .int 0 tp)] ?F ?X ?N ?T ?ho ?hcd ?hr ?hb ?hl ?c1 ?c2 ?c3 ?c4 ?_)
  walk_at "q sides"
  intro L' h₁ oL tk F' N' nL lt hL off
  clear F N F1 N1
  have e1 := neN (off _ (.head _))
  have e2 := neN (off _ (.tail _ (.head _)))
  replace l2 := ltN l2
  have e3 : ∀ p ∈ news, p.1 ≠ d' := fun p hp => Nat.ne_of_lt (l1 p hp)
  k_steps
  all_goals (
    (try dsimp only [InitBack])
    refine ⟨rfl, ?_⟩
    (try dsimp only)
    obtain ⟨F2, N2⟩ := leaveT [(x', instObj 232 d'), (d', _)] hL nL (off2 off) (by assumption) (by assumption) (.head _) (fun q hq => .tail _ hq)
    refine ret _ _ _ _ F2 N2 (Abv.two l1 l2) ?_
    exact (mk_EEEEEEEEEEEEEEEEEEAA _ _ _ _ _ _ _ _ _ _ _ _ _ _ _ _ _ _ rfl (.head _) (.tail _ (.head _))))

def PenIn (Z : Led) (v : Value) (k : Int) : Prop := ∃ x dx h1 t1 tv n, v = .ref x ∧ (x, instObj 367 dx) ∈ Z ∧ (dx, dictOf [⟨h1, .str (Str.ofString "value") t1, .int k tv⟩] n) ∈ Z
theorem PenIn.mono {Z Z' : Led} {v : Value} {i : Int} (h : PenIn Z v i) (hs : ∀ p ∈ Z, p ∈ Z') : PenIn Z' v i := by
  refine el_EEEEEEAA ?_ (h); rintro x dx h1 t1 tv n e a b
  exact (mk_EEEEEEAA x dx h1 t1 tv n e (hs _ a) (hs _ b))
theorem pen_ct {v : Int} {tv : Tok} (X : (hd.heap_1 w.params).In hB) (T : TopRead p loose mg mb hB) (ok : Ok 5 A)
    (F : Fr hB L s.heap m) (N : News hB L s.heap news) (hv : -2147483647 ≤ v ∧ v ≤ 2147483647)
    (ret : ∀ x tl h' tk', Fr hB L h' m → News hB L h' (tl ++ news) → Abv news tl → PenIn tl (.ref x) v → Q (.ref x) { s with heap := h', toks := tk' }) :
    wpAny (model prog w) A (call (.ref 367) [.int v tv]) Q E s := by
  obtain ⟨ah, ad, af, ag, au⟩ := A
  have hh := ok.handled
  dsimp only at hh
  subst hh
  k_dflt (refine' call_cls ?k1 ?k2 ?k3 ?k4 ?k5 ?k6 ?_; (case k1 => k_asm); (case k2 => k_asm); (case k3 => k_asm); (case k4 => k_is); (case k5 => k_is); (case k6 => k_is); k_whole)
  intro x' d' h' F1 N1 l1 l2
  k_dflt (refine' enterC [(Str.ofString "self", .ref x'), (Str.ofString "value", .int v tv)] ?F ?X ?N ?T ?ho ?hcd ?hr ?hb ?hl ?c1 ?c2 ?c3 ?c4 ?_)
  walk_at "q sides"
  intro L' h₁ oL tk F' N' nL lt hL off
  clear F N F1 N1
  have e1 := neN (off _ (.head _))
  have e2 := neN (off _ (.tail _ (.head _)))
  replace l2 := ltN l2
  have e3 : ∀ p ∈ news, p.1 ≠ d' := fun p hp => Nat.ne_of_lt (l1 p hp)
  k_steps
  all_goals (
    (try dsimp only [InitBack])
    refine ⟨rfl, ?_⟩
    (try dsimp only)
    obtain ⟨F2, N2⟩ := leaveT [(x', instObj 367 d'), (d', _)] hL nL (off2 off) (by assumption) (by assumption) (.head _) (fun q hq => .tail _ hq)
    refine ret _ _ _ _ F2 N2 (Abv.two l1 l2) ?_
    exact (mk_EEEEEEAA _ _ _ _ _ _ rfl (.head _) (.tail _ (.head _))))

def RuleIn (Z : Led) (v : Value) : Prop := ∃ x dx h1 h2 h3 t1 t2 t3 th n, v = .ref x ∧ (x, instObj 325 dx) ∈ Z ∧ (dx, dictOf [⟨h1, .str (Str.ofString "width") t1, .none⟩, ⟨h2, .str (Str.ofString "height") t2, .int 1 th⟩, ⟨h3, .str (Str.ofString "depth") t3, .none⟩] n) ∈ Z
theorem RuleIn.mono {Z Z' : Led} {v : Value} (h : RuleIn Z v) (hs : ∀ p ∈ Z, p ∈ Z') : RuleIn Z' v := by
  refine el_EEEEEEEEEEAA ?_ (h); rintro x dx h1 h2 h3 t1 t2 t3 th n e a b
  exact (mk_EEEEEEEEEEAA x dx h1 h2 h3 t1 t2 t3 th n e (hs _ a) (hs _ b))
theorem rule_ct {th : Tok} (X : (hd.heap_1 w.params).In hB) (T : TopRead p loose mg mb hB) (ok : Ok 5 A)
    (F : Fr hB L s.heap m) (N : News hB L s.heap news)
    (ret : ∀ x tl h' tk', Fr hB L h' m → News hB L h' (tl ++ news) → Abv news tl → RuleIn tl (.ref x) → Q (.ref x) { s with heap := h', toks := tk' }) :
    wpAny (model prog w) A (call (.ref 325) [.none, .int 1 th, .none]) Q E s := by
  obtain ⟨ah, ad, af, ag, au⟩ := A
  have hh := ok.handled
  dsimp only at hh
  subst hh
  k_dflt (refine' call_cls ?k1 ?k2 ?k3 ?k4 ?k5 ?k6 ?_; (case k1 => k_asm); (case k2 => k_asm); (case k3 => k_asm); (case k4 => k_is); (case k5 => k_is); (case k6 => k_is); k_whole)
  intro x' d' h' F1 N1 l1 l2
  k_dflt (refine' enterC [(Str.ofString "self", .ref x'), (Str.ofString "width", .none), (Str.ofString "height", .int 1 th), (Str.ofString "depth", .none)] ?F ?X ?N ?T ?ho ?hcd ?hr ?hb ?hl ?c1 ?c2 ?c3 ?c4 ?_)
  walk_at "q sides"
  intro L' h₁ oL tk F' N' nL lt hL off
  clear F N F1 N1
  have e1 := neN (off _ (.head _))
  have e2 := neN (off _ (.tail _ (.head _)))
  replace l2 := ltN l2
  have e3 : ∀ p ∈ news, p.1 ≠ d' := fun p hp => Nat.ne_of_lt (l1 p hp)
  k_steps
  rename_i D2 h2 F2 N2 l3
  refine for_tupleT (mu := []) (fun xs m mu T => T = [] ∧ mu = [] ∧ (∀ z, z ≠ Str.ofString "size" → m z = List.lookup z [(Str.ofString "self", Value.ref x'), (Str.ofString "width", Value.none), (Str.ofString "height", Value.int 1 th), (Str.ofString "depth", Value.none)].reverse) ∧ ∀ a ∈ xs, a = Itm.val .none ∨ a = Itm.val (.int 1 th)) rfl F2 N2 (.head _) notIn_nil (mk_AAA rfl rfl (fun _ _ => rfl) (fun a ha => ?_)) ?_ ?_
  · simp only [List.map_cons, List.map_nil, List.mem_cons, List.not_mem_nil, or_false] at ha
    rcases ha with rfl | rfl | rfl <;> simp
  · rintro a r m' mu' T R v h4 tk4; refine el_AAA ?_; rintro rfl rfl hm hx hv _ _ hs _ F4 N4 PZ hPZ
    clear F2 N2
    rcases hx a (.head _) with rfl | rfl
    · obtain rfl : v = .none := hv
      k_steps
      refine hPZ _ _ ?_; exact (mk_EEEEEAAAAAAAA ([]) ([]) _ _ _ rfl (by assumption) (by assumption) rfl Abv.nil rfl rfl (fun z hz => by rw [if_neg hz]; exact hm z hz) (fun a ha => hx a (.tail _ ha)))
    · obtain rfl : v = .int 1 th := hv
      k_steps
      refine hPZ _ _ ?_; exact (mk_EEEEEAAAAAAAA ([]) ([]) _ _ _ rfl (by assumption) (by assumption) rfl Abv.nil rfl rfl (fun z hz => by rw [if_neg hz]; exact hm z hz) (fun a ha => hx a (.tail _ ha)))
  · rintro m' mu' T h4 tk4; refine el_AAA ?_; rintro rfl rfl hm _ _ _ F4 N4
    clear F2 N2
    replace F4 : Fr hB L' h4 m' := F4
    replace F4 := pin (pin (pin (pin F4 (v := .ref x') (hm (Str.ofString "self") (by decide))) (x := Str.ofString "width") (v := .none) (hm _ (by decide))) (x := Str.ofString "height") (v := .int 1 th) (hm _ (by decide))) (x := Str.ofString "depth") (v := .none) (hm _ (by decide))
    replace N4 : News hB L' h4 ((D2, _) :: (L, oL) :: (x', _) :: (d', _) :: news) := N4
    k_steps
    (try dsimp only [InitBack])
    refine ⟨rfl, ?_⟩
    (try dsimp only)
    obtain ⟨F2, N2⟩ := leaveT [(x', instObj 325 d'), (d', _)] hL nL (off2 off) (by assumption) (by assumption) (.tail _ (.head _)) (fun q hq => .tail _ (.tail _ hq))
    refine ret _ _ _ _ F2 N2 (Abv.two l1 l2) ?_
    exact (mk_EEEEEEEEEEAA _ _ _ _ _ _ _ _ _ _ rfl (.head _) (.tail _ (.head _)))

def TotIn (Z : Led) (v : Value) : Prop := ∃ x dx la lb h1 h2 h3 t1 t2 t3 tn a0 a1 a2 a3 b0 b1 b2 b3 n, v = .ref x ∧ (x, instObj 288 dx) ∈ Z ∧ (dx, dictOf [⟨h1, .str (Str.ofString "natural") t1, .int 0 tn⟩, ⟨h2, .str (Str.ofString "stretch") t2, .ref la⟩, ⟨h3, .str (Str.ofString "shrink") t3, .ref lb⟩] n) ∈ Z ∧
  (la, listOf [Value.int 0 a0, .int 0 a1, .int 0 a2, .int 0 a3].toArray 0) ∈ Z ∧ (lb, listOf [Value.int 0 b0, .int 0 b1, .int 0 b2, .int 0 b3].toArray 0) ∈ Z
theorem TotIn.mono {Z Z' : Led} {v : Value} (h : TotIn Z v) (hs : ∀ p ∈ Z, p ∈ Z') : TotIn Z' v := by
  refine el_EEEEEEEEEEEEEEEEEEEEAAAA ?_ (h); rintro x dx la lb h1 h2 h3 t1 t2 t3 tn a0 a1 a2 a3 b0 b1 b2 b3 n e a b c d
  exact (mk_EEEEEEEEEEEEEEEEEEEEAAAA x dx la lb h1 h2 h3 t1 t2 t3 tn a0 a1 a2 a3 b0 b1 b2 b3 n e (hs _ a) (hs _ b) (hs _ c) (hs _ d))
theorem tot_ct  (X : (hd.heap_1 w.params).In hB) (T : TopRead p loose mg mb hB) (ok : Ok 5 A)
    (F : Fr hB L s.heap m) (N : News hB L s.heap news)
    (ret : ∀ x tl h' tk', Fr hB L h' m → News hB L h' (tl ++ news) → Abv news tl → TotIn tl (.ref x) → Q (.ref x) { s with heap := h', toks := tk' }) :
    wpAny (model prog w) A (call (.ref 288) []) Q E s := by
  obtain ⟨ah, ad, af, ag, au⟩ := A
  have hh := ok.handled
  dsimp only at hh
  subst hh
  k_dflt (refine' call_cls ?k1 ?k2 ?k3 ?k4 ?k5 ?k6 ?_; (case k1 => k_asm); (case k2 => k_asm); (case k3 => k_asm); (case k4 => k_is); (case k5 => k_is); (case k6 => k_is); k_whole)
  intro x' d' h' F1 N1 l1 l2
  k_dflt (refine' enterC [(Str.ofString "self", .ref x')] ?F ?X ?N ?T ?ho ?hcd ?hr ?hb ?hl ?c1 ?c2 ?c3 ?c4 ?_)
  walk_at "q sides"
  intro L' h₁ oL tk F' N' nL lt hL off
  clear F N F1 N1
  have e1 := neN (off _ (.head _))
  have e2 := neN (off _ (.tail _ (.head _)))
  replace l2 := ltN l2
  have e3 : ∀ p ∈ news, p.1 ≠ d' := fun p hp => Nat.ne_of_lt (l1 p hp)
  k_steps
  (try dsimp only [InitBack])
  refine ⟨rfl, ?_⟩
  (try dsimp only)
  refine el_AAA ?_ (‹L < _ ∧ x' < _ ∧ d' < _ ∧ AllLt _ news›); rintro p1 p2 p3 p4
  refine el_AAAA ?_ (‹_ < _ ∧ L < _ ∧ x' < _ ∧ d' < _ ∧ AllLt _ news›); rintro q1 q2 q3 q4 q5
  obtain ⟨F2, N2⟩ := leave22 hL nL (by assumption) ‹News _ _ _ _› (fun q hq => by
    simp only [List.cons_append, List.nil_append, List.mem_cons] at hq
    rcases hq with rfl | rfl | rfl | rfl | h
    · exact e1
    · exact e2
    · exact Nat.ne_of_gt q2
    · exact Nat.ne_of_gt p1
    · exact off q (.tail _ (.tail _ h)))
  refine ret _ _ _ _ F2 N2 (Abv.app (Abv.two l1 l2) (Abv.cons (ltAll q5) (Abv.cons (ltAll p4) Abv.nil))) ?_
  exact (mk_EEEEEEEEEEEEEEEEEEEEAAAA _ _ _ _ _ _ _ _ _ _ _ _ _ _ _ _ _ _ _ _ rfl (.head _) (.tail _ (.head _)) (.tail _ (.tail _ (.tail _ (.head _)))) (.tail _ (.tail _ (.head _))))

def UnsetIn (Z : Led) (v : Value) (wd ht dp sp : Int) (vert : Bool) (items totals : Value) : Prop := ∃ x dx h1 h2 h3 h4 h5 h6 h7 t1 t2 t3 t4 t5 t6 t7 tw th td ts n, v = .ref x ∧ (x, instObj 389 dx) ∈ Z ∧ (dx, dictOf [⟨h1, .str (Str.ofString "width") t1, .int wd tw⟩, ⟨h2, .str (Str.ofString "height") t2, .int ht th⟩, ⟨h3, .str (Str.ofString "depth") t3, .int dp td⟩, ⟨h4, .str (Str.ofString "items") t4, items⟩, ⟨h5, .str (Str.ofString "spans") t5, .int sp ts⟩, ⟨h6, .str (Str.ofString "totals") t6, totals⟩, ⟨h7, .str (Str.ofString "is_vertical") t7, .bool vert⟩] n) ∈ Z
theorem UnsetIn.mono {Z Z' : Led} {v : Value} {wd ht dp sp : Int} {vert : Bool} {items totals : Value} (h : UnsetIn Z v wd ht dp sp vert items totals) (hs : ∀ p ∈ Z, p ∈ Z') : UnsetIn Z' v wd ht dp sp vert items totals := by
  refine el_EEEEEEEEEEEEEEEEEEEEEAA ?_ (h); rintro x dx h1 h2 h3 h4 h5 h6 h7 t1 t2 t3 t4 t5 t6 t7 tw th td ts n e a b
  exact (mk_EEEEEEEEEEEEEEEEEEEEEAA x dx h1 h2 h3 h4 h5 h6 h7 t1 t2 t3 t4 t5 t6 t7 tw th td ts n e (hs _ a) (hs _ b))
theorem unset_ct {wd ht dp sp : Int} {tw th td ts : Tok} {li lt0 : Addr} (X : (hd.heap_1 w.params).In hB) (T : TopRead p loose mg mb hB) (ok : Ok 5 A)
    (F : Fr hB L s.heap m) (N : News hB L s.heap news) (hw : -1073741823 ≤ wd ∧ wd ≤ 1073741823) (hht : -1073741823 ≤ ht ∧ ht ≤ 1073741823) (hdp : -1073741823 ≤ dp ∧ dp ≤ 1073741823) (hsp : 1 ≤ sp ∧ sp ≤ 2147483647)
    (ret : ∀ x tl h' tk', Fr hB L h' m → News hB L h' (tl ++ news) → Abv news tl → UnsetIn tl (.ref x) wd ht dp sp true (.ref li) (.ref lt0) → Q (.ref x) { s with heap := h', toks := tk' }) :
    wpAny (model prog w) A (call (.ref 389) [.int wd tw, .int ht th, .int dp td, .ref li, .int sp ts, .ref lt0, .bool true]) Q E s := by
  obtain ⟨ah, ad, af, ag, au⟩ := A
  have hh := ok.handled
  dsimp only at hh
  subst hh
  k_dflt (refine' call_cls ?k1 ?k2 ?k3 ?k4 ?k5 ?k6 ?_; (case k1 => k_asm); (case k2 => k_asm); (case k3 => k_asm); (case k4 => k_is); (case k5 => k_is); (case k6 => k_is); k_whole)
  intro x' d' h' F1 N1 l1 l2
  k_dflt (refine' enterC [(Str.ofString "self", .ref x'), (Str.ofString "width", .int wd tw), (Str.ofString "height", .int ht th), (Str.ofString "depth", .int dp td), (Str.ofString "items", .ref li), (Str.ofString "spans", .int sp ts), (Str.ofString "totals", .ref lt0), (Str.ofString "is_vertical", .bool true)] ?F ?X ?N ?T ?ho ?hcd ?hr ?hb ?hl ?c1 ?c2 ?c3 ?c4 ?_)
  walk_at "q sides"
  intro L' h₁ oL tk F' N' nL lt hL off
  clear F N F1 N1
  have e1 := neN (off _ (.head _))
  have e2 := neN (off _ (.tail _ (.head _)))
  replace l2 := ltN l2
  have e3 : ∀ p ∈ news, p.1 ≠ d' := fun p hp => Nat.ne_of_lt (l1 p hp)
  k_steps
  all_goals (
    (try dsimp only [InitBack])
    refine ⟨rfl, ?_⟩
    (try dsimp only)
    obtain ⟨F2, N2⟩ := leaveT [(x', instObj 389 d'), (d', _)] hL nL (off2 off) (by assumption) (by assumption) (.head _) (fun q hq => .tail _ hq)
    refine ret _ _ _ _ F2 N2 (Abv.two l1 l2) ?_
    exact (mk_EEEEEEEEEEEEEEEEEEEEEAA _ _ _ _ _ _ _ _ _ _ _ _ _ _ _ _ _ _ _ _ _ rfl (.head _) (.tail _ (.head _))))
theorem unset6_ct {wd ht dp sp : Int} {tw th td ts : Tok} {li lt0 : Addr} (X : (hd.heap_1 w.params).In hB) (T : TopRead p loose mg mb hB) (ok : Ok 5 A)
    (F : Fr hB L s.heap m) (N : News hB L s.heap news) (hw : -1073741823 ≤ wd ∧ wd ≤ 1073741823) (hht : -1073741823 ≤ ht ∧ ht ≤ 1073741823) (hdp : -1073741823 ≤ dp ∧ dp ≤ 1073741823) (hsp : 1 ≤ sp ∧ sp ≤ 2147483647)
    (ret : ∀ x tl h' tk', Fr hB L h' m → News hB L h' (tl ++ news) → Abv news tl → UnsetIn tl (.ref x) wd ht dp sp false (.ref li) (.ref lt0) → Q (.ref x) { s with heap := h', toks := tk' }) :
    wpAny (model prog w) A (call (.ref 389) [.int wd tw, .int ht th, .int dp td, .ref li, .int sp ts, .ref lt0]) Q E s := by
  obtain ⟨ah, ad, af, ag, au⟩ := A
  have hh := ok.handled
  dsimp only at hh
  subst hh
  k_dflt (refine' call_cls ?k1 ?k2 ?k3 ?k4 ?k5 ?k6 ?_; (case k1 => k_asm); (case k2 => k_asm); (case k3 => k_asm); (case k4 => k_is); (case k5 => k_is); (case k6 => k_is); k_whole)
  intro x' d' h' F1 N1 l1 l2
  k_dflt (refine' enterC [(Str.ofString "self", .ref x'), (Str.ofString "width", .int wd tw), (Str.ofString "height", .int ht th), (Str.ofString "depth", .int dp td), (Str.ofString "items", .ref li), (Str.ofString "spans", .int sp ts), (Str.ofString "totals", .ref lt0), (Str.ofString "is_vertical", .bool false)] ?F ?X ?N ?T ?ho ?hcd ?hr ?hb ?hl ?c1 ?c2 ?c3 ?c4 ?_)
  walk_at "q sides"
  intro L' h₁ oL tk F' N' nL lt hL off
  clear F N F1 N1
  have e1 := neN (off _ (.head _))
  have e2 := neN (off _ (.tail _ (.head _)))
  replace l2 := ltN l2
  have e3 : ∀ p ∈ news, p.1 ≠ d' := fun p hp => Nat.ne_of_lt (l1 p hp)
  k_steps
  all_goals (
    (try dsimp only [InitBack])
    refine ⟨rfl, ?_⟩
    (try dsimp only)
    obtain ⟨F2, N2⟩ := leaveT [(x', instObj 389 d'), (d', _)] hL nL (off2 off) (by assumption) (by assumption) (.head _) (fun q hq => .tail _ hq)
    refine ret _ _ _ _ F2 N2 (Abv.two l1 l2) ?_
    exact (mk_EEEEEEEEEEEEEEEEEEEEEAA _ _ _ _ _ _ _ _ _ _ _ _ _ _ _ _ _ _ _ _ _ rfl (.head _) (.tail _ (.head _))))

local macro_rules | `(tactic| walk_at "call ref") => `(tactic| (k_dflt ((first | (refine' unset6_ct ?X ?T ?ok ?F ?N ?hw ?hht ?hdp ?hsp ?_; walk_at "q pre"; (case hw => omega); (case hht => omega); (case hdp => omega); (case hsp => omega)) | (refine' unset_ct ?X ?T ?ok ?F ?N ?hw ?hht ?hdp ?hsp ?_; walk_at "q pre"; (case hw => omega); (case hht => omega); (case hdp => omega); (case hsp => omega)) | (refine' tot_ct ?X ?T ?ok ?F ?N ?_; walk_at "q pre") | (refine' rule_ct ?X ?T ?ok ?F ?N ?_; walk_at "q pre") | (refine' pen_ct ?X ?T ?ok ?F ?N ?hv ?_; walk_at "q pre"; (case hv => omega)) | (refine' glue_ct ?X ?T ?ok ?F ?N ?hv ?hf ?hg ?_; walk_at "q pre"; (case hv => omega); (case hf => omega); (case hg => omega)) | (refine' kern_ct ?X ?T ?ok ?F ?N ?hv ?_; walk_at "q pre"; (case hv => omega))); k_whole); walk_at "q ret8"))
theorem check_depth_ct {d : Int} {td : Tok} (X : (hd.heap_1 w.params).In hB) (T : TopRead p loose mg mb hB) (ok : Ok 1 A)
    (F : Fr hB L s.heap m) (N : News hB L s.heap news) (hd0 : d ≤ 60)
    (ret : ∀ h' tk', Fr hB L h' m → News hB L h' news → Q .none { s with heap := h', toks := tk' }) :
    wpAny (model prog w) A (call (.ref 400) [.int d td]) Q E s := by
  refine wpAny_call ?_
  k_dflt (refine' enterC [(Str.ofString "depth", .int d td)] ?F ?X ?N ?T ?ho ?hcd ?hr ?hb ?hl ?c1 ?c2 ?c3 ?c4 ?_)
  walk_at "q sides"
  intro L' h₁ oL tk F' N' nL lt hL off
  clear F N
  k_steps
  obtain ⟨F2, N2⟩ := leave0 hL nL off (by assumption) (by assumption)
  exact ret _ _ F2 N2

local macro_rules | `(tactic| walk_at "call ref") => `(tactic| (k_dflt (refine' check_depth_ct ?X ?T ?ok ?F ?N ?hd0 ?_; walk_at "q pre"; (case hd0 => omega); k_whole); walk_at "q ret0"))

theorem desc_kern_ct {v : Value} {size : Int} {td : Tok} (X : (hd.heap_1 w.params).In hB) (T : TopRead p loose mg mb hB) (ok : Ok 3 A)
    (F : Fr hB L s.heap m) (N : News hB L s.heap news) (hk : KernIn news v size)
    (ret : ∀ r tl h' tk', Fr hB L h' m → News hB L h' (tl ++ news) → Abv news tl → DatIn tl r (.tuple [.int 5, .int size, .int 1]) → Q r { s with heap := h', toks := tk' }) :
    wpAny (model prog w) A (call (.ref 418) [v, .int 1 td]) Q E s := by
  obtain ⟨ah, ad, af, ag, au⟩ := A
  have hh := ok.handled
  dsimp only at hh
  subst hh
  refine el_EEEEEEEEEAA ?_ (hk); rintro x dx h1 h2 t1 t2 tv ts n rfl m1 m2
  refine wpAny_call ?_
  k_dflt (refine' enterC [(Str.ofString "node", .ref x), (Str.ofString "depth", .int 1 td)] ?F ?X ?N ?T ?ho ?hcd ?hr ?hb ?hl ?c1 ?c2 ?c3 ?c4 ?_)
  walk_at "q sides"
  intro L' h₁ oL tk F' N' nL lt hL off
  clear F N
  k_steps
  refine el_AA ?_ (leaveA [_] hL nL off ‹Fr _ _ _ _› ‹News _ _ _ _› (Abv.cons (ltAll (by assumption)) Abv.nil)); rintro F2 N2 ab
  exact ret _ _ _ _ F2 N2 ab (.tuple (.head _) (.cons (.int _ _) (.cons (.int _ _) (.cons (.int _ _) .nil))))

def All2 {α : Type} (P : Value → α → Prop) : List Value → List α → Prop
  | [], [] => True
  | v :: vs, x :: xs => P v x ∧ All2 P vs xs
  | _, _ => False
theorem All2.mono {α : Type} {P P' : Value → α → Prop} (h : ∀ v x, P v x → P' v x) : ∀ {vs : List Value} {xs : List α}, All2 P vs xs → All2 P' vs xs
  | [], [], _ => trivial
  | _ :: _, _ :: _, q => ⟨h _ _ q.1, All2.mono h q.2⟩
  | [], _ :: _, q => q.elim
  | _ :: _, [], q => q.elim
theorem All2.len {α : Type} {P : Value → α → Prop} : ∀ {vs : List Value} {xs : List α}, All2 P vs xs → vs.length = xs.length
  | [], [], _ => rfl
  | _ :: _, _ :: _, q => by rw [List.length_cons, List.length_cons, All2.len q.2]
  | [], _ :: _, q => q.elim
  | _ :: _, [], q => q.elim
theorem dat_snoc {Z tl : Led} {vs : List Value} {ds : List Dat} {v : Value} {d : Dat} (h : DatAll Z vs ds) (h1 : DatIn tl v d) : DatAll (tl ++ Z) (vs ++ [v]) (ds ++ [d]) :=
  (h.mono fun p hp => List.mem_append_right _ hp).append (.one (h1.mono fun p hp => List.mem_append_left _ hp))

/-- described_list over a list of what 'described' tells of -/
theorem desc_list_gen {α : Type} (NI : Led → Value → α → Prop) (D : α → Dat) (hNI : ∀ {Z Z' : Led} {v : Value} {x : α}, NI Z v x → (∀ p ∈ Z, p ∈ Z') → NI Z' v x) (n : Nat) (d : Int)
    {l : Addr} {vs : List Value} {xs : List α} {nn : Nat} {td : Tok} (X : (hd.heap_1 w.params).In hB) (T : TopRead p loose mg mb hB) (ok : Ok (n + 2) A)
    (each : ∀ (A : Around) (s : Shared) (L : Addr) (m : Str → Option Value) (news : Led) (Q : Value → Shared → Prop) (E : Value → Shared → Prop) (v : Value) (x : α) (td : Tok), Ok n A → Fr hB L s.heap m → News hB L s.heap news → NI news v x →
      (∀ r tl h' tk', Fr hB L h' m → News hB L h' (tl ++ news) → Abv news tl → DatIn tl r (D x) → Q r { s with heap := h', toks := tk' }) → wpAny (model prog w) A (call (.ref 418) [v, .int d td]) Q E s)
    (F : Fr hB L s.heap m) (N : News hB L s.heap news) (hl : (l, listOf vs.toArray nn) ∈ news) (hx : All2 (NI news) vs xs) (hlen : xs.length ≤ 10000) (args : List Value) (hargs : args = [.ref l, .int d td] ∨ (args = [.ref l] ∧ d = 0))
    (ret : ∀ r tl h' tk', Fr hB L h' m → News hB L h' (tl ++ news) → Abv news tl → DatIn tl r (.tuple (xs.map D)) → Q r { s with heap := h', toks := tk' }) :
    wpAny (model prog w) A (call (.ref 424) args) Q E s := by
  obtain ⟨ah, ad, af, ag, au⟩ := A
  have hh := ok.handled
  dsimp only at hh
  subst hh
  rcases hargs with rfl | ⟨rfl, rfl⟩
  all_goals (
    refine wpAny_call ?_
    k_dflt (first | (refine' enterCells [(Str.ofString "items", .ref l), (Str.ofString "depth", .int d td)] ?F ?X ?N ?T ?ho ?hcd ?hr ?hb ?hk ?hn ?c1 ?c2 ?c3 ?_; walk_at "q sidesC") | (refine' enterCells [(Str.ofString "items", .ref l), (Str.ofString "depth", .int 0 785)] ?F ?X ?N ?T ?ho ?hcd ?hr ?hb ?hk ?hn ?c1 ?c2 ?c3 ?_; walk_at "q sidesC"))
    intro L' h₁ oL tk cells F' N' nL Y lt hL off
    clear F N
    refine el_EA ?_ (CellsAre.one Y); rintro oc rfl dc
    rw [List.cons_append, List.nil_append] at N'
    have dc' : oc.data = .cell (some (.int _ _)) := dc
    clear dc Y
    k_steps
    refine comp_listT (mu := []) (fun xs' acc mu T => mu = [] ∧ ∃ us ys ds, xs' = us.map Itm.val ∧ All2 (NI news) us ys ∧ xs.map D = ds ++ ys.map D ∧ DatAll T acc ds) rfl (by rw [hx.len]; omega) F' N' (.tail _ (.tail _ hl)) notIn_nil (mk_AEEEAAA rfl vs xs ([]) rfl hx rfl .nil) ?_ ?_
    · rintro a r acc C Dl m' mu' T' R v h3 tk3; refine el_AEEEAAA ?_; rintro rfl us ys ds e hA hD hT hv _ ab hs ho _ F3 N3 PZ hPZ
      clear F' N'
      replace N3 : News hB C h3 ((Dl, listOf acc.toArray acc.length) :: R) := N3
      cases us with
      | nil => cases e
      | cons u us =>
        cases ys with
        | nil => exact hA.elim
        | cons y ys =>
          rw [List.map_cons] at e
          injection e with e1 e2
          subst e1 e2
          obtain rfl : v = u := hv
          have hc : (L' + 1, oc) ∈ R := hs _ (List.mem_append_right _ (.head _))
          k_steps
          refine each _ _ _ _ _ _ _ _ _ _ ?ok ‹Fr _ _ _ _› ‹News _ _ _ _› (hNI hA.1 fun p hp => .tail _ (hs p (List.mem_append_right _ (.tail _ (.tail _ hp))))) fun r tl h4 tk4 F4 N4 ab4 hd4 => ?_
          case ok => walk_at "q ok"
          refine hPZ _ _ ?_; refine (mk_EEEEEAAAAAAEEEAAA tl ([]) _ h4 tk4 rfl F4 (newsSub N4 (by walk_at "q sub")) rfl ab4 rfl us ys (ds ++ [D y]) rfl hA.2 ?_ (dat_snoc hT hd4))
          rw [hD, List.map_cons, List.append_assoc]; rfl
    · rintro acc Dl mu' T' h3 tk3; refine el_AEEEAAA ?_; rintro rfl us ys ds e hA hD hT _ ab hl2 hne F3 N3
      clear F' N'
      replace N3 : News hB L' h3 ((Dl, listOf acc.toArray acc.length) :: (T' ++ ((L' + 1, oc) :: (L, oL) :: news))) := N3
      cases us with
      | cons u us => cases e
      | nil =>
        cases ys with
        | cons y ys => exact hA.elim
        | nil =>
          rw [List.map_nil, List.append_nil] at hD
          subst hD
          have hal : acc.toArray.size ≤ 16384 := by
            have := hT.length
            rw [List.length_map] at this
            rw [List.size_toArray]; omega
          k_steps
          rename_i D9 h9 F9 N9 l9
          refine el_AA ?_ (leaveA ((D9, { cls := .type "tuple", data := .seq acc.toArray }) :: (Dl, listOf acc.toArray acc.length) :: (T' ++ [(L' + 1, oc)])) hL nL off F9 (newsSub N9 (by intro q9 hq9; (try simp only [List.mem_append, List.mem_cons, List.not_mem_nil, or_false, false_or, List.cons_append, List.nil_append] at hq9 ⊢); (first | assumption | grind))) (Abv.cons (fun q hq => ltAll l9.2 _ (List.mem_append_right _ (.tail _ hq))) (Abv.cons (fun q hq => hl2 q (.tail _ hq)) (Abv.app (ab.sub fun p hp => .tail _ hp) (Abv.cons (fun q hq => Nat.lt_succ_of_lt (lt q hq)) Abv.nil))))); rintro F2 N2 ab2
          refine ret _ _ _ _ F2 N2 ab2 (.tuple (.head _) (hT.mono fun p hp => .tail _ (.tail _ (List.mem_append_left _ hp)))))
def kernD (size : Int) : Dat := .tuple [.int 5, .int size, .int 1]
theorem desc_kerns_ct {l : Addr} {kv : Value} {size : Int} {nn : Nat} {td : Tok} (X : (hd.heap_1 w.params).In hB) (T : TopRead p loose mg mb hB) (ok : Ok 5 A)
    (F : Fr hB L s.heap m) (N : News hB L s.heap news) (hl : (l, listOf [kv].toArray nn) ∈ news) (hk : KernIn news kv size)
    (ret : ∀ r tl h' tk', Fr hB L h' m → News hB L h' (tl ++ news) → Abv news tl → DatIn tl r (.tuple [kernD size]) → Q r { s with heap := h', toks := tk' }) :
    wpAny (model prog w) A (call (.ref 424) [.ref l, .int 1 td]) Q E s :=
  desc_list_gen KernIn kernD (fun h hs => h.mono hs) 3 1 X T ok (fun A s L m news Q E v x td ok F N hx ret => desc_kern_ct X T ok F N hx ret) F N hl (xs := [size]) ⟨hk, trivial⟩ (by rw [List.length_singleton]; decide) _ (.inl rfl) ret

structure Cell where
  wd : Int
  ht : Int
  dp : Int
  kn : Int
  sp : Int
  vert : Bool
def CellIn (Z : Led) (v : Value) (c : Cell) : Prop := ∃ li lt kv n, UnsetIn Z v c.wd c.ht c.dp c.sp c.vert (.ref li) (.ref lt) ∧ (li, listOf [kv].toArray n) ∈ Z ∧ KernIn Z kv c.kn ∧ TotIn Z (.ref lt)
theorem CellIn.mono {Z Z' : Led} {v : Value} {c : Cell} (h : CellIn Z v c) (hs : ∀ p ∈ Z, p ∈ Z') : CellIn Z' v c := by
  refine el_EEEEAAA ?_ (h); rintro li lt kv n a b c d
  exact (mk_EEEEAAA li lt kv n (a.mono hs) (hs _ b) (c.mono hs) (d.mono hs))
def cellD (c : Cell) : Dat := .tuple [.int 14, .int c.wd, .int c.ht, .int c.dp, .int c.sp, .int (if c.vert then 1 else 0), .int 0, .tuple [.int 0, .int 0, .int 0, .int 0], .tuple [.int 0, .int 0, .int 0, .int 0], .tuple [kernD c.kn]]

theorem desc_rest_ct {v : Value} {c : Cell} {td : Tok} (X : (hd.heap_1 w.params).In hB) (T : TopRead p loose mg mb hB) (ok : Ok 8 A)
    (F : Fr hB L s.heap m) (N : News hB L s.heap news) (hc : CellIn news v c)
    (ret : ∀ r tl h' tk', Fr hB L h' m → News hB L h' (tl ++ news) → Abv news tl → DatIn tl r (cellD c) → Q r { s with heap := h', toks := tk' }) :
    wpAny (model prog w) A (call (.ref 412) [v, .int 0 td]) Q E s := by
  obtain ⟨ah, ad, af, ag, au⟩ := A
  have hh := ok.handled
  dsimp only at hh
  subst hh
  obtain ⟨wd, ht, dp, kn, sp, vert⟩ := c
  refine el_EEEEAAA ?_ (hc); rintro li lt0 kv nn hu hli hkv htt
  refine el_EEEEEEEEEEEEEEEEEEEEEAA ?_ (hu); rintro x dx h1 h2 h3 h4 h5 h6 h7 t1 t2 t3 t4 t5 t6 t7 tw th td1 ts n rfl m1 m2
  refine el_EEEEEEEEEEEEEEEEEEEEAAAA ?_ (htt); rintro x2 dx2 la lb g1 g2 g3 u1 u2 u3 tn a0 a1 a2 a3 b0 b1 b2 b3 n2 e2 m3 m4 m5 m6
  injection e2 with e2
  subst e2
  refine wpAny_call ?_
  k_dflt (refine' enterC [(Str.ofString "node", .ref x), (Str.ofString "depth", .int 0 td)] ?F ?X ?N ?T ?ho ?hcd ?hr ?hb ?hl ?c1 ?c2 ?c3 ?c4 ?_)
  walk_at "q sides"
  intro L' h₁ oL tk F' N' nL lt hL off
  clear F N
  dsimp only at m2 ⊢
  cases vert
  all_goals (
    k_steps
    k_dflt (refine' desc_kerns_ct ?X ?T ?ok ?F ?N ?hl ?hk ?_; walk_at "q pre"; (case hl => k_mem); (case hk => (refine KernIn.mono (by assumption) ?_; walk_at "q up")); k_whole); walk_at "q ret8"
    k_steps
    walk_at "q split"
    refine el_AA ?_ (leaveB [_, _, _, _, _, _, _, _, _] _ hL nL off ‹Fr _ _ _ _› ‹News _ _ _ _› (by walk_at "q abv")); rintro F2 N2 ab2
    refine ret _ _ _ _ F2 N2 ab2 ?_
    refine .tuple (.head _) (.cons (.int _ _) (.cons (.int _ _) (.cons (.int _ _) (.cons (.int _ _) (.cons (.int _ _) (.cons (.int _ _) (.cons (.int _ _) (.cons (.tuple (by k_mem) ?_) (.cons (.tuple (by k_mem) ?_) (.cons (DatIn.mono ?_ (by assumption)) .nil))))))))))
    · exact .cons (.int _ _) (.cons (.int _ _) (.cons (.int _ _) (.cons (.int _ _) .nil)))
    · exact .cons (.int _ _) (.cons (.int _ _) (.cons (.int _ _) (.cons (.int _ _) .nil)))
    · walk_at "q up")

theorem desc_cell_ct {v : Value} {c : Cell} {td : Tok} (X : (hd.heap_1 w.params).In hB) (T : TopRead p loose mg mb hB) (ok : Ok 10 A)
    (F : Fr hB L s.heap m) (N : News hB L s.heap news) (hc : CellIn news v c)
    (ret : ∀ r tl h' tk', Fr hB L h' m → News hB L h' (tl ++ news) → Abv news tl → DatIn tl r (cellD c) → Q r { s with heap := h', toks := tk' }) :
    wpAny (model prog w) A (call (.ref 418) [v, .int 0 td]) Q E s := by
  obtain ⟨ah, ad, af, ag, au⟩ := A
  have hh := ok.handled
  dsimp only at hh
  subst hh
  have hc' := hc
  refine el_EEEEAAA ?_ (hc'); rintro li lt0 kv nn hu hli hkv htt
  refine el_EEEEEEEEEEEEEEEEEEEEEAA ?_ (hu); rintro x dx h1 h2 h3 h4 h5 h6 h7 t1 t2 t3 t4 t5 t6 t7 tw th td1 ts n rfl m1 m2
  refine wpAny_call ?_
  k_dflt (refine' enterC [(Str.ofString "node", .ref x), (Str.ofString "depth", .int 0 td)] ?F ?X ?N ?T ?ho ?hcd ?hr ?hb ?hl ?c1 ?c2 ?c3 ?c4 ?_)
  walk_at "q sides"
  intro L' h₁ oL tk F' N' nL lt hL off
  clear F N
  k_steps
  k_dflt (refine' desc_rest_ct ?X ?T ?ok ?F ?N ?hc ?_; walk_at "q pre"; (case hc => (refine CellIn.mono (by assumption) ?_; walk_at "q up")); k_whole); walk_at "q ret8"
  k_steps
  refine el_AA ?_ (leaveB [] _ hL nL off ‹Fr _ _ _ _› ‹News _ _ _ _› (by assumption)); rintro F2 N2 ab2
  exact ret _ _ _ _ F2 N2 ab2 (by assumption)

def penD (k : Int) : Dat := .tuple [.int 7, .int k]
theorem desc_pen_ct {v : Value} {k : Int} {td : Tok} (X : (hd.heap_1 w.params).In hB) (T : TopRead p loose mg mb hB) (ok : Ok 3 A)
    (F : Fr hB L s.heap m) (N : News hB L s.heap news) (hc : PenIn news v k)
    (ret : ∀ r tl h' tk', Fr hB L h' m → News hB L h' (tl ++ news) → Abv news tl → DatIn tl r (penD k) → Q r { s with heap := h', toks := tk' }) :
    wpAny (model prog w) A (call (.ref 418) [v, .int 0 td]) Q E s := by
  obtain ⟨ah, ad, af, ag, au⟩ := A
  have hh := ok.handled
  dsimp only at hh
  subst hh
  refine el_EEEEEEAA ?_ (hc); rintro x dx h1 t1 tv n rfl m1 m2
  refine wpAny_call ?_
  k_dflt (refine' enterC [(Str.ofString "node", .ref x), (Str.ofString "depth", .int 0 td)] ?F ?X ?N ?T ?ho ?hcd ?hr ?hb ?hl ?c1 ?c2 ?c3 ?c4 ?_)
  walk_at "q sides"
  intro L' h₁ oL tk F' N' nL lt hL off
  clear F N
  k_steps
  refine el_AA ?_ (leaveA [_] hL nL off ‹Fr _ _ _ _› ‹News _ _ _ _› (Abv.cons (ltAll (by assumption)) Abv.nil)); rintro F2 N2 ab
  exact ret _ _ _ _ F2 N2 ab (.tuple (.head _) (.cons (.int _ _) (.cons (.int _ _) .nil)))

def ruleD : Dat := .tuple [.int 4, .tuple [], .tuple [.int 1], .tuple []]
section
variable {C D : Addr} {acc : List Value} {R T' pre tl : Led} {J : List Value → Led → Led → Prop} {s₁ : Shared} {x : Value} {h' : Heap} {m' : Str → Option Value} {tk' : Nat}
theorem cend0 (F : Fr hB C h' m') (N : News hB C h' ((D, listOf acc.toArray acc.length) :: R)) (hJ : J (acc ++ [x]) [] T') : CEnd hB C D acc [] R T' J s₁ x { s₁ with heap := h', toks := tk' } :=
  (mk_EEEEEAAAAA ([]) ([]) _ _ _ rfl F N rfl Abv.nil hJ)
theorem cendA (pre : Led) (F : Fr hB C h' m') (N : News hB C h' (pre ++ (D, listOf acc.toArray acc.length) :: R)) (ab : Abv ((D, listOf acc.toArray acc.length) :: R) pre) (hJ : J (acc ++ [x]) [] (pre ++ T')) : CEnd hB C D acc [] R T' J s₁ x { s₁ with heap := h', toks := tk' } :=
  (mk_EEEEEAAAAA pre ([]) _ _ _ rfl F (newsSub N (by walk_at "q sub")) rfl ab hJ)
theorem cendB (pre tl : Led) (F : Fr hB C h' m') (N : News hB C h' (pre ++ (D, listOf acc.toArray acc.length) :: (R ++ tl))) (ab : Abv ((D, listOf acc.toArray acc.length) :: R) (pre ++ tl)) (hJ : J (acc ++ [x]) [] ((pre ++ tl) ++ T')) : CEnd hB C D acc [] R T' J s₁ x { s₁ with heap := h', toks := tk' } :=
  (mk_EEEEEAAAAA (pre ++ tl) ([]) _ _ _ rfl F (newsSub N (by walk_at "q sub")) rfl ab hJ)
end
theorem rot1 {x1 : Addr × Obj} {T news : Led} {h : Heap} (N : News hB L h (T ++ (x1 :: news))) : News hB L h (x1 :: (news ++ T)) := newsSub N (by walk_at "q sub")
theorem rotA1 {a x1 : Addr × Obj} {T news : Led} {h : Heap} (N : News hB L h (a :: (T ++ (x1 :: news)))) : News hB L h (a :: x1 :: (news ++ T)) := newsSub N (by walk_at "q sub")
theorem rot2 {x1 x2 : Addr × Obj} {T news : Led} {h : Heap} (N : News hB L h (T ++ (x1 :: x2 :: news))) : News hB L h (x1 :: x2 :: (news ++ T)) := newsSub N (by walk_at "q sub")
theorem rotA2 {a x1 x2 : Addr × Obj} {T news : Led} {h : Heap} (N : News hB L h (a :: (T ++ (x1 :: x2 :: news)))) : News hB L h (a :: x1 :: x2 :: (news ++ T)) := newsSub N (by walk_at "q sub")
theorem rot3 {x1 x2 x3 : Addr × Obj} {T news : Led} {h : Heap} (N : News hB L h (T ++ (x1 :: x2 :: x3 :: news))) : News hB L h (x1 :: x2 :: x3 :: (news ++ T)) := newsSub N (by walk_at "q sub")
theorem rotA3 {a x1 x2 x3 : Addr × Obj} {T news : Led} {h : Heap} (N : News hB L h (a :: (T ++ (x1 :: x2 :: x3 :: news)))) : News hB L h (a :: x1 :: x2 :: x3 :: (news ++ T)) := newsSub N (by walk_at "q sub")
theorem rot4 {x1 x2 x3 x4 : Addr × Obj} {T news : Led} {h : Heap} (N : News hB L h (T ++ (x1 :: x2 :: x3 :: x4 :: news))) : News hB L h (x1 :: x2 :: x3 :: x4 :: (news ++ T)) := newsSub N (by walk_at "q sub")
theorem rotA4 {a x1 x2 x3 x4 : Addr × Obj} {T news : Led} {h : Heap} (N : News hB L h (a :: (T ++ (x1 :: x2 :: x3 :: x4 :: news)))) : News hB L h (a :: x1 :: x2 :: x3 :: x4 :: (news ++ T)) := newsSub N (by walk_at "q sub")
theorem rot5 {x1 x2 x3 x4 x5 : Addr × Obj} {T news : Led} {h : Heap} (N : News hB L h (T ++ (x1 :: x2 :: x3 :: x4 :: x5 :: news))) : News hB L h (x1 :: x2 :: x3 :: x4 :: x5 :: (news ++ T)) := newsSub N (by walk_at "q sub")
theorem rotA5 {a x1 x2 x3 x4 x5 : Addr × Obj} {T news : Led} {h : Heap} (N : News hB L h (a :: (T ++ (x1 :: x2 :: x3 :: x4 :: x5 :: news)))) : News hB L h (a :: x1 :: x2 :: x3 :: x4 :: x5 :: (news ++ T)) := newsSub N (by walk_at "q sub")
theorem rot6 {x1 x2 x3 x4 x5 x6 : Addr × Obj} {T news : Led} {h : Heap} (N : News hB L h (T ++ (x1 :: x2 :: x3 :: x4 :: x5 :: x6 :: news))) : News hB L h (x1 :: x2 :: x3 :: x4 :: x5 :: x6 :: (news ++ T)) := newsSub N (by walk_at "q sub")
theorem rotA6 {a x1 x2 x3 x4 x5 x6 : Addr × Obj} {T news : Led} {h : Heap} (N : News hB L h (a :: (T ++ (x1 :: x2 :: x3 :: x4 :: x5 :: x6 :: news)))) : News hB L h (a :: x1 :: x2 :: x3 :: x4 :: x5 :: x6 :: (news ++ T)) := newsSub N (by walk_at "q sub")
def szD : Value → Dat
  | .int i _ => .tuple [.int i]
  | _ => .tuple []
theorem desc_rule_ct {v : Value} {td : Tok} (X : (hd.heap_1 w.params).In hB) (T : TopRead p loose mg mb hB) (ok : Ok 4 A)
    (F : Fr hB L s.heap m) (N : News hB L s.heap news) (hc : RuleIn news v)
    (ret : ∀ r tl h' tk', Fr hB L h' m → News hB L h' (tl ++ news) → Abv news tl → DatIn tl r ruleD → Q r { s with heap := h', toks := tk' }) :
    wpAny (model prog w) A (call (.ref 418) [v, .int 0 td]) Q E s := by
  obtain ⟨ah, ad, af, ag, au⟩ := A
  have hh := ok.handled
  dsimp only at hh
  subst hh
  refine el_EEEEEEEEEEAA ?_ (hc); rintro x dx h1 h2 h3 t1 t2 t3 th n rfl m1 m2
  refine wpAny_call ?_
  k_dflt (refine' enterC [(Str.ofString "node", .ref x), (Str.ofString "depth", .int 0 td)] ?F ?X ?N ?T ?ho ?hcd ?hr ?hb ?hl ?c1 ?c2 ?c3 ?c4 ?_)
  walk_at "q sides"
  intro L' h₁ oL tk F' N' nL lt hL off
  clear F N
  k_steps
  rename_i D9 h9 F9 N9 l9
  refine comp_tupleT (mu := []) (fun xs' acc mu T => mu = [] ∧ ∃ (us : List Value) (ds : List Dat), xs' = us.map Itm.val ∧ (∀ u ∈ us, u = Value.none ∨ u = Value.int 1 th) ∧ [Dat.tuple [], .tuple [.int 1], .tuple []] = ds ++ us.map szD ∧ DatAll T acc ds) rfl (Nat.le_of_ble_eq_true rfl) F9 N9 (.head _) notIn_nil (mk_AEEAAA rfl _ ([]) rfl ((by simp)) rfl .nil) ?_ ?_
  · rintro a r acc C Dl m' mu' T' R v h3 tk3; refine el_AEEAAA ?_; rintro rfl us ds e hA hD hT hv _ ab hs ho _ F3 N3 PZ hPZ
    clear F9 N9
    replace N3 : News hB C h3 ((Dl, listOf acc.toArray acc.length) :: R) := N3
    cases us with
    | nil => cases e
    | cons u us =>
      rw [List.map_cons] at e
      injection e with e1 e2
      subst e1 e2
      obtain rfl : v = u := hv
      rcases hA v (.head _) with rfl | rfl
      all_goals (
        k_steps
        refine hPZ _ _ ?_; refine cendA [_] ‹Fr _ _ _ _› ‹News _ _ _ _› (Abv.cons (ltCons (And.left (by assumption)) (And.right (by assumption))) Abv.nil) ?_
        rw [List.map_cons, List.append_cons] at hD
        refine (mk_AEEAAA rfl us _ rfl (fun u hu => hA u (.tail _ hu)) hD (dat_snoc (tl := [_]) hT ?_))
        · first | exact .tuple (.head _) .nil | exact .tuple (.head _) (.cons (.int _ _) .nil))
  · rintro acc Dl mu' T' h3 tk3; refine el_AEEAAA ?_; rintro rfl us ds e hA hD hT _ ab hl2 hne F3 N3
    clear F9 N9
    cases us with
    | cons u us => cases e
    | nil =>
      rw [List.map_nil, List.append_nil] at hD
      subst hD
      replace N3 := rotA3 N3
      refine el_EEEAAA ?_ (show ∃ v1 v2 v3, acc = [v1, v2, v3] ∧ DatIn T' v1 (.tuple []) ∧ DatIn T' v2 (.tuple [.int 1]) ∧ DatIn T' v3 (.tuple []) from by
        cases hT with | cons a hT => cases hT with | cons b hT => cases hT with | cons c hT => cases hT; exact (mk_EEEAAA _ _ _ rfl a b c)); rintro v1 v2 v3 rfl i1 i2 i3
      have hsz : [v1, v2, v3].toArray.size ≤ 16384 := Nat.le_of_ble_eq_true rfl
      have hlD : ∀ q ∈ (L, oL) :: news, q.1 < Dl := fun q hq => hl2 q (.tail _ (.tail _ hq))
      k_steps
      walk_at "q split"
      refine el_AA ?_ (leaveB [_, _, _, _, _] _ hL nL off ‹Fr _ _ _ _› ‹News _ _ _ _› (by walk_at "q abv")); rintro F2 N2 ab2
      exact ret _ _ _ _ F2 N2 ab2 (.tuple (.head _) (.cons (.int _ _) (.cons (i1.mono fun p hp => List.mem_append_right _ hp) (.cons (i2.mono fun p hp => List.mem_append_right _ hp) (.cons (i3.mono fun p hp => List.mem_append_right _ hp) .nil)))))

/-- what lies between the rows -/
inductive Node where
  | cell (c : Cell)
  | rule
  | pen (k : Int)
def NodeIn (Z : Led) (v : Value) : Node → Prop
  | .cell c => CellIn Z v c
  | .rule => RuleIn Z v
  | .pen k => PenIn Z v k
theorem NodeIn.mono {Z Z' : Led} {v : Value} {x : Node} (h : NodeIn Z v x) (hs : ∀ p ∈ Z, p ∈ Z') : NodeIn Z' v x := by
  cases x with
  | cell c => exact CellIn.mono h hs
  | rule => exact RuleIn.mono h hs
  | pen k => exact PenIn.mono h hs
def nodeD : Node → Dat
  | .cell c => cellD c
  | .rule => ruleD
  | .pen k => penD k
theorem desc_nodes_ct {l : Addr} {vs : List Value} {xs : List Node} {nn : Nat} (X : (hd.heap_1 w.params).In hB) (T : TopRead p loose mg mb hB) (ok : Ok 12 A)
    (F : Fr hB L s.heap m) (N : News hB L s.heap news) (hl : (l, listOf vs.toArray nn) ∈ news) (hx : All2 (NodeIn news) vs xs) (hlen : xs.length ≤ 10000)
    (ret : ∀ r tl h' tk', Fr hB L h' m → News hB L h' (tl ++ news) → Abv news tl → DatIn tl r (.tuple (xs.map nodeD)) → Q r { s with heap := h', toks := tk' }) :
    wpAny (model prog w) A (call (.ref 424) [.ref l]) Q E s :=
  desc_list_gen (td := 785) NodeIn nodeD (fun h hs => h.mono hs) 10 0 X T ok (fun A s L m news Q E v x td ok F N hx ret => by
    cases x with
    | cell c => exact desc_cell_ct X T ok F N hx ret
    | rule => exact desc_rule_ct X T (ok.le (by decide)) F N hx ret
    | pen k => exact desc_pen_ct X T (ok.le (by decide)) F N hx ret) F N hl hx hlen _ (.inr ⟨rfl, rfl⟩) ret

local macro_rules | `(tactic| omega) => `(tactic| first | assumption | lia | omega +splitDisjunctions)
section
variable {R T' pre tl : Led} {J : (Str → Option Value) → Led → Led → Prop} {QF : Flow → Shared → Prop} {s₁ : Shared} {h' : Heap} {m' : Str → Option Value} {tk' : Nat} {D : Addr} {o o' : Obj}
theorem tend0 (F : Fr hB L h' m') (N : News hB L h' R) (hJ : J m' [] T') : TEnd hB L [] R T' J QF s₁ .next { s₁ with heap := h', toks := tk' } :=
  (mk_EEEEEAAAAA ([]) ([]) _ _ _ rfl F N rfl Abv.nil hJ)
theorem tendA (pre : Led) (F : Fr hB L h' m') (N : News hB L h' (pre ++ R)) (ab : Abv R pre) (hJ : J m' [] (pre ++ T')) : TEnd hB L [] R T' J QF s₁ .next { s₁ with heap := h', toks := tk' } :=
  (mk_EEEEEAAAAA pre ([]) _ _ _ rfl F N rfl ab hJ)
theorem tendB (pre tl : Led) (F : Fr hB L h' m') (N : News hB L h' (pre ++ (R ++ tl))) (ab : Abv R (pre ++ tl)) (hJ : J m' [] ((pre ++ tl) ++ T')) : TEnd hB L [] R T' J QF s₁ .next { s₁ with heap := h', toks := tk' } :=
  (mk_EEEEEAAAAA (pre ++ tl) ([]) _ _ _ rfl F (newsSub N (by walk_at "q sub")) rfl ab hJ)
theorem tend1A (pre : Led) (F : Fr hB L h' m') (N : News hB L h' (pre ++ (D, o') :: R)) (ab : Abv ((D, o) :: R) pre) (hJ : J m' [(D, o')] (pre ++ T')) : TEnd hB L [(D, o)] R T' J QF s₁ .next { s₁ with heap := h', toks := tk' } :=
  (mk_EEEEEAAAAA pre ([(D, o')]) _ _ _ rfl F (newsSub N (by walk_at "q sub")) rfl ab hJ)
theorem tend1B (pre tl : Led) (F : Fr hB L h' m') (N : News hB L h' (pre ++ (D, o') :: (R ++ tl))) (ab : Abv ((D, o) :: R) (pre ++ tl)) (hJ : J m' [(D, o')] ((pre ++ tl) ++ T')) : TEnd hB L [(D, o)] R T' J QF s₁ .next { s₁ with heap := h', toks := tk' } :=
  (mk_EEEEEAAAAA (pre ++ tl) ([(D, o')]) _ _ _ rfl F (newsSub N (by walk_at "q sub")) rfl ab hJ)
end
theorem pinF {m g : Str → Option Value} {x : Str} {v : Value} (e : m x = some v) (hg : g = m) : (fun y => if y = x then some v else g y) = m := by
  subst hg
  funext y
  by_cases h : y = x
  · rw [if_pos h, h, e]
  · rw [if_neg h]
theorem pin1 {L : Addr} {h : Heap} {m : Str → Option Value} {x1 : Str} {v1 : Value} (F : Fr hB L h m) (e1 : m x1 = some v1) : Fr hB L h (fun y => if y = x1 then some v1 else m y) := by
  have e : (fun y => if y = x1 then some v1 else m y) = m := pinF e1 rfl
  rw [e]; exact F
theorem pin2 {L : Addr} {h : Heap} {m : Str → Option Value} {x1 x2 : Str} {v1 v2 : Value} (F : Fr hB L h m) (e1 : m x1 = some v1) (e2 : m x2 = some v2) : Fr hB L h (fun y => if y = x1 then some v1 else if y = x2 then some v2 else m y) := by
  have e : (fun y => if y = x1 then some v1 else if y = x2 then some v2 else m y) = m := pinF e1 (pinF e2 rfl)
  rw [e]; exact F
theorem pin3 {L : Addr} {h : Heap} {m : Str → Option Value} {x1 x2 x3 : Str} {v1 v2 v3 : Value} (F : Fr hB L h m) (e1 : m x1 = some v1) (e2 : m x2 = some v2) (e3 : m x3 = some v3) : Fr hB L h (fun y => if y = x1 then some v1 else if y = x2 then some v2 else if y = x3 then some v3 else m y) := by
  have e : (fun y => if y = x1 then some v1 else if y = x2 then some v2 else if y = x3 then some v3 else m y) = m := pinF e1 (pinF e2 (pinF e3 rfl))
  rw [e]; exact F
theorem pin4 {L : Addr} {h : Heap} {m : Str → Option Value} {x1 x2 x3 x4 : Str} {v1 v2 v3 v4 : Value} (F : Fr hB L h m) (e1 : m x1 = some v1) (e2 : m x2 = some v2) (e3 : m x3 = some v3) (e4 : m x4 = some v4) : Fr hB L h (fun y => if y = x1 then some v1 else if y = x2 then some v2 else if y = x3 then some v3 else if y = x4 then some v4 else m y) := by
  have e : (fun y => if y = x1 then some v1 else if y = x2 then some v2 else if y = x3 then some v3 else if y = x4 then some v4 else m y) = m := pinF e1 (pinF e2 (pinF e3 (pinF e4 rfl)))
  rw [e]; exact F
theorem pin5 {L : Addr} {h : Heap} {m : Str → Option Value} {x1 x2 x3 x4 x5 : Str} {v1 v2 v3 v4 v5 : Value} (F : Fr hB L h m) (e1 : m x1 = some v1) (e2 : m x2 = some v2) (e3 : m x3 = some v3) (e4 : m x4 = some v4) (e5 : m x5 = some v5) : Fr hB L h (fun y => if y = x1 then some v1 else if y = x2 then some v2 else if y = x3 then some v3 else if y = x4 then some v4 else if y = x5 then some v5 else m y) := by
  have e : (fun y => if y = x1 then some v1 else if y = x2 then some v2 else if y = x3 then some v3 else if y = x4 then some v4 else if y = x5 then some v5 else m y) = m := pinF e1 (pinF e2 (pinF e3 (pinF e4 (pinF e5 rfl))))
  rw [e]; exact F
theorem pin6 {L : Addr} {h : Heap} {m : Str → Option Value} {x1 x2 x3 x4 x5 x6 : Str} {v1 v2 v3 v4 v5 v6 : Value} (F : Fr hB L h m) (e1 : m x1 = some v1) (e2 : m x2 = some v2) (e3 : m x3 = some v3) (e4 : m x4 = some v4) (e5 : m x5 = some v5) (e6 : m x6 = some v6) : Fr hB L h (fun y => if y = x1 then some v1 else if y = x2 then some v2 else if y = x3 then some v3 else if y = x4 then some v4 else if y = x5 then some v5 else if y = x6 then some v6 else m y) := by
  have e : (fun y => if y = x1 then some v1 else if y = x2 then some v2 else if y = x3 then some v3 else if y = x4 then some v4 else if y = x5 then some v5 else if y = x6 then some v6 else m y) = m := pinF e1 (pinF e2 (pinF e3 (pinF e4 (pinF e5 (pinF e6 rfl)))))
  rw [e]; exact F
theorem pin7 {L : Addr} {h : Heap} {m : Str → Option Value} {x1 x2 x3 x4 x5 x6 x7 : Str} {v1 v2 v3 v4 v5 v6 v7 : Value} (F : Fr hB L h m) (e1 : m x1 = some v1) (e2 : m x2 = some v2) (e3 : m x3 = some v3) (e4 : m x4 = some v4) (e5 : m x5 = some v5) (e6 : m x6 = some v6) (e7 : m x7 = some v7) : Fr hB L h (fun y => if y = x1 then some v1 else if y = x2 then some v2 else if y = x3 then some v3 else if y = x4 then some v4 else if y = x5 then some v5 else if y = x6 then some v6 else if y = x7 then some v7 else m y) := by
  have e : (fun y => if y = x1 then some v1 else if y = x2 then some v2 else if y = x3 then some v3 else if y = x4 then some v4 else if y = x5 then some v5 else if y = x6 then some v6 else if y = x7 then some v7 else m y) = m := pinF e1 (pinF e2 (pinF e3 (pinF e4 (pinF e5 (pinF e6 (pinF e7 rfl))))))
  rw [e]; exact F
theorem nsw {a b : Addr × Obj} {R : Led} {h : Heap} (N : News hB L h (a :: b :: R)) : News hB L h ([b] ++ (a :: R)) := newsSub N (by walk_at "q sub")
theorem notIn1 {R : Led} {D : Addr} {o : Obj} (h : ∀ p ∈ R, p.1 ∉ adrs [(D, o)]) : ∀ p ∈ R, p.1 ≠ D := fun p hp e => h p hp (e ▸ List.mem_cons_self ..)
theorem ne1 {R : Led} {D : Addr} {o : Obj} (h : ∀ p ∈ R, p.1 ≠ D) : ∀ p ∈ R, p.1 ∉ adrs [(D, o)] := fun p hp e => h p hp (List.mem_singleton.mp e)
theorem All2.snoc {α : Type} {P : Value → α → Prop} {v : Value} {x : α} : ∀ {vs : List Value} {xs : List α}, All2 P vs xs → P v x → All2 P (vs ++ [v]) (xs ++ [x])
  | [], [], _, h => ⟨h, trivial⟩
  | _ :: _, _ :: _, q, h => ⟨q.1, All2.snoc q.2 h⟩
  | [], _ :: _, q, _ => q.elim
  | _ :: _, [], q, _ => q.elim
theorem All2.app {α : Type} {P : Value → α → Prop} : ∀ {vs ws : List Value} {xs ys : List α}, All2 P vs xs → All2 P ws ys → All2 P (vs ++ ws) (xs ++ ys)
  | [], _, [], _, _, h => h
  | _ :: _, _, _ :: _, _, q, h => ⟨q.1, All2.app q.2 h⟩
  | [], _, _ :: _, _, q, _ => q.elim
  | _ :: _, _, [], _, q, _ => q.elim

theorem len_q {l : Addr} {us : List Value} {n : Nat} (N : News hB L s.heap news) (hm : (l, listOf us.toArray n) ∈ news) (hfit : us.length ≤ 1000000)
    (h : Q (.int (us.length : Int) (s.toks + 1)) { s with toks := s.toks + 1 + 1 }) : wpAny (model prog w) A (call (.builtin "len") [.ref l]) Q E s := by
  have hl : s.heap.IsList l us.toArray := (mk_EAAE _ ((N _ hm).1) rfl n rfl)
  have e : us.toArray.size = us.length := List.size_toArray
  exact len_list hl (by rw [e]; omega) (by rw [e]; exact h)

local macro_rules | `(tactic| walk_at "call builtin:len") => `(tactic| (k_here; (with_reducible show wpAny _ _ (call (Value.builtin "len") [Value.ref _]) _ _ _); k_dflt (refine' len_q ?k1 ?k2 ?k3 ?_; (case k1 => k_asm); (case k2 => k_mem); (case k3 => first | assumption | omega); k_whole)))
def Cell.along (c : Cell) : Int := if c.vert then c.ht else c.wd
theorem along_ct {v : Value} {c : Cell} (X : (hd.heap_1 w.params).In hB) (T : TopRead p loose mg mb hB) (ok : Ok 1 A)
    (F : Fr hB L s.heap m) (N : News hB L s.heap news) (hc : CellIn news v c)
    (ret : ∀ t h' tk', Fr hB L h' m → News hB L h' news → Q (.int c.along t) { s with heap := h', toks := tk' }) :
    wpAny (model prog w) A (call (.ref 431) [v]) Q E s := by
  obtain ⟨ah, ad, af, ag, au⟩ := A
  have hh := ok.handled
  dsimp only at hh
  subst hh
  obtain ⟨wd, ht, dp, kn, sp, vert⟩ := c
  refine el_EEEEAAA ?_ (hc); rintro li lt0 kv nn hu hli hkv htt
  refine el_EEEEEEEEEEEEEEEEEEEEEAA ?_ (hu); rintro x dx h1 h2 h3 h4 h5 h6 h7 t1 t2 t3 t4 t5 t6 t7 tw th td1 ts n rfl m1 m2
  refine wpAny_call ?_
  k_dflt (refine' enterC [(Str.ofString "cell", .ref x)] ?F ?X ?N ?T ?ho ?hcd ?hr ?hb ?hl ?c1 ?c2 ?c3 ?c4 ?_)
  walk_at "q sides"
  intro L' h₁ oL tk F' N' nL lt hL off
  clear F N
  dsimp only at m2 ⊢
  cases vert
  all_goals (
    k_steps
    obtain ⟨F2, N2⟩ := leave0 hL nL off (by assumption) (by assumption)
    exact ret _ _ _ F2 N2)

theorem check_skips_ct {n : Int} {tn : Tok} {l : Addr} {vs : List Value} {gs : List Int} {nn : Nat} (X : (hd.heap_1 w.params).In hB) (T : TopRead p loose mg mb hB) (ok : Ok 3 A)
    (F : Fr hB L s.heap m) (N : News hB L s.heap news) (hl : (l, listOf vs.toArray nn) ∈ news) (hx : All2 (GlueIn news) vs gs) (hn : 1 ≤ n ∧ n ≤ 1000) (hlen : (gs.length : Int) = n + 1)
    (ret : ∀ h' tk', Fr hB L h' m → News hB L h' news → Q .none { s with heap := h', toks := tk' }) :
    wpAny (model prog w) A (call (.ref 438) [.int n tn, .ref l]) Q E s := by
  obtain ⟨ah, ad, af, ag, au⟩ := A
  have hh := ok.handled
  dsimp only at hh
  subst hh
  have hvl : (vs.length : Int) = n + 1 := by rw [hx.len]; exact hlen
  refine wpAny_call ?_
  k_dflt (refine' enterC [(Str.ofString "columns", .int n tn), (Str.ofString "skips", .ref l)] ?F ?X ?N ?T ?ho ?hcd ?hr ?hb ?hl ?c1 ?c2 ?c3 ?c4 ?_)
  walk_at "q sides"
  intro L' h₁ oL tk F' N' nL lt hL off
  clear F N
  k_steps
  all_goals try (exfalso; omega)
  refine for_listT (mu := []) (fun xs m mu T => T = [] ∧ mu = [] ∧ ∃ (us : List Value) (gs : List Int), xs = us.map Itm.val ∧ All2 (GlueIn news) us gs) rfl ‹Fr _ _ _ _› ‹News _ _ _ _› (.tail _ hl) notIn_nil (mk_AAEEA rfl rfl vs gs rfl hx) ?_ ?_
  · rintro a r m' mu' T' R v h4 tk4; refine el_AAEEA ?_; rintro rfl rfl us ys e hA hv _ _ hs _ F4 N4 PZ hPZ
    replace N4 : News hB L' h4 R := N4
    cases us with
    | nil => cases e
    | cons u us =>
      cases ys with
      | nil => exact hA.elim
      | cons y ys =>
        rw [List.map_cons] at e
        injection e with e1 e2
        subst e1 e2
        obtain rfl : v = u := hv
        refine el_EEEEEEEEEEEEEEEEEEAA ?_ (hA.1); rintro x dx h1 h2 h3 h4 h5 t1 t2 t3 t4 t5 tv v2 v3 v4 v5 n9 rfl m1 m2
        replace m1 := hs _ (.tail _ m1)
        replace m2 := hs _ (.tail _ m2)
        k_steps
        refine hPZ _ _ ?_; exact tend0 ‹Fr _ _ _ _› ‹News _ _ _ _› (mk_AAEEA rfl rfl us ys rfl hA.2)
  · rintro m' mu' T h4 tk4; refine el_AA ?_; rintro rfl rfl _ _ _ F4 N4
    replace N4 : News hB L' h4 ((L, oL) :: news) := N4
    k_steps
    obtain ⟨F2, N2⟩ := leave0 hL nL off F4 N4
    exact ret _ _ F2 N2

def PlIn (Z : Led) (v : Value) (q : Int × Cell) : Prop := ∃ x cv t n, v = .ref x ∧ (x, ({ cls := .type "tuple", data := .seq [Value.int q.1 t, cv].toArray n } : Obj)) ∈ Z ∧ CellIn Z cv q.2
theorem PlIn.mono {Z Z' : Led} {v : Value} {q : Int × Cell} (h : PlIn Z v q) (hs : ∀ p ∈ Z, p ∈ Z') : PlIn Z' v q := by
  refine el_EEEEAA ?_ (h); rintro x cv t n e a b
  exact (mk_EEEEAA x cv t n e (hs _ a) (b.mono hs))
def placed : Int → List Cell → List (Int × Cell)
  | _, [] => []
  | k, c :: cs => (k, c) :: placed (k + c.sp) cs
def spanSum : List Cell → Int
  | [] => 0
  | c :: cs => c.sp + spanSum cs

theorem placed_ct {n : Int} {tn : Tok} {l : Addr} {vs : List Value} {cs : List Cell} {nn : Nat} {Z0 : Led} (X : (hd.heap_1 w.params).In hB) (T : TopRead p loose mg mb hB) (ok : Ok 1 A)
    (F : Fr hB L s.heap m) (N : News hB L s.heap news) (hl : (l, listOf vs.toArray nn) ∈ news) (hZ : ∀ p ∈ Z0, p ∈ news) (hx : All2 (CellIn Z0) vs cs) (hsp : ∀ c ∈ cs, 1 ≤ c.sp) (hlen : spanSum cs ≤ n) (hn : n ≤ 1000)
    (ret : ∀ D us k tl h' tk', Fr hB L h' m → News hB L h' (tl ++ news) → Abv news tl → (D, listOf us.toArray k) ∈ tl → All2 (PlIn (tl ++ Z0)) us (placed 0 cs) → Q (.ref D) { s with heap := h', toks := tk' }) :
    wpAny (model prog w) A (call (.ref 445) [.ref l, .int n tn]) Q E s := by
  obtain ⟨ah, ad, af, ag, au⟩ := A
  have hh := ok.handled
  dsimp only at hh
  subst hh
  refine wpAny_call ?_
  k_dflt (refine' enterC [(Str.ofString "row", .ref l), (Str.ofString "columns", .int n tn)] ?F ?X ?N ?T ?ho ?hcd ?hr ?hb ?hl ?c1 ?c2 ?c3 ?c4 ?_)
  walk_at "q sides"
  intro L' h₁ oL tk F' N' nL lt hL off
  clear F N
  k_steps
  rename_i l9 _ la D9 _ lb _ _ _ _ h9 F9 N9
  refine for_listT (mu := [(l9, listOf ([] : List Value).toArray 0)]) (fun xs m mu T => ∃ (us acc : List Value) (k : Nat) (ps : List (Int × Cell)) (cs1 : List Cell) (col : Int) (t : Tok), xs = us.map Itm.val ∧ All2 (CellIn Z0) us cs1 ∧ mu = [(l9, listOf acc.toArray k)] ∧ All2 (PlIn (T ++ Z0)) acc ps ∧ placed 0 cs = ps ++ placed col cs1 ∧
    m (Str.ofString "found") = some (.ref l9) ∧ m (Str.ofString "column") = some (.int col t) ∧ m (Str.ofString "columns") = some (.int n tn) ∧ (∀ c ∈ cs1, 1 ≤ c.sp) ∧ (acc.length : Int) ≤ col ∧ col + spanSum cs1 ≤ n) rfl F9 (nsw N9) (.tail _ (.tail _ hl)) ?hz (mk_EEEEEEEAAAAAAAAAA vs ([]) 0 ([]) cs 0 _ rfl hx rfl trivial rfl rfl rfl rfl hsp (by simp) (by omega)) ?_ ?_
  case hz =>
    refine ne1 fun p hp => ?_
    rcases List.mem_cons.mp hp with rfl | hp
    · exact Nat.ne_of_gt lb.1
    · rcases List.mem_cons.mp hp with rfl | hp
      · exact Nat.ne_of_lt la.1
      · exact Nat.ne_of_lt (ltAll la.2 p hp)
  · rintro a r m' mu' T' R v h4 tk4; refine el_EEEEEEEAAAAAAAAAA ?_; rintro us acc k ps cs1 col t e hA rfl hP hpl f1 f2 f3 hs1 hac hcl hv _ ab hs ho F4 N4 PZ hPZ
    replace N4 : News hB L' h4 ((l9, listOf acc.toArray k) :: R) := N4
    replace F4 := pin3 F4 f1 f2 f3
    replace ho := notIn1 ho
    cases us with
    | nil => cases e
    | cons u us =>
      cases cs1 with
      | nil => exact hA.elim
      | cons c cs1 =>
        rw [List.map_cons] at e
        injection e with e1 e2
        subst e1 e2
        obtain rfl : v = u := hv
        have hsum : spanSum (c :: cs1) = c.sp + spanSum cs1 := rfl
        have hc1 := hs1 c (.head _)
        have hnn : 0 ≤ spanSum cs1 := by
          have : ∀ l : List Cell, (∀ c ∈ l, 1 ≤ c.sp) → 0 ≤ spanSum l := fun l => by
            induction l with
            | nil => intro _; exact Int.le_refl 0
            | cons c l ih => intro h; have := ih fun c hc => h c (.tail _ hc); have := h c (.head _); show 0 ≤ c.sp + spanSum l; omega
          exact this _ fun c hc => hs1 c (.tail _ hc)
        have hc := hA.1
        refine el_EEEEAAA ?_ (hc); rintro li lt0 kv nn1 hu _ _ _
        refine el_EEEEEEEEEEEEEEEEEEEEEAA ?_ (hu); rintro x dx h1 h2 h3 h4 h5 h6 h7 t1 t2 t3 t4 t5 t6 t7 tw th td1 ts n9 rfl m1 m2
        have up : ∀ p ∈ Z0, p ∈ R := fun p hp => hs p (List.mem_append_right _ (.tail _ (.tail _ (hZ p hp))))
        replace m1 := up _ m1
        replace m2 := up _ m2
        have hsz : acc.toArray.size ≤ sizeLine := by
          have h2 : sizeLine = 16777216 := rfl
          rw [List.size_toArray]; omega
        k_steps
        refine hPZ _ _ ?_; refine tend1A [_] ‹Fr _ _ _ _› ‹News _ _ _ _› (Abv.cons (ltCons (And.left (by assumption)) (And.right (by assumption))) Abv.nil) (mk_EEEEEEEAAAAAAAAAA us (acc ++ [_]) (k + 1) (ps ++ [(col, c)]) cs1 (col + c.sp) _ rfl hA.2 (by rw [List.push_toArray]) ((hP.mono fun v q h => h.mono fun p hp => List.append_assoc _ T' Z0 ▸ List.mem_append_right _ hp).snoc (mk_EEEEAA _ _ _ _ rfl (.head _) (CellIn.mono hA.1 fun p hp => List.mem_append_right _ hp))) ?_ rfl rfl rfl (fun c hc => hs1 c (.tail _ hc)) ?_ ?_)
        · rw [hpl, List.append_assoc]; rfl
        · rw [List.length_append, List.length_singleton]; omega
        · omega
  · rintro m' mu' T' h4 tk4; refine el_EEEEEEEAAAAAAAAAA ?_; rintro us acc k ps cs1 col t e hA rfl hP hpl f1 f2 f3 hs1 hac hcl _ ab F4 N4
    cases us with
    | cons u us => cases e
    | nil =>
      cases cs1 with
      | cons y ys => exact hA.elim
      | nil =>
        replace F4 := pin3 F4 f1 f2 f3
        replace N4 : News hB L' h4 ((l9, listOf acc.toArray k) :: (D9, _) :: (L, oL) :: (news ++ T')) := rotA2 N4
        have hcl2 : col ≤ n := by have e0 : spanSum [] = 0 := rfl; omega
        rw [show placed col [] = [] from rfl, List.append_nil] at hpl
        k_steps
        walk_at "q split"
        refine el_AA ?_ (leaveB [_, _] _ hL nL off F4 N4 (by walk_at "q abv")); rintro F2 N2 ab2
        exact ret _ _ _ _ _ _ F2 N2 ab2 (.head _) (hpl ▸ hP.mono fun v q h => h.mono fun p hp => List.append_assoc _ T' Z0 ▸ List.mem_append_right _ hp)

/-- a goal that the walk is to leave alone -/
def Hold (P : Prop) : Prop := P
theorem of_hold {P : Prop} (h : Hold P) : P := h

local macro_rules | `(tactic| walk_at "q up") => `(tactic| (intro p9 hp9; walk_at "q mem"))
local macro_rules | `(tactic| k_mem) => `(tactic| walk_at "q mem")
local macro_rules | `(tactic| walk_at "call type:range") => `(tactic| (k_here; refine of_hold ?_))
local macro_rules | `(tactic| walk_at "call type:enumerate") => `(tactic| (k_here; refine of_hold ?_))
theorem item_q {value slice : PySem.Expr} {l : Addr} {us : List Value} {n : Nat} {k : Int} {u : Tok} {x : Value} (N : News hB L s.heap news) (hm : (l, listOf us.toArray n) ∈ news)
    (h0 : 0 ≤ k) (h1 : k < 2 ^ 62) (hx : us[k.toNat]? = some x) (h : Q x s)
    (hs : subscripted slice false (.ref l) (.int k u) = operate [.ref l, .int k u] (getItem (.ref l) (.int k u)) := by with_unfolding_all rfl) :
    wpAny (model prog w) A (subscriptTail value slice (.ref l) (.int k u)) Q E s := by
  have hl : s.heap.IsList l us.toArray := (mk_EAAE _ ((N _ hm).1) rfl n rfl)
  exact tail_any hl.typeIs slot_list_getitem.lookup (wpAny_getItem_list hl h0 (by omega) (by simpa using hx) h) hs

/-- one of the rows that are handed in -/
inductive Rw where
  | row (cs : List Cell)
  | rule
  | pen (k : Int)
def RwIn (Z : Led) (v : Value) : Rw → Prop
  | .row cs => ∃ l vs k, v = .ref l ∧ (l, listOf vs.toArray k) ∈ Z ∧ All2 (CellIn Z) vs cs
  | .rule => RuleIn Z v
  | .pen k => PenIn Z v k
theorem RwIn.mono {Z Z' : Led} {v : Value} {x : Rw} (h : RwIn Z v x) (hs : ∀ p ∈ Z, p ∈ Z') : RwIn Z' v x := by
  cases x with
  | row cs => refine el_EEEAA ?_ (h); rintro l vs k e a b; exact ⟨l, vs, k, e, hs _ a, b.mono fun _ _ q => q.mono hs⟩
  | rule => exact RuleIn.mono h hs
  | pen k => exact PenIn.mono h hs

/-- a pair (first, size) -/
def PairIn (Z : Led) (v : Value) (q : Int × Int) : Prop := ∃ x t u n, v = .ref x ∧ (x, ({ cls := .type "tuple", data := .seq [Value.int q.1 t, .int q.2 u].toArray n } : Obj)) ∈ Z
theorem PairIn.mono {Z Z' : Led} {v : Value} {q : Int × Int} (h : PairIn Z v q) (hs : ∀ p ∈ Z, p ∈ Z') : PairIn Z' v q := by
  refine el_EEEEA ?_ (h); rintro x t u n e a
  exact (mk_EEEEA x t u n e (hs _ a))
def endsOf (j : Int) : List (Int × Cell) → List (Int × Int)
  | [] => []
  | (f, c) :: r => if f + c.sp - 1 = j then (f, c.along) :: endsOf j r else endsOf j r
def rowEnds (j : Int) : List Rw → List (Int × Int)
  | [] => []
  | .row cs :: r => endsOf j (placed 0 cs) ++ rowEnds j r
  | _ :: r => rowEnds j r
def widest : List Int → Option Int
  | [] => none
  | x :: r => some (r.foldl max x)
/-- where columns begin, and how wide those before are -/
def colStep (gs : List Int) (rs : List Rw) : Nat → List Int × List (Option Int)
  | 0 => ([0], [])
  | k + 1 =>
    let q := colStep gs rs k
    let x := widest ((rowEnds k rs).map fun e => e.2 - (q.1.getD k 0 - q.1.getD e.1.toNat 0))
    (q.1 ++ [q.1.getD k 0 + match x with | none => 0 | some y => y + gs.getD (k + 1) 0], q.2 ++ [x])
def widthsP (gs : List Int) (rs : List Rw) (n : Nat) : List (Option Int) := (colStep gs rs n).2

abbrev Ws := List (Addr × List Value × Nat)
def wsO (q : Addr × List Value × Nat) : Addr × Obj := (q.1, listOf q.2.1.toArray q.2.2)
theorem upd_ws {a : Addr} {acc : List Value} {k : Nat} {v : Value} {post : Led} : ∀ {ws : Ws} {j : Nat}, ws[j]? = some (a, acc, k) → (ws.map (·.1)).Nodup → (∀ p ∈ post, p.1 ≠ a) →
    Upd a (listOf acc.toArray k) (listOf (acc.toArray.push v) (k + 1)) (ws.map wsO ++ post) ((ws.set j (a, acc ++ [v], k + 1)).map wsO ++ post)
  | [], _, h, _, _ => by simp at h
  | q :: ws, 0, h, hnd, hp => by
    obtain rfl : q = (a, acc, k) := by simpa using h
    have e : (a, listOf (acc ++ [v]).toArray (k + 1)) = (a, listOf (acc.toArray.push v) (k + 1)) := by rw [List.push_toArray]
    show Upd _ _ _ ((a, listOf acc.toArray k) :: _) ((a, listOf (acc ++ [v]).toArray (k + 1)) :: _)
    rw [e]
    refine .head fun p hp' => ?_
    rcases List.mem_append.mp hp' with hp' | hp'
    · refine el_EA ?_ (List.mem_map.mp hp'); rintro q hq rfl
      rw [List.map_cons, List.nodup_cons] at hnd
      exact fun e => hnd.1 (e ▸ List.mem_map_of_mem (f := (·.1)) hq)
    · exact hp p hp'
  | q :: ws, j + 1, h, hnd, hp => by
    rw [List.map_cons, List.nodup_cons] at hnd
    have h' : ws[j]? = some (a, acc, k) := by simpa using h
    have hm : (a, acc, k) ∈ ws := List.mem_of_getElem? h'
    exact .tail (fun e => hnd.1 (e ▸ List.mem_map_of_mem (f := (·.1)) hm)) (upd_ws h' hnd.2 hp)
theorem ws_adrs {ws : Ws} {j : Nat} {a : Addr} {acc : List Value} {k : Nat} (acc' : List Value) (k' : Nat) (h : ws[j]? = some (a, acc, k)) : (ws.set j (a, acc', k')).map (·.1) = ws.map (·.1) := by
  rw [List.map_set]
  refine List.ext_getElem? fun i => ?_
  rw [List.getElem?_set]
  split
  · rename_i e
    subst e
    rw [List.getElem?_map, h]
    split
    · rfl
    · rename_i hlt
      exact absurd (by rw [List.length_map]; exact (List.getElem?_eq_some_iff.mp h).1) hlt
  · rfl
theorem adrs_ws {ws : Ws} : adrs (ws.map wsO) = ws.map (·.1) := by
  rw [adrs, List.map_map]; rfl
theorem rowEnds_app (j : Int) : ∀ a b : List Rw, rowEnds j (a ++ b) = rowEnds j a ++ rowEnds j b
  | [], _ => rfl
  | .row cs :: r, b => by show endsOf j _ ++ rowEnds j (r ++ b) = (endsOf j _ ++ rowEnds j r) ++ rowEnds j b; rw [rowEnds_app j r b, List.append_assoc]
  | .rule :: r, b => rowEnds_app j r b
  | .pen _ :: r, b => rowEnds_app j r b
theorem endsOf_app (j : Int) : ∀ a b, endsOf j (a ++ b) = endsOf j a ++ endsOf j b
  | [], _ => rfl
  | (f, c) :: r, b => by
    rw [List.cons_append]
    simp only [endsOf]
    rw [endsOf_app j r b]
    split <;> rfl
theorem spanSum_nonneg : ∀ {cs : List Cell}, (∀ c ∈ cs, 1 ≤ c.sp) → 0 ≤ spanSum cs
  | [], _ => Int.le_refl 0
  | c :: cs, h => by have := spanSum_nonneg fun c hc => h c (.tail _ hc); have := h c (.head _); show 0 ≤ c.sp + spanSum cs; omega
theorem placed_bnd : ∀ {cs : List Cell} {k : Int}, 0 ≤ k → (∀ c ∈ cs, 1 ≤ c.sp) → ∀ q ∈ placed k cs, 0 ≤ q.1 ∧ 1 ≤ q.2.sp ∧ q.1 + q.2.sp ≤ k + spanSum cs
  | [], _, _, _, _, hq => nomatch hq
  | c :: cs, k, hk, h, q, hq => by
    have h0 := spanSum_nonneg fun c hc => h c (.tail _ hc)
    have h1 := h c (.head _)
    have e : spanSum (c :: cs) = c.sp + spanSum cs := rfl
    rcases List.mem_cons.mp hq with rfl | hq
    · refine (mk_AA hk h1 ?_)
      dsimp only
      omega
    · have := placed_bnd (k := k + c.sp) (by omega) (fun c hc => h c (.tail _ hc)) q hq
      omega

theorem placed_len : ∀ (cs : List Cell) (k : Int), (placed k cs).length = cs.length
  | [], _ => rfl
  | _ :: cs, _ => by show (placed _ cs).length + 1 = _; rw [placed_len cs]; rfl
theorem endsOf_len (j : Int) : ∀ ps, (endsOf j ps).length ≤ ps.length
  | [] => Nat.le_refl 0
  | (f, c) :: r => by
    have := endsOf_len j r
    simp only [endsOf]
    split
    · rw [List.length_cons, List.length_cons]; omega
    · rw [List.length_cons]; omega
theorem len_spanSum : ∀ {cs : List Cell}, (∀ c ∈ cs, 1 ≤ c.sp) → (cs.length : Int) ≤ spanSum cs
  | [], _ => Int.le_refl 0
  | c :: cs, h => by have := len_spanSum fun c hc => h c (.tail _ hc); have := h c (.head _); show ((cs.length + 1 : Nat) : Int) ≤ c.sp + spanSum cs; omega
theorem rowEnds_len (j : Int) {n : Int} (hn : n ≤ 100) : ∀ {rs : List Rw}, (∀ cs, Rw.row cs ∈ rs → (∀ c ∈ cs, 1 ≤ c.sp) ∧ spanSum cs ≤ n) → (rowEnds j rs).length ≤ 100 * rs.length
  | [], _ => Nat.le_refl 0
  | .row cs :: r, h => by
    have h1 := rowEnds_len j hn (rs := r) fun cs hc => h cs (.tail _ hc)
    have h2 := h cs (.head _)
    have h3 := len_spanSum h2.1
    have h4 := endsOf_len j (placed 0 cs)
    rw [placed_len] at h4
    show (endsOf j _ ++ rowEnds j r).length ≤ _
    rw [List.length_append, List.length_cons]; omega
  | .rule :: r, h => by have := rowEnds_len j hn (rs := r) fun cs hc => h cs (.tail _ hc); show (rowEnds j r).length ≤ _; rw [List.length_cons]; omega
  | .pen _ :: r, h => by have := rowEnds_len j hn (rs := r) fun cs hc => h cs (.tail _ hc); show (rowEnds j r).length ≤ _; rw [List.length_cons]; omega

theorem endsOf_bnd {j : Int} : ∀ {ps : List (Int × Cell)}, (∀ q ∈ ps, 0 ≤ q.1 ∧ 1 ≤ q.2.sp) → ∀ e ∈ endsOf j ps, 0 ≤ e.1 ∧ e.1 ≤ j
  | [], _, _, he => nomatch he
  | (f, c) :: r, h, e, he => by
    have h0 := h (f, c) (.head _)
    simp only [endsOf] at he
    split at he
    · rcases List.mem_cons.mp he with rfl | he
      · dsimp only at h0 ⊢; omega
      · exact endsOf_bnd (fun q hq => h q (.tail _ hq)) e he
    · exact endsOf_bnd (fun q hq => h q (.tail _ hq)) e he
theorem rowEnds_bnd {j n : Int} : ∀ {rs : List Rw}, (∀ cs, Rw.row cs ∈ rs → (∀ c ∈ cs, 1 ≤ c.sp) ∧ spanSum cs ≤ n) → ∀ e ∈ rowEnds j rs, 0 ≤ e.1 ∧ e.1 ≤ j
  | [], _, _, he => nomatch he
  | .row cs :: r, h, e, he => by
    rcases List.mem_append.mp he with he | he
    · exact endsOf_bnd (fun q hq => have := placed_bnd (Int.le_refl 0) (h cs (.head _)).1 q hq; ⟨this.1, this.2.1⟩) e he
    · exact rowEnds_bnd (fun cs hc => h cs (.tail _ hc)) e he
  | .rule :: r, h, e, he => rowEnds_bnd (rs := r) (fun cs hc => h cs (.tail _ hc)) e he
  | .pen _ :: r, h, e, he => rowEnds_bnd (rs := r) (fun cs hc => h cs (.tail _ hc)) e he
theorem colStep_len (gs : List Int) (rs : List Rw) : ∀ k, (colStep gs rs k).1.length = k + 1 ∧ (colStep gs rs k).2.length = k
  | 0 => ⟨rfl, rfl⟩
  | k + 1 => by
    have := colStep_len gs rs k
    simp only [colStep]
    rw [List.length_append, List.length_append, this.1, this.2]
    exact ⟨rfl, rfl⟩
theorem Ok.cmp {A : Around} (h : Ok 0 A) : A.units + 64 < cLine := by have := h.units; omega
theorem ne_ints_q {a b : Addr} {xs ys : List Value} {ns ms : List Int} {na nb : Nat} {r : Bool} (N : News hB L s.heap news) (ma : (a, listOf xs.toArray na) ∈ news) (mb : (b, listOf ys.toArray nb) ∈ news) (hi : IntsAre xs ns) (hj : IntsAre ys ms)
    (hu : Ok 0 A) (hr : (!decide (ns = ms)) = r) (h : Q (.bool r) s) : wpAny (model prog w) A (compareOp .NotEq (.ref a) (.ref b)) Q E s :=
  ke_ne_ints (xs := xs) (ys := ys) (mk_EAAE _ ((N _ ma).1) rfl na rfl) (mk_EAAE _ ((N _ mb).1) rfl nb rfl) hi hj hu.cmp (hr ▸ h)
theorem ne_cons_q {a b : Addr} {xs ys : List Value} {n0 : Int} {ns : List Int} {na nb : Nat} (N : News hB L s.heap news) (ma : (a, listOf xs.toArray na) ∈ news) (mb : (b, listOf ys.toArray nb) ∈ news) (hi : IntsAre xs (n0 :: ns)) (hj : IntsAre ys [])
    (hu : Ok 0 A) (h : Q (.bool true) s) : wpAny (model prog w) A (compareOp .NotEq (.ref a) (.ref b)) Q E s := ne_ints_q N ma mb hi hj hu rfl h
theorem ne_nil_q {a b : Addr} {xs ys : List Value} {na nb : Nat} (N : News hB L s.heap news) (ma : (a, listOf xs.toArray na) ∈ news) (mb : (b, listOf ys.toArray nb) ∈ news) (hi : IntsAre xs []) (hj : IntsAre ys [])
    (hu : Ok 0 A) (h : Q (.bool false) s) : wpAny (model prog w) A (compareOp .NotEq (.ref a) (.ref b)) Q E s := ne_ints_q N ma mb hi hj hu rfl h

local macro_rules | `(tactic| walk_at "compareOp NotEq ref ref") => `(tactic| (k_here; refine of_hold ?_))
theorem foldl_max_mem : ∀ (r : List Int) (x : Int), r.foldl max x ∈ x :: r ∧ ∀ y ∈ x :: r, y ≤ r.foldl max x
  | [], x => ⟨.head _, fun y hy => by rw [List.mem_singleton.mp hy]; exact Int.le_refl x⟩
  | z :: r, x => by
    obtain ⟨h1, h2⟩ := foldl_max_mem r (max x z)
    refine ⟨?_, fun y hy => ?_⟩
    · show r.foldl max (max x z) ∈ _
      rcases List.mem_cons.mp h1 with h | h
      · rw [h]
        rw [Int.max_def]
        split
        · exact .tail _ (.head _)
        · exact .head _
      · exact .tail _ (.tail _ h)
    · show y ≤ r.foldl max (max x z)
      have h0 := h2 _ (.head _)
      rcases List.mem_cons.mp hy with rfl | hy
      · exact Int.le_trans (Int.le_max_left ..) h0
      · rcases List.mem_cons.mp hy with rfl | hy
        · exact Int.le_trans (Int.le_max_right ..) h0
        · exact h2 y (.tail _ hy)
theorem widest_eq {x M : Int} {r : List Int} (h1 : M ∈ x :: r) (h2 : ∀ y ∈ x :: r, y ≤ M) : widest (x :: r) = some M := by
  obtain ⟨g1, g2⟩ := foldl_max_mem r x
  exact congrArg some (Int.le_antisymm (h2 _ g1) (g2 _ h1))
section
local macro_rules | `(tactic| walk_at "call ref") => `(tactic| (k_here; (with_reducible show wpAny _ _ (call (.ref 122) _) _ _ _); refine of_hold ?_))
def wantF (b : List Int) (k : Nat) (e : Int × Int) : Int := e.2 - (b.getD k 0 - b.getD e.1.toNat 0)
theorem tendQ {mu mu' R T' : Led} {q : Addr × Obj} {J : (Str → Option Value) → Led → Led → Prop} {QF : Flow → Shared → Prop} {s₁ : Shared} {h' : Heap} {m' : Str → Option Value} {tk' : Nat}
    (F : Fr hB L h' m') (N : News hB L h' (q :: (mu' ++ R))) (ea : adrs mu' = adrs mu) (ab : ∀ p ∈ mu ++ R, p.1 < q.1) (hJ : J m' mu' (q :: T')) : TEnd hB L mu R T' J QF s₁ .next { s₁ with heap := h', toks := tk' } :=
  (mk_EEEEEAAAAA ([q]) mu' _ _ _ rfl F (newsSub N (by walk_at "q sub")) ea (Abv.cons ab Abv.nil) hJ)
theorem tend3 {a b c d e c0 d0 e0 : Addr × Obj} {R T' : Led} {J : (Str → Option Value) → Led → Led → Prop} {QF : Flow → Shared → Prop} {s₁ : Shared} {h' : Heap} {m' : Str → Option Value} {tk' : Nat}
    (F : Fr hB L h' m') (N : News hB L h' (a :: b :: c :: d :: e :: R)) (ea : c.1 = c0.1) (eb : d.1 = d0.1) (ec : e.1 = e0.1) (ab : Abv ([c0, d0, e0] ++ R) [a, b]) (hJ : J m' [c, d, e] ([a, b] ++ T')) : TEnd hB L [c0, d0, e0] R T' J QF s₁ .next { s₁ with heap := h', toks := tk' } :=
  (mk_EEEEEAAAAA ([a, b]) ([c, d, e]) _ _ _ rfl F (newsSub N (by walk_at "q sub")) (by simp [adrs, ea, eb, ec]) ab hJ)
theorem abv2 {l D A B C : Addr} {R : Led} {x y o1 o2 o3 o4 o5 o6 : Obj} (l1 : D < l ∧ A < l ∧ B < l ∧ C < l ∧ AllLt l R) (h : ∀ p ∈ (A, o4) :: (B, o5) :: (C, o6) :: R, p.1 < D) : Abv ([(A, o1), (B, o2), (C, o3)] ++ R) [(l, x), (D, y)] := by
  refine Abv.cons (fun q hq => ?_) (Abv.cons (fun q hq => ?_) Abv.nil)
  · rcases List.mem_cons.mp hq with rfl | hq
    · exact l1.2.1
    · rcases List.mem_cons.mp hq with rfl | hq
      · exact l1.2.2.1
      · rcases List.mem_cons.mp hq with rfl | hq
        · exact l1.2.2.2.1
        · exact ltAll l1.2.2.2.2 q hq
  · rcases List.mem_cons.mp hq with rfl | hq
    · exact h (A, o4) (.head _)
    · rcases List.mem_cons.mp hq with rfl | hq
      · exact h (B, o5) (.tail _ (.head _))
      · rcases List.mem_cons.mp hq with rfl | hq
        · exact h (C, o6) (.tail _ (.tail _ (.head _)))
        · exact h q (.tail _ (.tail _ (.tail _ hq)))
theorem abv_of {tl : Led} {c : Addr} (h1 : ∀ q ∈ news, q.1 < c) (h2 : ∀ p ∈ tl, c < p.1) : Abv news tl := fun q hq p hp => Nat.lt_trans (h1 q hq) (h2 p hp)
theorem All2.get {α : Type} {P : Value → α → Prop} : ∀ {vs : List Value} {xs : List α} {k : Nat} {x : α}, All2 P vs xs → xs[k]? = some x → ∃ v, vs[k]? = some v ∧ P v x
  | v :: _, _ :: _, 0, _, q, h => ⟨v, rfl, by obtain rfl := Option.some.inj h; exact q.1⟩
  | _ :: _, _ :: _, k + 1, _, q, h => All2.get (k := k) q.2 h
  | [], _ :: _, _, _, q, _ => q.elim
  | _ :: _, [], _, _, q, _ => q.elim
theorem colStep_mem (gs : List Int) (rs : List Rw) : ∀ (n k : Nat), k < n → widest ((rowEnds k rs).map (wantF (colStep gs rs k).1 k)) ∈ (colStep gs rs n).2
  | n + 1, k, h => by
    have e : (colStep gs rs (n + 1)).2 = (colStep gs rs n).2 ++ [widest ((rowEnds n rs).map (wantF (colStep gs rs n).1 n))] := rfl
    rw [e]
    rcases Nat.lt_succ_iff_lt_or_eq.mp h with h | rfl
    · exact List.mem_append_left _ (colStep_mem gs rs n k h)
    · exact List.mem_append_right _ (.head _)
theorem updF_of {c : Addr} {o : Obj} {post : Led} (h2 : ∀ p ∈ post, p.1 ≠ c) : ∀ {pre : Led}, (∀ p ∈ pre, p.1 ≠ c) → UpdF c o (pre ++ (c, o) :: post) (fun o' => pre ++ (c, o') :: post)
  | [], _ => .head h2
  | q :: _, h1 => .tail (h1 q (.head _)) (updF_of h2 fun p hp => h1 p (.tail _ hp))
def oD : Option Int → Dat
  | none => .none
  | some x => .int x

theorem widths_ct {n : Nat} {tn : Tok} {l sk : Addr} {vs gv : List Value} {rs : List Rw} {gs : List Int} {nn n2 : Nat} (X : (hd.heap_1 w.params).In hB) (T : TopRead p loose mg mb hB) (ok : Ok 5 A)
    (F : Fr hB L s.heap m) (N : News hB L s.heap news) (hl : (l, listOf vs.toArray nn) ∈ news) (hx : All2 (RwIn news) vs rs) (hk : (sk, listOf gv.toArray n2) ∈ news) (hg : All2 (GlueIn news) gv gs) (hgl : (gs.length : Int) = n + 1) (hrl : rs.length ≤ 10000) (hn : 1 ≤ (n : Int) ∧ (n : Int) ≤ 100)
    (hsp : ∀ cs, Rw.row cs ∈ rs → (∀ c ∈ cs, 1 ≤ c.sp) ∧ spanSum cs ≤ n) (hbd : ∀ x, some x ∈ widthsP gs rs n → -1073741823 ≤ x ∧ x ≤ 1073741823)
    (ret : ∀ r tl h' tk', Fr hB L h' m → News hB L h' (tl ++ news) → Abv news tl → DatIn tl r (.list ((widthsP gs rs n).map oD)) → Q r { s with heap := h', toks := tk' }) :
    wpAny (model prog w) A (call (.ref 450) [.ref l, .int n tn, .ref sk]) Q E s := by
  obtain ⟨ah, ad, af, ag, au⟩ := A
  have hh := ok.handled
  dsimp only at hh
  subst hh
  refine wpAny_call ?_
  k_dflt (refine' enterCells [(Str.ofString "rows", .ref l), (Str.ofString "columns", .int n tn), (Str.ofString "skips", .ref sk)] ?F ?X ?N ?T ?ho ?hcd ?hr ?hb ?hk ?hn ?c1 ?c2 ?c3 ?_)
  walk_at "q sidesC"
  intro L' h₁ oL tk cells F' N' nL Y lt hL off
  clear F N
  refine el_EEAA ?_ (CellsAre.two Y); rintro oc od rfl dc dd
  rw [List.cons_append, List.cons_append, List.nil_append] at N'
  have dc' : oc.data = .cell none := dc
  have dd' : od.data = .cell none := dd
  clear dc dd Y
  k_steps
  k_dflt (refine' check_skips_ct ?X ?T ?ok ?F ?N ?hl ?hx ?hn ?hlen ?_; walk_at "q pre"; (case hl => k_mem); (case hx => (refine All2.mono (fun _ _ h9 => GlueIn.mono h9 ?_) (by assumption); walk_at "q up")); (case hn => omega); (case hlen => omega); k_whole); walk_at "q ret0"
  k_steps
  rename_i h9 tk9 F9 N9
  replace N9 : News hB L' h9 ([] ++ ((L' + 1 + 1, oc) :: (L' + 1, od) :: (L, oL) :: news)) := N9
  refine comp_rangeT (mu := []) (fun xs' acc mu T => mu = [] ∧ ∃ ws : Ws, xs'.length + ws.length = n ∧ acc = ws.map (fun q => Value.ref q.1) ∧ (∀ q ∈ ws, q.2 = ([], 0)) ∧ (∀ p ∈ ws.map wsO, p ∈ T) ∧ (ws.map (·.1)).Pairwise (· < ·)) rfl (by omega) F9 N9 notIn_nil (mk_AEAAAA rfl ([]) (by rw [rangeItms, List.length_map, List.length_range]; rfl) rfl ((fun _ h => nomatch h)) ((fun _ h => nomatch h)) List.Pairwise.nil) ?_ ?_
  · rintro a r acc C Dl m' mu' T' R v h3 tk3; refine el_AEAAAA ?_; rintro rfl ws e1 rfl e3 e4 e5 _ _ ab hs ho _ F3 N3 PZ hPZ
    replace N3 : News hB C h3 ((Dl, listOf (ws.map (fun q => Value.ref q.1)).toArray (ws.map (fun q => Value.ref q.1)).length) :: R) := N3
    clear F9 N9
    k_steps
    rename_i _ l8 _ F8 N8 l7
    refine hPZ _ _ ?_; refine cendA [_] F8 N8 (Abv.cons (ltCons l7.1 l7.2) Abv.nil) (mk_AEAAAA rfl (ws ++ [(l8, [], 0)]) ?_ ?_ ?_ ?_ ?_)
    · rw [List.length_cons] at e1; rw [List.length_append, List.length_singleton]; omega
    · rw [List.map_append]; rfl
    · intro q hq
      rcases List.mem_append.mp hq with hq | hq
      · exact e3 q hq
      · rw [List.mem_singleton.mp hq]
    · intro p hp
      rw [List.map_append] at hp
      rcases List.mem_append.mp hp with hp | hp
      · exact .tail _ (e4 p hp)
      · rw [List.mem_singleton.mp hp]; exact .head _
    · rw [List.map_append, List.pairwise_append]
      refine (mk_AA e5 (List.pairwise_singleton ..) (fun a ha b hb => ?_))
      rw [List.mem_singleton.mp hb]
      refine el_EA ?_ (List.mem_map.mp ha); rintro q hq rfl
      exact ltAll l7.2 _ (hs _ (List.mem_append_left _ (e4 _ (List.mem_map_of_mem hq))))
  · rintro acc Dl mu' T' h3 tk3; refine el_AEAAAA ?_; rintro rfl ws e1 rfl e3 e4 e5 _ ab hl2 hne F3 N3
    clear F9 N9
    replace N3 : News hB L' h3 ((Dl, listOf (ws.map fun q => Value.ref q.1).toArray (ws.map fun q => Value.ref q.1).length) :: (T' ++ ((L' + 1 + 1, oc) :: (L' + 1, od) :: (L, oL) :: news))) := N3
    k_steps
    have hnd : (ws.map (·.1)).Nodup := e5.imp fun h => Nat.ne_of_lt h
    refine for_listT (mu := ws.map wsO) (Z := (Dl, listOf (ws.map fun q => Value.ref q.1).toArray (ws.map fun q => Value.ref q.1).length) :: (L' + 1 + 1, oc) :: (L' + 1, od) :: (L, oL) :: news) (fun xs m mu T => ∃ (us : List Value) (r0 r1 : List Rw) (w1 : Ws), xs = us.map Itm.val ∧ All2 (RwIn news) us r1 ∧ rs = r0 ++ r1 ∧ mu = w1.map wsO ∧ (∀ j : Nat, j < n → ∃ q, w1[j]? = some q ∧ All2 (PairIn T) q.2.1 (rowEnds j r0)) ∧
      m (Str.ofString "columns") = some (.int n tn) ∧ m (Str.ofString "skips") = some (.ref sk) ∧ m (Str.ofString "ending") = some (.ref Dl)) rfl ‹Fr _ _ _ _› (newsSub N3 ?_) (.tail _ (.tail _ (.tail _ (.tail _ hl)))) ?_ (mk_EEEEAAAAAAA vs ([]) rs ws rfl hx rfl rfl (fun j hj => ?_) rfl rfl rfl) ?_ ?_
    · intro q hq
      rcases List.mem_append.mp hq with hq | hq
      · exact .tail _ (List.mem_append_left _ (e4 q hq))
      · rcases List.mem_cons.mp hq with rfl | hq
        · exact .head _
        · exact .tail _ (List.mem_append_right _ hq)
    · intro q hq hm
      rw [adrs_ws] at hm
      refine el_EA ?_ (List.mem_map.mp hm); rintro q9 hq9 e9
      have hT := e4 _ (List.mem_map_of_mem (f := wsO) hq9)
      rcases List.mem_cons.mp hq with rfl | hq
      · exact hne _ hT e9
      · exact Nat.ne_of_gt (ab q hq _ hT) e9
    · rw [List.length_nil, Nat.zero_add] at e1
      obtain ⟨q, hq⟩ : ∃ q, ws[j]? = some q := ⟨_, List.getElem?_eq_getElem (by omega)⟩
      refine (mk_EA q hq ?_)
      rw [e3 q (List.mem_of_getElem? hq)]
      exact trivial
    · rintro a r m' mu' T2 R v h4 tk4; refine el_EEEEAAAAAAA ?_; rintro us r0 r1 w1 e hA hr rfl hw f1 f2 f3 hv ha2 ab2 hs2 ho2 F4 N4 PZ hPZ
      replace F4 := pin3 F4 f1 f2 f3
      clear N3
      cases us with
      | nil => cases e
      | cons u us =>
        cases r1 with
        | nil => exact hA.elim
        | cons y r1 =>
          rw [List.map_cons] at e
          injection e with e1' e2'
          subst e1' e2'
          obtain rfl : v = u := hv
          have hy := hA.1
          have up : ∀ p ∈ news, p ∈ R := fun p hp => hs2 p (List.mem_append_right _ (.tail _ (.tail _ (.tail _ (.tail _ hp)))))
          rw [adrs_ws, adrs_ws] at ha2
          have hnd1 : (w1.map (·.1)).Nodup := ha2 ▸ hnd
          cases y with
          | rule =>
            refine el_EEEEEEEEEEAA ?_ (hy); rintro x dx h1 h2 h3 t1 t2 t3 th n9 rfl m1 m2
            replace m1 := up _ m1
            replace m2 := up _ m2
            k_steps
            refine hPZ _ _ ?_; refine (mk_EEEEEAAAAAEEEEAAAAAAA ([]) _ _ _ _ rfl (‹Fr _ _ _ _›) (‹News _ _ _ _›) rfl Abv.nil us (r0 ++ [.rule]) r1 w1 rfl hA.2 (by rw [hr, List.append_assoc]; rfl) rfl (fun j hj => ?_) rfl rfl rfl)
            rw [rowEnds_app, show rowEnds j [Rw.rule] = [] from rfl, List.append_nil]
            exact hw j hj
          | pen k =>
            refine el_EEEEEEAA ?_ (hy); rintro x dx h1 t1 tv n9 rfl m1 m2
            replace m1 := up _ m1
            replace m2 := up _ m2
            k_steps
            refine hPZ _ _ ?_; refine (mk_EEEEEAAAAAEEEEAAAAAAA ([]) _ _ _ _ rfl (‹Fr _ _ _ _›) (‹News _ _ _ _›) rfl Abv.nil us (r0 ++ [.pen k]) r1 w1 rfl hA.2 (by rw [hr, List.append_assoc]; rfl) rfl (fun j hj => ?_) rfl rfl rfl)
            rw [rowEnds_app, show rowEnds j [Rw.pen k] = [] from rfl, List.append_nil]
            exact hw j hj
          | row cs =>
            refine el_EEEAA ?_ (hy); rintro l2 vs2 k2 rfl m1 hcs
            obtain ⟨hs1, hs3⟩ := hsp cs (hr ▸ List.mem_append_right _ (.head _))
            replace m1 := up _ m1
            replace hcs : All2 (CellIn R) vs2 cs := hcs.mono fun _ _ h => CellIn.mono h up
            k_steps
            k_dflt (refine' placed_ct ?X ?T ?ok ?F ?N ?hl ?hZ ?hx ?hsp ?hlen ?hn ?_; walk_at "q pre"; (case hl => k_mem); (case hx => assumption); (case hZ => first | assumption | walk_at "q up"); (case hsp => assumption); (case hlen => assumption); (case hn => omega); k_whole)
            intro D8 us8 k8 tl8 h8 tk8 F8 N8 ab8 hm8 in8
            replace N8 := newsSwap N8
            (try dsimp only [List.cons_append] at N8)
            k_steps
            have hpb := placed_bnd (k := 0) (Int.le_refl 0) hs1
            refine for_listT (mu := w1.map wsO) (Z := R ++ tl8) (fun xs m mu T => ∃ (us2 : List Value) (p0 p1 : List (Int × Cell)) (w2 : Ws), xs = us2.map Itm.val ∧ All2 (PlIn (tl8 ++ R)) us2 p1 ∧ placed 0 cs = p0 ++ p1 ∧ mu = w2.map wsO ∧ (∀ j : Nat, j < n → ∃ q, w2[j]? = some q ∧ All2 (PairIn (T ++ T2)) q.2.1 (rowEnds j r0 ++ endsOf j p0)) ∧
              m (Str.ofString "columns") = some (.int n tn) ∧ m (Str.ofString "skips") = some (.ref sk) ∧ m (Str.ofString "ending") = some (.ref Dl)) rfl F8 (List.append_assoc .. ▸ N8) (List.mem_append_right _ hm8) ?_ (mk_EEEEAAAAAAA us8 ([]) (placed 0 cs) w1 rfl in8 rfl rfl (fun j hj => ?_) rfl rfl rfl) ?_ ?_
            · intro q hq hm
              rcases List.mem_append.mp hq with hq | hq
              · rw [adrs_ws, ha2, ← adrs_ws] at hm
                exact ho2 q hq hm
              · refine el_EA ?_ (List.mem_map.mp hm); rintro q9 hq9 e9
                exact Nat.ne_of_lt (ab8 q9 (List.mem_append_left _ hq9) q hq) e9
            · rw [show endsOf (j : Int) [] = [] from rfl, List.append_nil]
              exact hw j hj
            · rintro a r m3 mu3 T3 R3 v h5 tk5; refine el_EEEEAAAAAAA ?_; rintro us2 p0 p1 w2 e hB2 hp rfl hw2 g1 g2 g3 hv ha3 ab3 hs4 ho3 F5 N5 PZ hPZ
              replace F5 := pin3 F5 g1 g2 g3
              clear F8 N8
              cases us2 with
              | nil => cases e
              | cons u us2 =>
                cases p1 with
                | nil => exact hB2.elim
                | cons y p1 =>
                  obtain ⟨f, c⟩ := y
                  rw [List.map_cons] at e
                  injection e with e1' e2'
                  subst e1' e2'
                  obtain rfl : v = u := hv
                  refine el_EEEEAA ?_ (hB2.1); rintro x cv t n9 rfl mx hc
                  have up3 : ∀ p ∈ tl8 ++ R, p ∈ R3 := fun p hp => hs4 p (List.mem_append_right _ ((List.mem_append.mp hp).elim (List.mem_append_right _) (List.mem_append_left _)))
                  replace mx := up3 _ mx
                  replace hc : CellIn R3 cv c := CellIn.mono hc up3
                  have hD : (Dl, listOf (ws.map fun q => Value.ref q.1).toArray (ws.map fun q => Value.ref q.1).length) ∈ R3 := up3 _ (List.mem_append_right _ (hs2 _ (List.mem_append_right _ (.head _))))
                  refine el_AA ?_ (hpb (f, c) (hp ▸ List.mem_append_right _ (.head _))); rintro b1 b2 b3
                  dsimp only at b1 b2 b3
                  rw [adrs_ws, adrs_ws] at ha3
                  have hnd2 : (w2.map (·.1)).Nodup := ha3 ▸ hnd1
                  have hc2 := hc
                  refine el_EEEEAAA ?_ (hc2); rintro li lt0 kv nn1 hu _ _ _
                  refine el_EEEEEEEEEEEEEEEEEEEEEAA ?_ (hu); rintro cx cdx h1 h2 h3 h4 h5 h6 h7 t1 t2 t3 t4 t5 t6 t7 tw th td1 ts n9 rfl m1 m2
                  refine el_EA ?_ (hw2 (f + c.sp - 1).toNat (by omega)); rintro ⟨a9, acc9, k9⟩ hq9 hP9
                  dsimp only at mx hP9
                  k_steps
                  refine item_q ‹News _ _ _ _› (List.mem_append_right _ hD) (by omega) (by omega) (x := .ref a9) ?_ ?_
                  · show (ws.map fun q => Value.ref q.1)[(f + c.sp - 1).toNat]? = some (.ref a9)
                    rw [show (ws.map fun q => Value.ref q.1) = (ws.map (·.1)).map Value.ref from by rw [List.map_map]; rfl, ← ha2, ← ha3, List.getElem?_map, List.getElem?_map, hq9]; rfl
                  have h9m : (a9, listOf acc9.toArray k9) ∈ w2.map wsO := List.mem_map_of_mem (f := wsO) (List.mem_of_getElem? hq9)
                  k_steps
                  k_dflt (refine' along_ct ?X ?T ?ok ?F ?N ?hc ?_; walk_at "q pre"; (case hc => (refine CellIn.mono (by assumption) ?_; walk_at "q up")); k_whole)
                  intro _ _ _ _ _
                  k_steps
                  rename_i _ D6 h6 F6 N6 l6
                  have hpost : ∀ p ∈ R3, p.1 ≠ a9 := fun p hp e => ho3 p hp (by rw [adrs_ws, ← ha3, e]; exact List.mem_map_of_mem (f := (·.1)) (List.mem_of_getElem? hq9))
                  have hlow : D6 ≠ a9 := Nat.ne_of_gt (l6 _ (List.mem_append_left _ h9m))
                  have hsz : acc9.toArray.size ≤ sizeLine := by
                    have g1 := hP9.len
                    have g2 := endsOf_len (f + c.sp - 1).toNat p0
                    have g3 := rowEnds_len (f + c.sp - 1).toNat hn.2 (rs := r0) fun cs h => hsp cs (hr ▸ List.mem_append_left _ h)
                    have g4 := placed_len cs 0
                    have g5 := len_spanSum hs1
                    have g6 : r0.length ≤ rs.length := by rw [hr, List.length_append]; omega
                    have h2 : sizeLine = 16777216 := rfl
                    rw [List.length_append] at g1
                    rw [hp, List.length_append] at g4
                    rw [List.size_toArray]; omega
                  refine append_K F6 N6 (.tail hlow (upd_ws hq9 hnd2 hpost)) (fun h7 F7 N7 => ?_) hsz
                  k_steps
                  refine hPZ _ _ ?_; refine tendQ F7 N7 ?_ l6 (mk_EEEEAAAAAAA us2 (p0 ++ [(f, c)]) p1 _ rfl hB2.2 (by rw [hp, List.append_assoc]; rfl) rfl (fun i hi => ?_) rfl rfl rfl)
                  · rw [adrs_ws, adrs_ws, ws_adrs _ _ hq9]
                  · rw [endsOf_app, ← List.append_assoc]
                    by_cases hij : i = (f + c.sp - 1).toNat
                    · subst hij
                      refine (mk_EA ((a9, acc9 ++ [.ref D6], k9 + 1)) (by rw [List.getElem?_set_self (List.getElem?_eq_some_iff.mp hq9).1]) ?_)
                      have e0 : endsOf (f + c.sp - 1).toNat [(f, c)] = [(f, c.along)] := by
                        simp only [endsOf]
                        rw [if_pos (by omega)]
                      rw [e0]
                      exact All2.snoc (hP9.mono fun _ _ h => h.mono fun q hq => .tail _ hq) (mk_EEEEA D6 _ _ _ rfl (.head _))
                    · refine el_EA ?_ (hw2 i hi); rintro q hq hP
                      refine (mk_EA q (by rw [List.getElem?_set_ne (Ne.symm hij)]; exact hq) ?_)
                      have e0 : endsOf (i : Int) [(f, c)] = [] := by
                        simp only [endsOf]
                        rw [if_neg (by omega)]
                      rw [e0, List.append_nil]
                      exact hP.mono fun _ _ h => h.mono fun q hq => .tail _ hq
            · rintro m3 mu3 T3 h5 tk5; refine el_EEEEAAAAAAA ?_; rintro us2 p0 p1 w2 e hB2 hp rfl hw2 g1 g2 g3 ha3 ab3 F5 N5
              cases us2 with
              | cons u us2 => cases e
              | nil =>
                cases p1 with
                | cons y p1 => exact hB2.elim
                | nil =>
                  rw [List.append_nil] at hp
                  replace F5 := pin3 F5 g1 g2 g3
                  k_steps
                  refine hPZ _ _ ?_; refine (mk_EEEEEAAAAAEEEEAAAAAAA (T3 ++ tl8) (w2.map wsO) _ _ _ rfl F5 (newsSub N5 ?_) ?_ ?_ us (r0 ++ [.row cs]) r1 w2 rfl hA.2 (by rw [hr, List.append_assoc]; rfl) rfl (fun j hj => ?_) rfl rfl rfl)
                  · walk_at "q sub"
                  · exact ha3
                  · exact Abv.app (ab3.sub fun q hq => (List.mem_append.mp hq).elim (List.mem_append_left _) fun h => List.mem_append_right _ (List.mem_append_left _ h)) ab8
                  · refine el_EA ?_ (hw2 j hj); rintro q hq hP
                    refine (mk_EA q hq ?_)
                    rw [rowEnds_app, show rowEnds j [Rw.row cs] = endsOf j (placed 0 cs) ++ [] from rfl, List.append_nil, hp]
                    exact hP.mono fun _ _ h => h.mono fun q hq => (List.mem_append.mp hq).elim (fun h => List.mem_append_left _ (List.mem_append_left _ h)) (List.mem_append_right _)
    · rintro m' mu' T2 h4 tk4; refine el_EEEEAAAAAAA ?_; rintro us r0 r1 w1 e hA hr rfl hw f1 f2 f3 ha2 ab2 F4 N4
      cases us with
      | cons u us => cases e
      | nil =>
        cases r1 with
        | cons y r1 => exact hA.elim
        | nil =>
          rw [List.append_nil] at hr
          subst hr
          replace F4 := pin3 F4 f1 f2 f3
          have N5 : News hB L' h4 ((L' + 1 + 1, oc) :: (L' + 1, od) :: (L, oL) :: (news ++ (w1.map wsO ++ ((Dl, listOf (ws.map fun q => Value.ref q.1).toArray (ws.map fun q => Value.ref q.1).length) :: T2)))) := newsSub N4 (by walk_at "q sub")
          clear N4
          have hmuA : ∀ p ∈ w1.map wsO, p.1 ∈ adrs (ws.map wsO) := fun p hp => ha2 ▸ List.mem_map_of_mem (f := (·.1)) hp
          have hC2 : ∀ p ∈ (L, oL) :: (news ++ (w1.map wsO ++ ((Dl, listOf (ws.map fun q => Value.ref q.1).toArray (ws.map fun q => Value.ref q.1).length) :: T2))), p.1 ≠ L' + 1 + 1 ∧ p.1 ≠ L' + 1 := by
            intro p hp
            have hi : ∀ q : Addr × Obj, L' + 1 + 1 < q.1 → q.1 ≠ L' + 1 + 1 ∧ q.1 ≠ L' + 1 := fun q hq => ⟨Nat.ne_of_gt hq, Nat.ne_of_gt (Nat.lt_trans (Nat.lt_succ_self _) hq)⟩
            have lo : ∀ q ∈ (L, oL) :: news, q.1 ≠ L' + 1 + 1 ∧ q.1 ≠ L' + 1 := fun q hq => ⟨Nat.ne_of_lt (Nat.lt_succ_of_lt (Nat.lt_succ_of_lt (lt q hq))), Nat.ne_of_lt (Nat.lt_succ_of_lt (lt q hq))⟩
            rcases List.mem_cons.mp hp with rfl | hp
            · exact lo _ (.head _)
            · rcases List.mem_append.mp hp with hp | hp
              · exact lo _ (.tail _ hp)
              · rcases List.mem_append.mp hp with hp | hp
                · have := hmuA p hp
                  refine el_EA ?_ (List.mem_map.mp this); rintro q hq e9
                  exact e9 ▸ hi q (ab _ (.head _) q (e4 q hq))
                · rcases List.mem_cons.mp hp with rfl | hp
                  · exact hi _ (hl2 _ (.head _))
                  · exact hi _ (ab2 _ (List.mem_append_right _ (.tail _ (.head _))) p hp)
          k_steps
          rename_i l7 h7 F7 N7 q7
          refine storeX_C F7 N7 rfl (updF_of (pre := [_]) ?_ ?_) dc' (fun h8 oc8 F8 N8 dc8 => ?_)
          · intro p hp
            rcases List.mem_cons.mp hp with rfl | hp
            · exact Nat.ne_of_lt (Nat.lt_succ_self _)
            · exact (hC2 p hp).1
          · intro p hp
            rw [List.mem_singleton.mp hp]; exact Nat.ne_of_gt q7.1
          clear N7 F7
          k_steps
          rename_i l9 h9 Fa Na l9q h10 F9 N9
          refine el_AAA ?_ (q7); rintro q71 q72 q73 q74
          refine for_rangeT (mu := [(L' + 1, od), (l7, listOf [Value.int 0 tk4].toArray 0), (l9, listOf ([] : List Value).toArray 0)]) (Z := (L' + 1 + 1, oc8) :: (L, oL) :: (news ++ (w1.map wsO ++ ((Dl, listOf (ws.map fun q => Value.ref q.1).toArray (ws.map fun q => Value.ref q.1).length) :: T2))))
            (fun xs m mu T => ∃ (k : Nat) (bs fs : List Value) (kb kf : Nat) (od9 : Obj) (v9 : Option Value), k + xs.length = n ∧ xs = (rangeItms n).drop k ∧ mu = [(L' + 1, od9), (l7, listOf bs.toArray kb), (l9, listOf fs.toArray kf)] ∧ od9.data = .cell v9 ∧ IntsAre bs (colStep gs rs k).1 ∧ DatAll [] fs ((colStep gs rs k).2.map oD) ∧
              m (Str.ofString "columns") = some (.int n tn) ∧ m (Str.ofString "skips") = some (.ref sk) ∧ m (Str.ofString "ending") = some (.ref Dl) ∧ m (Str.ofString "found") = some (.ref l9)) rfl (by omega) F9 (newsSub N9 ?_) ?_ (mk_EEEEEEEAAAAAAAAA 0 ([Value.int 0 tk4]) ([]) 0 0 od _ (by rw [rangeItms, List.length_map, List.length_range]; omega) rfl rfl dd' ?_ .nil rfl rfl rfl rfl) ?_ ?_
          · walk_at "q sub"
          · intro q hq hm
            have hcs : q.1 = L' + 1 ∨ q.1 = l7 ∨ q.1 = l9 := by
              rcases List.mem_cons.mp hm with e | hm
              · exact .inl e
              · rcases List.mem_cons.mp hm with e | hm
                · exact .inr (.inl e)
                · exact .inr (.inr (List.mem_singleton.mp hm))
            have hlt : q.1 < l7 ∧ q.1 ≠ L' + 1 := by
              rcases List.mem_cons.mp hq with rfl | hq
              · exact ⟨q71, Nat.ne_of_gt (Nat.lt_succ_self _)⟩
              · refine ⟨?_, (hC2 q hq).2⟩
                rcases List.mem_cons.mp hq with rfl | hq
                · exact q73
                · exact ltAll q74 q hq
            have q75 : l7 < l9 := l9q _ (.head _)
            rcases hcs with e | e | e
            · exact hlt.2 e
            · exact Nat.ne_of_lt hlt.1 e
            · exact Nat.ne_of_lt (Nat.lt_trans hlt.1 q75) e
          · exact .cons _ _ .nil
          · rintro a r m3 mu3 T3 R3 v h5 tk5; refine el_EEEEEEEAAAAAAAAA ?_; rintro k bs fs kb kf od9 v9 ek ex rfl dd9 hbs hfs g1 g2 g3 g4 hv ha3 ab3 hs4 ho3 F5 N5 PZ hPZ
            replace F5 := pin4 F5 g1 g2 g3 g4
            replace N5 : News hB L' h5 ((L' + 1, od9) :: (l7, listOf bs.toArray kb) :: (l9, listOf fs.toArray kf) :: R3) := N5
            have hkn : k < n := by rw [List.length_cons] at ek; omega
            have ea : a = Itm.tok fun t => .int (k : Int) t := by
              have e9 := congrArg (·[0]?) ex
              simp only [List.getElem?_cons_zero, List.getElem?_drop, Nat.add_zero, rangeItms, List.getElem?_map, List.getElem?_range hkn, Option.map_some] at e9
              exact Option.some.inj e9
            subst ea
            obtain ⟨tv, rfl⟩ : ∃ tv, v = .int (k : Int) tv := hv
            have up3 : ∀ p ∈ (L' + 1 + 1, oc8) :: (L, oL) :: (news ++ (w1.map wsO ++ ((Dl, listOf (ws.map fun q => Value.ref q.1).toArray (ws.map fun q => Value.ref q.1).length) :: T2))), p ∈ R3 := fun p hp => hs4 p (List.mem_append_right _ hp)
            have hnw : ∀ p ∈ news, p ∈ R3 := fun p hp => up3 p (.tail _ (.tail _ (List.mem_append_left _ hp)))
            have mC := up3 _ (.head _)
            have mE : (Dl, listOf (ws.map fun q => Value.ref q.1).toArray (ws.map fun q => Value.ref q.1).length) ∈ R3 := up3 _ (.tail _ (.tail _ (List.mem_append_right _ (List.mem_append_right _ (.head _)))))
            have mS := hnw _ hk
            have hgv : All2 (GlueIn R3) gv gs := hg.mono fun _ _ h => h.mono hnw
            refine el_EA ?_ (hw k hkn); rintro ⟨a9, acc9, k9⟩ hq9 hP9
            have mA : (a9, listOf acc9.toArray k9) ∈ R3 := up3 _ (.tail _ (.tail _ (List.mem_append_right _ (List.mem_append_left _ (List.mem_map_of_mem (f := wsO) (List.mem_of_getElem? hq9))))))
            replace hP9 : All2 (PairIn R3) acc9 (rowEnds k rs) := hP9.mono fun _ _ h => h.mono fun p hp => up3 p (.tail _ (.tail _ (List.mem_append_right _ (List.mem_append_right _ (.tail _ hp)))))
            have r1 : ∀ p ∈ R3, p.1 ≠ L' + 1 := fun p hp e => ho3 p hp (e ▸ List.mem_cons_self ..)
            have r2 : ∀ p ∈ R3, p.1 ≠ l7 := fun p hp e => ho3 p hp (e ▸ List.mem_cons_of_mem _ (List.mem_cons_self ..))
            have r3 : ∀ p ∈ R3, p.1 ≠ l9 := fun p hp e => ho3 p hp (e ▸ List.mem_cons_of_mem _ (List.mem_cons_of_mem _ (List.mem_cons_self ..)))
            clear N9 Na Fa F9
            k_steps
            have q75 : l7 < l9 := l9q _ (.head _)
            refine storeX_C ‹Fr _ _ _ _› N5 rfl (updF_of (pre := []) ?_ (fun _ h => nomatch h)) dd9 (fun h6 od6 F6 N6 dd6 => ?_)
            · intro p hp
              rcases List.mem_cons.mp hp with rfl | hp
              · exact Nat.ne_of_gt q72
              · rcases List.mem_cons.mp hp with rfl | hp
                · exact Nat.ne_of_gt (Nat.lt_trans q72 q75)
                · exact r1 p hp
            replace N6 : News hB L' h6 ((L' + 1, od6) :: (l7, listOf bs.toArray kb) :: (l9, listOf fs.toArray kf) :: R3) := N6
            clear F5 N5
            k_steps
            have hws : w1.map (·.1) = ws.map (·.1) := by rw [← adrs_ws, ← adrs_ws, ha2]
            refine item_q N6 (.tail _ (.tail _ (.tail _ mE))) (by omega) (by omega) (x := .ref a9) ?_ ?_
            · show (ws.map fun q => Value.ref q.1)[((k : Int)).toNat]? = some (.ref a9)
              rw [Int.toNat_natCast, show (ws.map fun q => Value.ref q.1) = (ws.map (·.1)).map Value.ref from by rw [List.map_map]; rfl, ← hws, List.getElem?_map, List.getElem?_map, hq9]; rfl
            obtain ⟨hbl, hfl⟩ := colStep_len gs rs k
            have hbl2 : bs.length = k + 1 := by rw [IntsAre.length hbs, hbl]
            have hebd := rowEnds_bnd (j := k) hsp
            have hacl : acc9.length ≤ 1000000 := by
              have g1 := hP9.len
              have g3 := rowEnds_len k hn.2 hsp
              omega
            refine comp_listT (mu := []) (fun xs acc mu T => mu = [] ∧ T = [] ∧ ∃ (us : List Value) (p0 p1 : List (Int × Int)), xs = us.map Itm.val ∧ All2 (PairIn R3) us p1 ∧ rowEnds k rs = p0 ++ p1 ∧ IntsAre acc (p0.map (wantF (colStep gs rs k).1 k))) rfl hacl F6 N6 (.tail _ (.tail _ (.tail _ mA))) notIn_nil (mk_AAEEEAAA rfl rfl acc9 ([]) (rowEnds k rs) rfl hP9 rfl .nil) ?_ ?_
            · rintro a r2 acc C D5 m5 mu5 T5 R5 v h5 tk5; refine el_AAEEEAAA ?_; rintro rfl rfl us p0 p1 e hB5 hp hT hv _ ab5 hs5 ho5 _ F5 N5 PZ hPZ
              replace N5 : News hB C h5 ((D5, listOf acc.toArray acc.length) :: R5) := N5
              cases us with
              | nil => cases e
              | cons u us =>
                cases p1 with
                | nil => exact hB5.elim
                | cons y p1 =>
                  obtain ⟨f, sz⟩ := y
                  rw [List.map_cons] at e
                  injection e with e1' e2'
                  subst e1' e2'
                  obtain rfl : v = u := hv
                  refine el_EEEEA ?_ (hB5.1); rintro x t u n9 rfl mx
                  have b0 := hebd (f, sz) (hp ▸ List.mem_append_right _ (.head _))
                  dsimp only at mx b0
                  replace mx := hs5 _ (.tail _ (.tail _ (.tail _ mx)))
                  have mC5 := hs5 _ (.tail _ (.tail _ (.tail _ mC)))
                  have mD5 := hs5 _ (.head _)
                  have mB5 : (l7, listOf bs.toArray kb) ∈ R5 := hs5 _ (.tail _ (.head _))
                  clear F6 N6
                  k_steps
                  refine hPZ _ _ ?_; refine cend0 ‹Fr _ _ _ _› ‹News _ _ _ _› (mk_AAEEEAAA rfl rfl us (p0 ++ [(f, sz)]) p1 rfl hB5.2 (by rw [hp, List.append_assoc]; rfl) ?_)
                  rw [List.map_append]
                  exact IntsAre.append hT (.cons _ _ .nil)
            · rintro acc D5 mu5 T5 h5 tk5; refine el_AAEEEAAA ?_; rintro rfl rfl us p0 p1 e hB5 hp hT _ ab5 hlD5 _ F5 N5
              cases us with
              | cons u us => cases e
              | nil =>
                cases p1 with
                | cons y p1 => exact hB5.elim
                | nil =>
                  rw [List.append_nil] at hp
                  rw [← hp] at hT
                  replace N5 : News hB L' h5 ((D5, listOf acc.toArray acc.length) :: (L' + 1, od6) :: (l7, listOf bs.toArray kb) :: (l9, listOf fs.toArray kf) :: R3) := N5
                  clear F6 N6
                  have n1 : L' + 1 ≠ l9 := Nat.ne_of_lt (Nat.lt_trans q72 q75)
                  have n2 : l7 ≠ l9 := Nat.ne_of_lt q75
                  have n3 : L' + 1 ≠ l7 := Nat.ne_of_lt q72
                  have d1 : D5 ≠ l9 := Nat.ne_of_gt (hlD5 _ (.tail _ (.tail _ (.head _))))
                  have d2 : D5 ≠ l7 := Nat.ne_of_gt (hlD5 _ (.tail _ (.head _)))
                  have n4 : l9 ≠ l7 := Nat.ne_of_gt q75
                  have hfz : fs.toArray.size ≤ sizeLine := by
                    have h2 : sizeLine = 16777216 := rfl
                    have g1 := hfs.length
                    rw [List.length_map, hfl] at g1
                    rw [List.size_toArray]; omega
                  have hbz : bs.toArray.size ≤ sizeLine := by
                    have h2 : sizeLine = 16777216 := rfl
                    rw [List.size_toArray]; omega
                  have hx1 : (colStep gs rs (k + 1)).1 = (colStep gs rs k).1 ++ [(colStep gs rs k).1.getD k 0 + match widest ((rowEnds k rs).map (wantF (colStep gs rs k).1 k)) with | none => 0 | some y => y + gs.getD (k + 1) 0] := rfl
                  have hx2 : (colStep gs rs (k + 1)).2 = (colStep gs rs k).2 ++ [widest ((rowEnds k rs).map (wantF (colStep gs rs k).1 k))] := rfl
                  rcases hE : rowEnds k rs with _ | ⟨e0, er⟩
                  · rw [hE] at hT hx1 hx2
                    cases hT
                    k_steps
                    k_dflt (refine' ne_nil_q ?nn ?na ?nb ?ni ?nj ?nu ?_; (case nn => k_asm); (case na => k_mem); (case nb => k_mem); (case ni => first | exact IntsAre.nil | assumption); (case nj => exact IntsAre.nil); (case nu => walk_at "q ok"); k_whole)
                    k_steps
                    rename Fr _ _ _ _ => Fx
                    rename News _ _ _ _ => Nx
                    (try simp only [List.push_toArray] at Nx)
                    refine hPZ _ _ ?_; refine tend3 Fx Nx (by rfl) (by rfl) (by rfl) (abv2 (by assumption) hlD5) ?_
                    refine (mk_EEEEEEEAAAAAAAAA (k + 1) _ _ _ _ od6 _ ?_ ?_ rfl dd6 ?_ ?_ rfl rfl rfl rfl)
                    · rw [List.length_cons] at ek; omega
                    · have := congrArg List.tail ex
                      rwa [List.tail_cons, List.tail_drop] at this
                    · rw [hx1]
                      exact IntsAre.append hbs (.cons _ _ .nil)
                    · rw [hx2, List.map_append]
                      exact hfs.append (.cons .none .nil)
                  · rw [hE, List.map_cons] at hT hx1 hx2
                    k_steps
                    k_dflt (refine' ne_cons_q ?nn ?na ?nb ?ni ?nj ?nu ?_; (case nn => k_asm); (case na => k_mem); (case nb => k_mem); (case ni => assumption); (case nj => exact IntsAre.nil); (case nu => walk_at "q ok"); k_whole)
                    k_steps
                    rename_i M9 t9 _ F8 N8 a8 b8
                    have hM : widest (wantF (colStep gs rs k).1 k e0 :: er.map (wantF (colStep gs rs k).1 k)) = some M9 := widest_eq (List.mem_cons.mpr a8) fun y hy => (List.mem_cons.mp hy).elim (fun h => h ▸ b8.1) (b8.2 y)
                    have hMb := hbd M9 (by
                      have := colStep_mem gs rs n k hkn
                      rw [hE, List.map_cons, hM] at this
                      exact this)
                    obtain ⟨gx, hgx⟩ : ∃ gx, gs[k + 1]? = some gx := ⟨_, List.getElem?_eq_getElem (by omega)⟩
                    refine el_EA ?_ (All2.get hgv hgx); rintro vx hvx hGx
                    have hgd : gs.getD (k + 1) 0 = gx := by rw [List.getD_eq_getElem?_getD, hgx]; rfl
                    refine el_EEEEEEEEEEEEEEEEEEAA ?_ (hGx); rintro x dx h1 h2 h3 h4 h5 t1 t2 t3 t4 t5 tv v2 v3 v4 v5 n9 rfl m1 m2
                    refine check_dimen_ct X T (by walk_at "q ok") F8 N8 hMb fun h8 tk8 F8 N8 => ?_
                    k_steps
                    refine item_q ‹News _ _ _ _› (by k_mem) (by omega) (by omega) (x := .ref x) ?_ ?_
                    · show gv[((k : Int) + 1).toNat]? = some (.ref x)
                      rw [show ((k : Int) + 1).toNat = k + 1 from by omega]; exact hvx
                    k_steps
                    rename Fr _ _ _ _ => Fx
                    rename News _ _ _ _ => Nx
                    (try simp only [List.push_toArray] at Nx)
                    refine hPZ _ _ ?_; refine tend3 Fx Nx (by rfl) (by rfl) (by rfl) (abv2 (by assumption) hlD5) ?_
                    refine (mk_EEEEEEEAAAAAAAAA (k + 1) _ _ _ _ od6 _ ?_ ?_ rfl dd6 ?_ ?_ rfl rfl rfl rfl)
                    · rw [List.length_cons] at ek; omega
                    · have := congrArg List.tail ex
                      rwa [List.tail_cons, List.tail_drop] at this
                    · rw [hx1, hM, hgd]
                      exact IntsAre.append hbs (.cons _ _ .nil)
                    · rw [hx2, hM, List.map_append]
                      exact hfs.append (.cons (.int _ _) .nil)
          · rintro m3 mu3 T3 h5 tk5; refine el_EEEEEEEAAAAAAAAA ?_; rintro k bs fs kb kf od9 v9 ek ex rfl dd9 hbs hfs g1 g2 g3 g4 ha3 ab3 F5 N5
            replace F5 := pin4 F5 g1 g2 g3 g4
            rw [List.length_nil, Nat.add_zero] at ek
            subst ek
            clear N9 Na F9 Fa
            k_steps
            have q75 : l7 < l9 := l9q _ (.head _)
            refine el_AA ?_ (leaveB ([(L' + 1, od9), (l7, listOf bs.toArray kb), (l9, listOf fs.toArray kf)] ++ T3 ++ [(L' + 1 + 1, oc8)]) (w1.map wsO ++ ((Dl, listOf (ws.map fun q => Value.ref q.1).toArray (ws.map fun q => Value.ref q.1).length) :: T2)) hL nL off F5 (newsSub N5 (by intro q9 hq9; (try simp only [List.mem_append, List.mem_cons, List.not_mem_nil, or_false, false_or, List.cons_append, List.nil_append] at hq9 ⊢); (first | assumption | grind))) (abv_of lt fun p hp => by
              rcases List.mem_append.mp hp with hp | hp
              · rcases List.mem_append.mp hp with hp | hp
                · rcases List.mem_append.mp hp with hp | hp
                  · rcases List.mem_cons.mp hp with rfl | hp
                    · exact Nat.lt_succ_self _
                    · rcases List.mem_cons.mp hp with rfl | hp
                      · exact Nat.lt_trans (Nat.lt_succ_self _) q72
                      · rw [List.mem_singleton.mp hp]
                        exact Nat.lt_trans (Nat.lt_trans (Nat.lt_succ_self _) q72) q75
                  · exact Nat.lt_trans (Nat.lt_succ_self _) (ab3 _ (.head _) p hp)
                · rw [List.mem_singleton.mp hp]
                  exact Nat.lt_succ_of_lt (Nat.lt_succ_self _)
              · rcases List.mem_append.mp hp with hp | hp
                · refine el_EA ?_ (List.mem_map.mp (hmuA p hp)); rintro q hq e9
                  exact e9 ▸ Nat.lt_trans (Nat.lt_succ_of_lt (Nat.lt_succ_self _)) (ab _ (.head _) q (e4 q hq))
                · rcases List.mem_cons.mp hp with rfl | hp
                  · exact Nat.lt_trans (Nat.lt_succ_of_lt (Nat.lt_succ_self _)) (hl2 _ (.head _))
                  · exact Nat.lt_trans (Nat.lt_succ_of_lt (Nat.lt_succ_self _)) (ab2 _ (List.mem_append_right _ (.tail _ (.head _))) p hp))); rintro F2 N2 ab9
            exact ret _ _ _ _ F2 N2 ab9 (.list (List.mem_append_left _ (List.mem_append_left _ (List.mem_append_left _ (.tail _ (.tail _ (.head _)))))) (hfs.mono fun p hp => absurd hp List.not_mem_nil))

end
/-- a cell's tuple (first, last, size) -/
abbrev Cel := Int × Int × Int
def CelIn (Z : Led) (v : Value) (c : Cel) : Prop := ∃ x t1 t2 t3 n, v = .ref x ∧ (x, ({ cls := .type "tuple", data := .seq [Value.int c.1 t1, .int c.2.1 t2, .int c.2.2 t3].toArray n } : Obj)) ∈ Z
theorem CelIn.mono {Z Z' : Led} {v : Value} {c : Cel} (h : CelIn Z v c) (hs : ∀ p ∈ Z, p ∈ Z') : CelIn Z' v c := by
  refine el_EEEEEA ?_ (h); rintro x t1 t2 t3 n e a
  exact (mk_EEEEEA x t1 t2 t3 n e (hs _ a))
def RowIn (Z : Led) (v : Value) (r : List Cel) : Prop := ∃ l vs k, v = .ref l ∧ (l, listOf vs.toArray k) ∈ Z ∧ All2 (CelIn Z) vs r
theorem RowIn.mono {Z Z' : Led} {v : Value} {r : List Cel} (h : RowIn Z v r) (hs : ∀ p ∈ Z, p ∈ Z') : RowIn Z' v r := by
  refine el_EEEAA ?_ (h); rintro l vs k e a b
  exact (mk_EEEAA l vs k e (hs _ a) (b.mono fun _ _ q => q.mono hs))
def celD (c : Cel) : Dat := .tuple [.int c.1, .int c.2.1, .int c.2.2]
theorem CelIn.dat {Z : Led} {v : Value} {c : Cel} (h : CelIn Z v c) : DatIn Z v (celD c) := by
  refine el_EEEEEA ?_ (h); rintro x t1 t2 t3 n rfl a
  exact .tuple a (.cons (.int _ _) (.cons (.int _ _) (.cons (.int _ _) .nil)))
theorem All2.dat {α : Type} {Z : Led} {P : Value → α → Prop} {D : α → Dat} (hP : ∀ v x, P v x → DatIn Z v (D x)) : ∀ {vs : List Value} {xs : List α}, All2 P vs xs → DatAll Z vs (xs.map D)
  | [], [], _ => .nil
  | _ :: _, _ :: _, q => .cons (hP _ _ q.1) (All2.dat hP q.2)
  | [], _ :: _, q => q.elim
  | _ :: _, [], q => q.elim
theorem RowIn.dat {Z : Led} {v : Value} {r : List Cel} (h : RowIn Z v r) : DatIn Z v (.list (r.map celD)) := by
  refine el_EEEAA ?_ (h); rintro l vs k rfl a b
  exact .list a (b.dat fun _ _ q => q.dat)
/-- cells that follow each other, from column k on up to column j -/
def ChTo : Int → List Cel → Int → Prop
  | k, [], j => k = j
  | k, c :: r, j => c.1 = k ∧ k ≤ c.2.1 ∧ ChTo (c.2.1 + 1) r j
theorem ChTo.snoc {c : Cel} : ∀ {r : List Cel} {k j : Int}, ChTo k r j → c.1 = j → j ≤ c.2.1 → ChTo k (r ++ [c]) (c.2.1 + 1)
  | [], k, j, h, h1, h2 => ⟨h1.trans (Eq.symm h), by have : k = j := h; omega, rfl⟩
  | _ :: _, _, _, h, h1, h2 => (mk_AA h.1 h.2.1 (h.2.2.snoc h1 h2))
theorem ChTo.len : ∀ {r : List Cel} {k j : Int}, ChTo k r j → k + (r.length : Int) ≤ j
  | [], k, j, h => by have : k = j := h; simp; omega
  | c :: r, k, j, h => by have := h.2.2.len; have := h.2.1; rw [List.length_cons]; omega
/-- a row of a plan -/
def RowOk (n : Int) (M : Int) (r : List Cel) : Prop := (∃ j, j ≤ n ∧ ChTo 0 r j) ∧ ∀ c ∈ r, -M ≤ c.2.2 ∧ c.2.2 ≤ M
theorem eq_nil_q {a b : Addr} {xs : List Value} {ds : List Dat} {na nb : Nat} {n₁ : Led} {r : Bool} (N : News hB L s.heap news) (ma : (a, listOf xs.toArray na) ∈ news) (mb : (b, listOf ([] : List Value).toArray nb) ∈ news) (Da : DatAll n₁ xs ds) (sa : ∀ p ∈ n₁, p ∈ news)
    (ha : ∀ d ∈ ds, kqdOk 8 d = true) (hu : Ok 0 A) (hr : xs.isEmpty = r) (h : Q (.bool r) s) : wpAny (model prog w) A (compareOp .Eq (.ref a) (.ref b)) Q E s := by
  refine kqd_eq N ma rfl rfl Da sa mb rfl rfl DatAll.nil (fun _ h => h) ha (fun _ h => nomatch h) hu.cmp ?_
  have e : decide (ds = []) = r := by
    subst hr
    have := Da.length
    cases xs with
    | nil => cases ds with
      | nil => rfl
      | cons d ds => cases this
    | cons x xs => cases ds with
      | nil => cases this
      | cons d ds => rfl
  exact e ▸ h
theorem ne_nilD_q {a b : Addr} {xs : List Value} {ds : List Dat} {na nb : Nat} {n₁ : Led} {r : Bool} (N : News hB L s.heap news) (ma : (a, listOf xs.toArray na) ∈ news) (mb : (b, listOf ([] : List Value).toArray nb) ∈ news) (Da : DatAll n₁ xs ds) (sa : ∀ p ∈ n₁, p ∈ news)
    (ha : ∀ d ∈ ds, kqdOk 8 d = true) (hu : Ok 0 A) (hr : (!xs.isEmpty) = r) (h : Q (.bool r) s) : wpAny (model prog w) A (compareOp .NotEq (.ref a) (.ref b)) Q E s := by
  refine kqd_ne N ma rfl rfl Da sa mb rfl rfl DatAll.nil (fun _ h => h) ha (fun _ h => nomatch h) hu.cmp ?_
  have e : (!decide (ds = [])) = r := by
    subst hr
    have := Da.length
    cases xs with
    | nil => cases ds with
      | nil => rfl
      | cons d ds => cases this
    | cons x xs => cases ds with
      | nil => cases this
      | cons d ds => rfl
  exact e ▸ h
theorem celD_ok : ∀ r : List Cel, ∀ d ∈ r.map celD, kqdOk 8 d = true := fun r d hd => by
  refine el_EA ?_ (List.mem_map.mp hd); rintro c _ rfl; rfl
theorem rowD_ok : ∀ r : List (List Cel), ∀ d ∈ r.map (fun q => Dat.list (q.map celD)), kqdOk 8 d = true := fun r d hd => by
  refine el_EA ?_ (List.mem_map.mp hd); rintro c _ rfl
  show (c.map celD).all (kqdOk 7) = true
  rw [List.all_eq_true]
  intro x hx
  refine el_EA ?_ (List.mem_map.mp hx); rintro y _ rfl
  rfl
/-- the cell that a plan's tuple becomes -/
def cellOf (up : Bool) (cw : Int) (c : Cel) : Cell := if up then ⟨cw, c.2.2, 0, c.2.2, c.2.1 - c.1 + 1, true⟩ else ⟨c.2.2, cw, cw.fdiv 2, c.2.2, c.2.1 - c.1 + 1, false⟩
def rwsFrom (up : Bool) (cw : Int) : Int → List (List Cel) → List Rw
  | _, [] => []
  | k, r :: p => .row (r.map (cellOf up (cw + k))) :: (if k % 2 = 0 then .rule else .pen k) :: rwsFrom up cw (k + 1) p

local macro_rules | `(tactic| walk_at "exec For Name Call cons nil") => `(tactic| walk_at "q for")
local macro_rules | `(tactic| walk_at "exec For Name Name cons nil") => `(tactic| walk_at "q for")
local macro_rules | `(tactic| walk_at "exec For Tuple Call cons nil") => `(tactic| walk_at "q for")
local macro_rules | `(tactic| walk_at "exec For Tuple Name cons nil") => `(tactic| walk_at "q for")
theorem lt2 {R : Led} {e a b : Addr} {o o' : Obj} (h : a < e ∧ b < e ∧ AllLt e R) : ∀ q ∈ [(a, o), (b, o')] ++ R, q.1 < e := fun q hq => by
  rcases List.mem_cons.mp hq with rfl | hq
  · exact h.1
  · rcases List.mem_cons.mp hq with rfl | hq
    · exact h.2.1
    · exact ltAll h.2.2 q hq
theorem tendG {mu R T' led : Led} {J : (Str → Option Value) → Led → Led → Prop} {QF : Flow → Shared → Prop} {s₁ : Shared} {h' : Heap} {m' : Str → Option Value} {tk' : Nat} (tl mu' : Led)
    (F : Fr hB L h' m') (N : News hB L h' led) (hs : ∀ q ∈ mu' ++ (tl ++ R), q ∈ led) (ea : adrs mu' = adrs mu) (ab : Abv (mu ++ R) tl) (hJ : J m' mu' (tl ++ T')) : TEnd hB L mu R T' J QF s₁ .next { s₁ with heap := h', toks := tk' } :=
  (mk_EEEEEAAAAA tl mu' _ _ _ rfl F (newsSub N hs) ea ab hJ)
theorem notIn2 {R : Led} {a b : Addr} {o o' : Obj} (h : ∀ p ∈ R, p.1 ∉ adrs [(a, o), (b, o')]) : (∀ p ∈ R, p.1 ≠ a) ∧ ∀ p ∈ R, p.1 ≠ b :=
  ⟨fun p hp e => h p hp (e ▸ List.mem_cons_self ..), fun p hp e => h p hp (e ▸ List.mem_cons_of_mem _ (List.mem_cons_self ..))⟩
theorem ne2 {R : Led} {a b : Addr} {o o' : Obj} (h1 : ∀ p ∈ R, p.1 ≠ a) (h2 : ∀ p ∈ R, p.1 ≠ b) : ∀ p ∈ R, p.1 ∉ adrs [(a, o), (b, o')] := fun p hp e => by
  rcases List.mem_cons.mp e with e | e
  · exact h1 p hp e
  · exact h2 p hp (List.mem_singleton.mp e)
theorem neCons {R : Led} {a b : Addr} {o : Obj} (h : a ≠ b) (h2 : ∀ p ∈ R, p.1 ≠ b) : ∀ p ∈ (a, o) :: R, p.1 ≠ b := fun p hp => by
  rcases List.mem_cons.mp hp with rfl | hp
  · exact h
  · exact h2 p hp
theorem neApp {R R' : Led} {b : Addr} (h : ∀ p ∈ R, p.1 ≠ b) (h2 : ∀ p ∈ R', p.1 ≠ b) : ∀ p ∈ R ++ R', p.1 ≠ b := fun p hp => (List.mem_append.mp hp).elim (h p) (h2 p)
section
variable {mu R T' : Led} {J : (Str → Option Value) → Led → Led → Prop} {QF : Flow → Shared → Prop} {s₁ : Shared} {h' : Heap} {m' : Str → Option Value} {tk' : Nat} {a b x y : Addr} {oa ob oa' ob' ox oy : Obj}
theorem tend20 (F : Fr hB L h' m') (N : News hB L h' ((a, oa') :: (b, ob') :: R)) (hJ : J m' [(a, oa'), (b, ob')] T') : TEnd hB L [(a, oa), (b, ob)] R T' J QF s₁ .next { s₁ with heap := h', toks := tk' } :=
  tendG [] [(a, oa'), (b, ob')] F N (fun q hq => hq) rfl Abv.nil hJ
theorem tend21 (F : Fr hB L h' m') (N : News hB L h' ((y, oy) :: (a, oa') :: (b, ob') :: R)) (ly : a < y ∧ b < y ∧ AllLt y R) (hJ : J m' [(a, oa'), (b, ob')] ([(y, oy)] ++ T')) : TEnd hB L [(a, oa), (b, ob)] R T' J QF s₁ .next { s₁ with heap := h', toks := tk' } :=
  tendG [(y, oy)] [(a, oa'), (b, ob')] F N (by walk_at "q sub") rfl (Abv.cons (lt2 ly) Abv.nil) hJ
theorem tend22 (F : Fr hB L h' m') (N : News hB L h' ((x, ox) :: (y, oy) :: (a, oa') :: (b, ob') :: R)) (lx : y < x ∧ a < x ∧ b < x ∧ AllLt x R) (ly : a < y ∧ b < y ∧ AllLt y R) (hJ : J m' [(a, oa'), (b, ob')] ([(x, ox), (y, oy)] ++ T')) : TEnd hB L [(a, oa), (b, ob)] R T' J QF s₁ .next { s₁ with heap := h', toks := tk' } :=
  tendG [(x, ox), (y, oy)] [(a, oa'), (b, ob')] F N (by walk_at "q sub") rfl (Abv.cons (lt2 lx.2) (Abv.cons (lt2 ly) Abv.nil)) hJ
end
theorem tendP {R T' led : Led} {J : (Str → Option Value) → Led → Led → Prop} {QF : Flow → Shared → Prop} {s₁ : Shared} {h' : Heap} {m' : Str → Option Value} {tk' : Nat} {a b : Addr} {oa ob oa' ob' : Obj} (tl : Led)
    (F : Fr hB L h' m') (N : News hB L h' ((b, ob') :: (a, oa') :: led)) (hs : ∀ q ∈ tl ++ R, q ∈ led) (ab : Abv ([(a, oa), (b, ob)] ++ R) tl) (hJ : J m' [(a, oa'), (b, ob')] (tl ++ T')) : TEnd hB L [(a, oa), (b, ob)] R T' J QF s₁ .next { s₁ with heap := h', toks := tk' } :=
  tendG tl [(a, oa'), (b, ob')] F N (fun q hq => by
    simp only [List.cons_append, List.nil_append, List.mem_cons] at hq ⊢
    rcases hq with h | h | h
    · exact .inr (.inl h)
    · exact .inl h
    · exact .inr (.inr (hs q h))) rfl ab hJ

/-- a comprehension over a list that turns each element by itself -/
theorem comp_mapT {α β : Type} {target elt : PySem.Expr} {scope : Scope} {cl : List (Str × Addr)} {env : Env} {st : Value → (Str → Option Value) → Str → Option Value} {Q : Value → Shared → Prop} {l : Addr} {vs : List Value} {nn : Nat} {Z : Led} {xs : List α}
    (P : Value → α → Prop) (S : Led → Value → β → Prop) (f : α → β) (hS : ∀ T T' y b, (∀ p ∈ T, p ∈ T') → S T y b → S T' y b)
    (hh : A.handled = none) (hlen : vs.length ≤ 1000000) (F : Fr hB env.locals s.heap m) (N : News hB env.locals s.heap Z) (hl : (l, listOf vs.toArray nn) ∈ Z) (hx : All2 P vs xs)
    (turn : ∀ (x : α) (v : Value) (C D : Addr) (acc : List Value) (m' : Str → Option Value) (R : Led) (h : Heap) (tk : Nat), x ∈ xs → P v x → (∀ p ∈ Z, p ∈ R) → (∀ p ∈ R, p.1 ≠ D) → Fr hB C h m' → News hB C h ((D, listOf acc.toArray acc.length) :: R) →
      ∀ PP : Value → Shared → Prop, (∀ (tl : Led) (y : Value) (m₂ : Str → Option Value) (h₂ : Heap) (tk₂ : Nat), Fr hB C h₂ m₂ → News hB C h₂ (tl ++ (D, listOf acc.toArray acc.length) :: R) → Abv ((D, listOf acc.toArray acc.length) :: R) tl → S tl y (f x) → PP y { s with heap := h₂, toks := tk₂ }) →
      wpAny (model prog w) A (assign target (compEnvC scope cl C env) v) (fun _ s₂ => wpAny (model prog w) A (eval elt (compEnvC scope cl C env)) PP (fun _ _ => False) s₂) (fun _ _ => False) { s with heap := h, toks := tk })
    (done : ∀ (acc : List Value) (D : Addr) (T : Led) (h : Heap) (tk : Nat), All2 (S T) acc (xs.map f) → Abv Z T → (∀ p ∈ Z, p.1 < D) → (∀ p ∈ T, p.1 ≠ D) → Fr hB env.locals h (st (.ref D) m) → News hB env.locals h ((D, listOf acc.toArray acc.length) :: (T ++ Z)) → Q (.ref D) { s with heap := h, toks := tk }) :
    wpAny (model prog w) A (pyIter (.ref l)) (fun it s₂ => CompAt prog w A hB env scope cl target elt st Q it s₂) (fun _ _ => False) s := by
  refine comp_listT (mu := []) (Z := Z) (fun its acc mu T => mu = [] ∧ ∃ (us : List Value) (p0 p1 : List α), its = us.map Itm.val ∧ All2 P us p1 ∧ xs = p0 ++ p1 ∧ All2 (S T) acc (p0.map f)) hh hlen F N hl notIn_nil (mk_AEEEAAA rfl vs ([]) xs rfl hx rfl trivial) ?t ?d
  case t =>
    rintro a r acc C D m' mu' T R v h tk; refine el_AEEEAAA ?_; rintro rfl us p0 p1 e hA hp hT hv _ ab hs ho _ F2 N2 PZ hPZ
    cases us with
    | nil => cases e
    | cons u us =>
      cases p1 with
      | nil => exact hA.elim
      | cons y p1 =>
        rw [List.map_cons] at e
        injection e with e1 e2
        subst e1 e2
        obtain rfl : v = u := hv
        refine turn y v C D acc m' R h tk (hp ▸ List.mem_append_right _ (.head _)) hA.1 (fun p q => hs p (List.mem_append_right _ q)) (fun p hp e => ho p hp (by rw [e]; exact List.mem_cons_self ..)) F2 N2 PZ fun tl z m₂ h₂ tk₂ F3 N3 ab3 hz => ?_
        refine hPZ _ _ (cendA tl F3 N3 ab3 (mk_AEEEAAA rfl us (p0 ++ [y]) p1 rfl hA.2 (by rw [hp, List.append_assoc]; rfl) ?_))
        rw [List.map_append]
        exact (hT.mono fun _ _ q => hS _ _ _ _ (fun p hp => List.mem_append_right _ hp) q).snoc (hS _ _ _ _ (fun p hp => List.mem_append_left _ hp) hz)
  case d =>
    rintro acc D mu' T h tk; refine el_AEEEAAA ?_; rintro rfl us p0 p1 e hA hp hT _ ab hl hTD F2 N2
    cases us with
    | cons u us => cases e
    | nil =>
      cases p1 with
      | cons _ _ => exact hA.elim
      | nil =>
        rw [List.append_nil] at hp
        subst hp
        exact done acc D T h tk hT ab hl hTD F2 N2
/-- a comprehension over a list whose elements make nothing new -/
theorem comp_mapT0 {α β : Type} {target elt : PySem.Expr} {scope : Scope} {cl : List (Str × Addr)} {env : Env} {st : Value → (Str → Option Value) → Str → Option Value} {Q : Value → Shared → Prop} {l : Addr} {vs : List Value} {nn : Nat} {Z : Led} {xs : List α}
    (P : Value → α → Prop) (S : Value → β → Prop) (f : α → β)
    (hh : A.handled = none) (hlen : vs.length ≤ 1000000) (F : Fr hB env.locals s.heap m) (N : News hB env.locals s.heap Z) (hl : (l, listOf vs.toArray nn) ∈ Z) (hx : All2 P vs xs)
    (turn : ∀ (x : α) (v : Value) (C D : Addr) (acc : List Value) (m' : Str → Option Value) (R : Led) (h : Heap) (tk : Nat), x ∈ xs → P v x → (∀ p ∈ Z, p ∈ R) → (∀ p ∈ R, p.1 ≠ D) → Fr hB C h m' → News hB C h ((D, listOf acc.toArray acc.length) :: R) →
      ∀ PP : Value → Shared → Prop, (∀ (y : Value) (m₂ : Str → Option Value) (h₂ : Heap) (tk₂ : Nat), Fr hB C h₂ m₂ → News hB C h₂ ((D, listOf acc.toArray acc.length) :: R) → S y (f x) → PP y { s with heap := h₂, toks := tk₂ }) →
      wpAny (model prog w) A (assign target (compEnvC scope cl C env) v) (fun _ s₂ => wpAny (model prog w) A (eval elt (compEnvC scope cl C env)) PP (fun _ _ => False) s₂) (fun _ _ => False) { s with heap := h, toks := tk })
    (done : ∀ (acc : List Value) (D : Addr) (h : Heap) (tk : Nat), All2 S acc (xs.map f) → (∀ p ∈ Z, p.1 < D) → Fr hB env.locals h (st (.ref D) m) → News hB env.locals h ((D, listOf acc.toArray acc.length) :: Z) → Q (.ref D) { s with heap := h, toks := tk }) :
    wpAny (model prog w) A (pyIter (.ref l)) (fun it s₂ => CompAt prog w A hB env scope cl target elt st Q it s₂) (fun _ _ => False) s := by
  refine comp_listT (mu := []) (Z := Z) (fun its acc mu T => mu = [] ∧ T = [] ∧ ∃ (us : List Value) (p0 p1 : List α), its = us.map Itm.val ∧ All2 P us p1 ∧ xs = p0 ++ p1 ∧ All2 S acc (p0.map f)) hh hlen F N hl notIn_nil (mk_AAEEEAAA rfl rfl vs ([]) xs rfl hx rfl trivial) ?t ?d
  case t =>
    rintro a r acc C D m' mu' T R v h tk; refine el_AAEEEAAA ?_; rintro rfl rfl us p0 p1 e hA hp hT hv _ ab hs ho _ F2 N2 PZ hPZ
    cases us with
    | nil => cases e
    | cons u us =>
      cases p1 with
      | nil => exact hA.elim
      | cons y p1 =>
        rw [List.map_cons] at e
        injection e with e1 e2
        subst e1 e2
        obtain rfl : v = u := hv
        refine turn y v C D acc m' R h tk (hp ▸ List.mem_append_right _ (.head _)) hA.1 (fun p q => hs p q) (fun p hp e => ho p hp (by rw [e]; exact List.mem_cons_self ..)) F2 N2 PZ fun z m₂ h₂ tk₂ F3 N3 hz => ?_
        refine hPZ _ _ (cend0 F3 N3 (mk_AAEEEAAA rfl rfl us (p0 ++ [y]) p1 rfl hA.2 (by rw [hp, List.append_assoc]; rfl) ?_))
        rw [List.map_append]
        exact hT.snoc hz
  case d =>
    rintro acc D mu' T h tk; refine el_AAEEEAAA ?_; rintro rfl rfl us p0 p1 e hA hp hT _ ab hl hTD F2 N2
    cases us with
    | cons u us => cases e
    | nil =>
      cases p1 with
      | cons _ _ => exact hA.elim
      | nil =>
        rw [List.append_nil] at hp
        subst hp
        exact done acc D h tk hT hl F2 N2
theorem all2_map {α : Type} {g : α → Value} : ∀ {vs : List Value} {xs : List α}, All2 (fun v x => v = g x) vs xs → vs = xs.map g
  | [], [], _ => rfl
  | _ :: _, _ :: _, h => by rw [h.1, all2_map h.2]; rfl
/-- the same over `enumerate` -/
theorem comp_enumMapT {α β : Type} {elts : List PySem.Expr} {k : Nat} {pos : Pos} {elt : PySem.Expr} {scope : Scope} {cl : List (Str × Addr)} {env : Env} {st : Value → (Str → Option Value) → Str → Option Value} {Q : Value → Shared → Prop} {l : Addr} {vs : List Value} {nn : Nat} {Z : Led} {xs : List α}
    (P : Value → α → Prop) (S : Value → β → Prop) (f : Nat → α → β) (g : Nat → List α → List β) (hg0 : ∀ i, g i [] = []) (hg : ∀ i x r, g i (x :: r) = f i x :: g (i + 1) r)
    (hh : A.handled = none) (hlen : vs.length ≤ 1000000) (F : Fr hB env.locals s.heap m) (N : News hB env.locals s.heap Z) (hl : (l, listOf vs.toArray nn) ∈ Z) (hx : All2 P vs xs)
    (turn : ∀ (i : Nat) (x : α) (u : Value) (T : Addr) (t : Tok) (C D : Addr) (acc : List Value) (m' : Str → Option Value) (R : Led) (h : Heap) (tk : Nat), xs[i]? = some x → P u x → IsTup h T #[.int (i : Int) t, u] → (∀ p ∈ Z, p ∈ R) → (∀ p ∈ R, p.1 ≠ D) → Fr hB C h m' → News hB C h ((D, listOf acc.toArray acc.length) :: R) →
      ∀ PP : Value → Shared → Prop, (∀ (y : Value) (m₂ : Str → Option Value) (h₂ : Heap) (tk₂ : Nat), Fr hB C h₂ m₂ → News hB C h₂ ((D, listOf acc.toArray acc.length) :: R) → S y (f i x) → PP y { s with heap := h₂, toks := tk₂ }) →
      wpAny (model prog w) A (assign (.Tuple elts k pos) (compEnvC scope cl C env) (.ref T)) (fun _ s₂ => wpAny (model prog w) A (eval elt (compEnvC scope cl C env)) PP (fun _ _ => False) s₂) (fun _ _ => False) { s with heap := h, toks := tk })
    (done : ∀ (acc : List Value) (D : Addr) (h : Heap) (tk : Nat), All2 S acc (g 0 xs) → (∀ p ∈ Z, p.1 < D) → Fr hB env.locals h (st (.ref D) m) → News hB env.locals h ((D, listOf acc.toArray acc.length) :: Z) → Q (.ref D) { s with heap := h, toks := tk }) :
    wpAny (model prog w) A (call (.type "enumerate") [.ref l]) (fun xv s₁ => wpAny (model prog w) A (pyIter xv) (fun it s₂ => CompAt prog w A hB env scope cl (.Tuple elts k pos) elt st Q it s₂) (fun _ _ => False) s₁) (fun _ _ => False) s := by
  refine comp_enumT (mu := []) (Z := Z) (fun its acc mu T => mu = [] ∧ T = [] ∧ ∃ (us : List Value) (i0 : Nat) (p0 p1 : List α) (q : List β), its = enumItems i0 us ∧ All2 P us p1 ∧ xs = p0 ++ p1 ∧ i0 = p0.length ∧ All2 S acc q ∧ g 0 xs = q ++ g i0 p1) hh hlen F N hl notIn_nil (mk_AAEEEEEAAAAA rfl rfl vs 0 ([]) xs ([]) rfl hx rfl rfl trivial rfl) ?t ?d
  case t =>
    rintro a r acc C D m' mu' T R v h tk; refine el_AAEEEEEAAAAA ?_; rintro rfl rfl us i0 p0 p1 q e hA hp hi hq hgq hv _ ab hs ho _ F2 N2 PZ hPZ
    cases us with
    | nil => cases e
    | cons u us =>
      cases p1 with
      | nil => exact hA.elim
      | cons y p1 =>
        injection e with e1 e2
        subst e1 e2
        obtain ⟨TT, t, rfl, hT⟩ := hv
        refine turn i0 y u TT t C D acc m' R h tk ?_ hA.1 hT (fun p q => hs p q) (fun p hp e => ho p hp (by rw [e]; exact List.mem_cons_self ..)) F2 N2 PZ fun z m₂ h₂ tk₂ F3 N3 hz => ?_
        · rw [hp, List.getElem?_append_right (by omega), hi, Nat.sub_self]; rfl
        · refine hPZ _ _ (cend0 F3 N3 (mk_AAEEEEEAAAAA rfl rfl us (i0 + 1) (p0 ++ [y]) p1 (q ++ [f i0 y]) rfl hA.2 (by rw [hp, List.append_assoc]; rfl) (by rw [List.length_append, hi]; rfl) (hq.snoc hz) ?_))
          rw [hgq, hg, List.append_assoc]; rfl
  case d =>
    rintro acc D mu' T h tk; refine el_AAEEEEEAAAAA ?_; rintro rfl rfl us i0 p0 p1 q e hA hp hi hq hgq _ ab hl hTD F2 N2
    cases us with
    | cons u us => cases e
    | nil =>
      cases p1 with
      | cons _ _ => exact hA.elim
      | nil =>
        rw [hg0, List.append_nil] at hgq
        exact done acc D h tk (hgq ▸ hq) hl F2 N2
abbrev IntV : Value → Int → Prop := fun v n => ∃ t, v = .int n t
theorem ints_all2 : ∀ {vs : List Value} {ns : List Int}, IntsAre vs ns → All2 IntV vs ns
  | _, _, .nil => trivial
  | _, _, .cons _ t r => ⟨⟨t, rfl⟩, ints_all2 r⟩
theorem all2_ints {P : Value → Int → Prop} (hP : ∀ v n, P v n → IntV v n) : ∀ {vs : List Value} {ns : List Int}, All2 P vs ns → IntsAre vs ns
  | [], [], _ => .nil
  | v :: vs, n :: ns, h => by
    obtain ⟨t, rfl⟩ := hP v n h.1
    exact .cons _ _ (all2_ints hP h.2)
theorem datAll_all2 {α : Type} {Z : Led} {g : α → Dat} : ∀ {vs : List Value} {xs : List α}, DatAll Z vs (xs.map g) → All2 (fun v x => DatIn Z v (g x)) vs xs
  | [], [], _ => trivial
  | _ :: _, _ :: _, .cons h r => ⟨h, datAll_all2 r⟩

/-- the plain law: no program in sight -/
theorem widest_max {l : List Int} {M : Int} (h1 : M ∈ l) (h2 : ∀ y ∈ l, y ≤ M) : widest l = some M := by
  cases l with
  | nil => cases h1
  | cons x r => exact widest_eq h1 h2
theorem widest_spec {l : List Int} {M : Int} (h : widest l = some M) : M ∈ l ∧ ∀ y ∈ l, y ≤ M := by
  cases l with
  | nil => cases h
  | cons x r => obtain rfl : r.foldl max x = M := Option.some.inj h; exact foldl_max_mem r x
theorem widest_none {l : List Int} : widest l = none ↔ l = [] := by
  cases l with
  | nil => exact ⟨fun _ => rfl, fun _ => rfl⟩
  | cons x r => exact ⟨fun h => (by cases h), fun h => (by cases h)⟩
theorem widest_congr {l l' : List Int} (h : ∀ x, x ∈ l ↔ x ∈ l') : widest l = widest l' := by
  cases e : widest l with
  | none =>
    rw [widest_none] at e
    subst e
    refine (widest_none.mpr ?_).symm
    cases l' with
    | nil => rfl
    | cons x r => exact absurd ((h x).mpr (.head _)) (by simp)
  | some M =>
    obtain ⟨h1, h2⟩ := widest_spec e
    exact (widest_max ((h M).mp h1) fun y hy => h2 y ((h y).mpr hy)).symm
theorem widest_map {α : Type} {l : List α} {f f' : α → Int} (φ : Int → Int) (hφ : ∀ a b, a ≤ b → φ a ≤ φ b) (h : ∀ a ∈ l, f' a = φ (f a)) : widest (l.map f') = (widest (l.map f)).map φ := by
  cases e : widest (l.map f) with
  | none =>
    rw [widest_none, List.map_eq_nil_iff] at e
    subst e; rfl
  | some M =>
    obtain ⟨h1, h2⟩ := widest_spec e
    refine el_EA ?_ (List.mem_map.mp h1); rintro a ha rfl
    refine widest_max (List.mem_map.mpr (mk_EA a ha (h a ha))) fun y hy => ?_
    refine el_EA ?_ (List.mem_map.mp hy); rintro b hb rfl
    rw [h b hb]
    exact hφ _ _ (h2 _ (List.mem_map_of_mem hb))

/-- the cells of a plan that end at column k -/
def cellsAt (k : Int) (p : List (List Cel)) : List Cel := p.flatten.filter fun c => c.2.1 = k
def begF (g : Nat → Int) (E : Nat → List Cel) : Nat → Nat → Int
  | 0, _ => 0
  | k + 1, j => if j = k + 1 then begF g E k k + (match widest ((E k).map fun c => c.2.2 - (begF g E k k - begF g E k c.1.toNat)) with | none => 0 | some y => y + g (k + 1)) else begF g E k j
def xF (g : Nat → Int) (E : Nat → List Cel) (k : Nat) : Option Int := widest ((E k).map fun c => c.2.2 - (begF g E k k - begF g E k c.1.toNat))
def bF (g : Nat → Int) (E : Nat → List Cel) (k : Nat) : Int := begF g E k k
section
variable {g g' : Nat → Int} {E E' : Nat → List Cel} {k : Nat}
theorem begF_at : ∀ {k j : Nat}, j ≤ k → begF g E k j = bF g E j
  | 0, j, h => by obtain rfl : j = 0 := by omega
                  rfl
  | k + 1, j, h => by
    rcases Nat.lt_or_eq_of_le h with h | rfl
    · have e : begF g E (k + 1) j = begF g E k j := by simp only [begF]; rw [if_neg (by omega)]
      rw [e]; exact begF_at (by omega)
    · rfl
theorem bF_zero : bF g E 0 = 0 := rfl
theorem bF_succ (k : Nat) : bF g E (k + 1) = bF g E k + (match xF g E k with | none => 0 | some y => y + g (k + 1)) := by
  show begF g E (k + 1) (k + 1) = _
  simp only [begF, if_pos]; rfl
/-- cells end where they say, and begin no later -/
def EOk (E : Nat → List Cel) : Prop := ∀ k, ∀ c ∈ E k, 0 ≤ c.1 ∧ c.1 ≤ k ∧ c.2.1 = k
theorem xF_eq (h : EOk E) (k : Nat) : xF g E k = widest ((E k).map fun c => c.2.2 - (bF g E k - bF g E c.1.toNat)) := by
  show widest _ = _
  congr 1
  refine List.map_congr_left fun c hc => ?_
  rw [begF_at (Nat.le_refl k), begF_at (by have := (h k c hc).2.1; omega)]
theorem xF_none : xF g E k = none ↔ E k = [] := by
  show widest _ = _ ↔ _
  rw [widest_none, List.map_eq_nil_iff]
/-- column by column: as long as the begins are alike, so are the widths -/
theorem same_law {n : Nat} (hg : ∀ k, k < n → g' (k + 1) = g (k + 1)) (hx : ∀ k, k ≤ n → (∀ j, j ≤ k → bF g' E' j = bF g E j) → xF g' E' k = xF g E k) :
    ∀ k, k ≤ n → (∀ j, j ≤ k → bF g' E' j = bF g E j) ∧ xF g' E' k = xF g E k := by
  have hb : ∀ k, k ≤ n → ∀ j, j ≤ k → bF g' E' j = bF g E j := by
    intro k
    induction k with
    | zero => intro _ j hj; obtain rfl : j = 0 := by omega
              rfl
    | succ k ih =>
      intro hk j hj
      have ih' := ih (by omega)
      rcases Nat.lt_or_eq_of_le hj with hj | rfl
      · exact ih' j (by omega)
      · rw [bF_succ, bF_succ, hx k (by omega) ih', ih' k (Nat.le_refl k), hg k (by omega)]
  exact fun k hk => ⟨hb k hk, hx k hk (hb k hk)⟩
/-- sizes and gaps moved by steps -/
theorem shift_law {n : Nat} (h : EOk E) (h' : EOk E') (sh δ : Nat → Int) (f : Cel → Cel) (hf : ∀ k, E' k = (E k).map f) (hf1 : ∀ c, (f c).1 = c.1)
    (hs : ∀ k, ∀ c ∈ E k, (f c).2.2 = c.2.2 + (δ k - δ c.1.toNat) + sh k) (d0 : δ 0 = 0) (dn : ∀ k, k < n → E k = [] → δ (k + 1) = δ k) (ds : ∀ k, k < n → E k ≠ [] → δ (k + 1) = δ k + sh k + (g' (k + 1) - g (k + 1))) :
    ∀ k, k ≤ n → (∀ j, j ≤ k → bF g' E' j = bF g E j + δ j) ∧ xF g' E' k = (xF g E k).map (· + sh k) := by
  have hx : ∀ k, (∀ j, j ≤ k → bF g' E' j = bF g E j + δ j) → xF g' E' k = (xF g E k).map (· + sh k) := by
    intro k hb
    rw [xF_eq h', xF_eq h, hf, List.map_map]
    refine widest_map (· + sh k) (fun a b hab => by show a + sh k ≤ b + sh k; omega) fun c hc => ?_
    have h0 := h k c hc
    show (f c).2.2 - (bF g' E' k - bF g' E' (f c).1.toNat) = _
    rw [hf1, hb k (Nat.le_refl k), hb c.1.toNat (by omega), hs k c hc]
    omega
  have hb : ∀ k, k ≤ n → ∀ j, j ≤ k → bF g' E' j = bF g E j + δ j := by
    intro k
    induction k with
    | zero => intro _ j hj; obtain rfl : j = 0 := by omega
              rw [d0]; rfl
    | succ k ih =>
      intro hk j hj
      have ih' := ih (by omega)
      rcases Nat.lt_or_eq_of_le hj with hj | rfl
      · exact ih' j (by omega)
      · rw [bF_succ, bF_succ, hx k ih', ih' k (Nat.le_refl k)]
        cases e : xF g E k with
        | none =>
          have := dn k (by omega) (xF_none.mp e)
          show bF g E k + δ k + 0 = bF g E k + 0 + δ (k + 1)
          omega
        | some y =>
          have := ds k (by omega) (fun h => by rw [xF_none.mpr h] at e; cases e)
          show bF g E k + δ k + (y + sh k + g' (k + 1)) = bF g E k + (y + g (k + 1)) + δ (k + 1)
          omega
  exact fun k hk => ⟨hb k hk, hx k (hb k hk)⟩
/-- all sizes and gaps times many -/
theorem times_law {n : Nat} {many : Int} (hm : 0 ≤ many) (h : EOk E) (h' : EOk E') (f : Cel → Cel) (hf : ∀ k, E' k = (E k).map f) (hf1 : ∀ c, (f c).1 = c.1)
    (hs : ∀ c, (f c).2.2 = many * c.2.2) (hg : ∀ k, k < n → g' (k + 1) = many * g (k + 1)) :
    ∀ k, k ≤ n → (∀ j, j ≤ k → bF g' E' j = many * bF g E j) ∧ xF g' E' k = (xF g E k).map (many * ·) := by
  have hx : ∀ k, (∀ j, j ≤ k → bF g' E' j = many * bF g E j) → xF g' E' k = (xF g E k).map (many * ·) := by
    intro k hb
    rw [xF_eq h', xF_eq h, hf, List.map_map]
    refine widest_map (many * ·) (fun a b hab => Int.mul_le_mul_of_nonneg_left hab hm) fun c hc => ?_
    have h0 := h k c hc
    show (f c).2.2 - (bF g' E' k - bF g' E' (f c).1.toNat) = _
    rw [hf1, hb k (Nat.le_refl k), hb c.1.toNat (by omega), hs c, Int.mul_sub, Int.mul_sub]
  have hb : ∀ k, k ≤ n → ∀ j, j ≤ k → bF g' E' j = many * bF g E j := by
    intro k
    induction k with
    | zero => intro _ j hj; obtain rfl : j = 0 := by omega
              show (0 : Int) = many * 0
              rw [Int.mul_zero]
    | succ k ih =>
      intro hk j hj
      have ih' := ih (by omega)
      rcases Nat.lt_or_eq_of_le hj with hj | rfl
      · exact ih' j (by omega)
      · rw [bF_succ, bF_succ, hx k ih', ih' k (Nat.le_refl k)]
        cases e : xF g E k with
        | none => rw [Option.map_none, Int.mul_add]; simp
        | some y =>
          rw [Option.map_some]
          show many * bF g E k + (many * y + g' (k + 1)) = many * (bF g E k + (y + g (k + 1)))
          rw [hg k (by omega), Int.mul_add, Int.mul_add]
  exact fun k hk => ⟨hb k hk, hx k (hb k hk)⟩
/-- how far widths may go -/
theorem bnd_law {M : Int} (hM : 0 ≤ M) (h : EOk E) (hs : ∀ k, ∀ c ∈ E k, -M ≤ c.2.2 ∧ c.2.2 ≤ M) (hg : ∀ k, -M ≤ g k ∧ g k ≤ M) :
    ∀ k, (∀ j, j ≤ k → -(5 ^ k * M) ≤ bF g E j ∧ bF g E j ≤ 5 ^ k * M) ∧ ∀ x, xF g E k = some x → -(5 ^ k * M) * 2 - M ≤ x ∧ x ≤ 5 ^ k * M * 2 + M := by
  have hx : ∀ k, (∀ j, j ≤ k → -(5 ^ k * M) ≤ bF g E j ∧ bF g E j ≤ 5 ^ k * M) → ∀ x, xF g E k = some x → -(5 ^ k * M) * 2 - M ≤ x ∧ x ≤ 5 ^ k * M * 2 + M := by
    intro k hb x hx
    rw [xF_eq h] at hx
    refine el_EA ?_ (List.mem_map.mp (widest_spec hx).1); rintro c hc rfl
    have h0 := h k c hc
    have h1 := hb k (Nat.le_refl k)
    have h2 := hb c.1.toNat (by omega)
    have h3 := hs k c hc
    generalize (5 : Int) ^ k * M = W at h1 h2 ⊢
    omega
  intro k
  induction k with
  | zero =>
    have hb : ∀ j, j ≤ 0 → -(5 ^ 0 * M) ≤ bF g E j ∧ bF g E j ≤ 5 ^ 0 * M := fun j hj => by
      obtain rfl : j = 0 := by omega
      rw [bF_zero]; simp; omega
    exact ⟨hb, hx 0 hb⟩
  | succ k ih =>
    have hp : (5 : Int) ^ (k + 1) * M = 5 * (5 ^ k * M) := by rw [Int.pow_succ]; grind
    have hW : M ≤ 5 ^ k * M := by
      have : (1 : Int) ≤ 5 ^ k := by
        have := Int.pow_pos (m := k) (show (0 : Int) < 5 by decide)
        omega
      have := Int.mul_le_mul_of_nonneg_right this hM
      omega
    have hb : ∀ j, j ≤ k + 1 → -(5 ^ (k + 1) * M) ≤ bF g E j ∧ bF g E j ≤ 5 ^ (k + 1) * M := by
      intro j hj
      rw [hp]
      generalize (5 : Int) ^ k * M = W at ih hW ⊢
      rcases Nat.lt_or_eq_of_le hj with hj | rfl
      · have := ih.1 j (by omega)
        omega
      · have h1 := ih.1 k (Nat.le_refl k)
        rw [bF_succ]
        cases e : xF g E k with
        | none => dsimp only; omega
        | some y =>
          have := ih.2 y e
          have := hg (k + 1)
          show -(5 * W) ≤ bF g E k + (y + g (k + 1)) ∧ bF g E k + (y + g (k + 1)) ≤ 5 * W
          omega
    exact ⟨hb, hx _ hb⟩
end
theorem cellsAt_cons (k : Int) (r : List Cel) (p : List (List Cel)) : cellsAt k (r :: p) = (r.filter fun c => c.2.1 = k) ++ cellsAt k p := by
  simp [cellsAt, List.flatten_cons, List.filter_append]
theorem endsOf_cells (up : Bool) (cw j : Int) : ∀ (r : List Cel) (k e : Int), ChTo k r e → endsOf j (placed k (r.map (cellOf up cw))) = (r.filter fun c => c.2.1 = j).map fun c => (c.1, c.2.2)
  | [], _, _, _ => rfl
  | c :: r, k, e, h => by
    refine el_AA ?_ (h); rintro h1 h2 h3
    have e1 : (cellOf up cw c).sp = c.2.1 - c.1 + 1 := by cases up <;> rfl
    have e2 : (cellOf up cw c).along = c.2.2 := by cases up <;> rfl
    have e3 : k + (cellOf up cw c).sp = c.2.1 + 1 := by rw [e1]; omega
    show endsOf j ((k, cellOf up cw c) :: placed (k + (cellOf up cw c).sp) (r.map (cellOf up cw))) = _
    rw [e3]
    simp only [endsOf]
    rw [endsOf_cells up cw j r _ e h3, e3, e2, show c.2.1 + 1 - 1 = c.2.1 from by omega]
    by_cases hq : c.2.1 = j
    · rw [if_pos hq, List.filter_cons_of_pos (by simpa using hq), List.map_cons, h1]
    · rw [if_neg hq, List.filter_cons_of_neg (by simpa using hq)]
theorem rowEnds_cells (up : Bool) (cw j : Int) : ∀ (p : List (List Cel)) (i : Int), (∀ r ∈ p, ∃ e, ChTo 0 r e) → rowEnds j (rwsFrom up cw i p) = (cellsAt j p).map fun c => (c.1, c.2.2)
  | [], _, _ => rfl
  | r :: p, i, h => by
    obtain ⟨e, he⟩ := h r (.head _)
    rw [cellsAt_cons, List.map_append, ← endsOf_cells up (cw + i) j r 0 e he, ← rowEnds_cells up cw j p (i + 1) fun r hr => h r (.tail _ hr)]
    show endsOf j _ ++ rowEnds j ((if i % 2 = 0 then Rw.rule else .pen i) :: rwsFrom up cw (i + 1) p) = _
    split <;> rfl
def plE (p : List (List Cel)) (k : Nat) : List Cel := cellsAt k p
def gF (gs : List Int) (k : Nat) : Int := gs.getD k 0
/-- the widths of a plan -/
def tolds (gs : List Int) (p : List (List Cel)) (n : Nat) : List (Option Int) := (List.range n).map (xF (gF gs) (plE p))
theorem chTo_bnd : ∀ {r : List Cel} {k e : Int}, ChTo k r e → ∀ c ∈ r, k ≤ c.1 ∧ c.1 ≤ c.2.1 ∧ c.2.1 < e
  | [], _, _, _, _, hc => nomatch hc
  | d :: r, k, e, h, c, hc => by
    refine el_AA ?_ (h); rintro h1 h2 h3
    have hl := h3.len
    rcases List.mem_cons.mp hc with rfl | hc
    · omega
    · have := chTo_bnd h3 c hc; omega
theorem plE_ok {p : List (List Cel)} (h : ∀ r ∈ p, ∃ e, ChTo 0 r e) : EOk (plE p) := fun k c hc => by
  obtain ⟨h1, h2⟩ := List.mem_filter.mp hc
  refine el_EA ?_ (List.mem_flatten.mp h1); rintro r hr hc
  obtain ⟨e, he⟩ := h r hr
  have := chTo_bnd he c hc
  have h2 : c.2.1 = k := by simpa using h2
  omega
theorem colStep_cells {gs : List Int} {rs : List Rw} {E : Nat → List Cel} (hE : ∀ k : Nat, rowEnds k rs = (E k).map fun c => (c.1, c.2.2)) (h : EOk E) :
    ∀ k, colStep gs rs k = ((List.range (k + 1)).map (bF (gF gs) E), (List.range k).map (xF (gF gs) E))
  | 0 => rfl
  | k + 1 => by
    have hb : ∀ j, j ≤ k → ((List.range (k + 1)).map (bF (gF gs) E)).getD j 0 = bF (gF gs) E j := fun j hj => by
      rw [List.getD_eq_getElem?_getD, List.getElem?_map, List.getElem?_range (by omega)]; rfl
    have hx : widest ((rowEnds k rs).map fun e => e.2 - (((List.range (k + 1)).map (bF (gF gs) E)).getD k 0 - ((List.range (k + 1)).map (bF (gF gs) E)).getD e.1.toNat 0)) = xF (gF gs) E k := by
      rw [xF_eq h, hE, List.map_map]
      congr 1
      refine List.map_congr_left fun c hc => ?_
      show c.2.2 - _ = _
      rw [hb k (Nat.le_refl k), hb c.1.toNat (by have := h k c hc; omega)]
    simp only [colStep]
    rw [colStep_cells hE h k]
    dsimp only
    rw [hx, hb k (Nat.le_refl k)]
    refine Prod.ext ?_ ?_
    · rw [List.range_succ (n := k + 1), List.map_append, List.map_singleton, bF_succ]; rfl
    · show List.map (xF (gF gs) E) (List.range k) ++ [xF (gF gs) E k] = List.map (xF (gF gs) E) (List.range (k + 1))
      rw [List.range_succ (n := k), List.map_append]; rfl
theorem widthsP_cells (up : Bool) (cw : Int) {gs : List Int} {p : List (List Cel)} {n : Nat} (h : ∀ r ∈ p, ∃ e, ChTo 0 r e) : widthsP gs (rwsFrom up cw 0 p) n = tolds gs p n := by
  show (colStep _ _ n).2 = _
  rw [colStep_cells (fun k => rowEnds_cells up cw k p 0 h) (plE_ok h)]; rfl
def endsP (p : List (List Cel)) : List Int := p.flatten.map fun c => c.2.1
theorem tolds_get {gs : List Int} {p : List (List Cel)} {n k : Nat} (h : k < n) : (tolds gs p n)[k]? = some (xF (gF gs) (plE p) k) := by
  rw [tolds, List.getElem?_map, List.getElem?_range h]; rfl
theorem plE_nil {p : List (List Cel)} {k : Nat} : plE p k = [] ↔ (k : Int) ∉ endsP p := by
  simp only [plE, cellsAt, endsP, List.filter_eq_nil_iff, List.mem_map, not_exists, not_and, decide_eq_true_eq]
theorem law_none (gs : List Int) (p : List (List Cel)) (n : Nat) : (tolds gs p n).map (fun x => x.isNone) = (List.range n).map fun (k : Nat) => !decide ((k : Int) ∈ endsP p) := by
  rw [tolds, List.map_map]
  refine List.map_congr_left fun k _ => ?_
  show (xF _ _ k).isNone = _
  have h1 : xF (gF gs) (plE p) k = none ↔ (k : Int) ∉ endsP p := xF_none.trans plE_nil
  cases e : xF (gF gs) (plE p) k with
  | none => rw [e] at h1; rw [decide_eq_false (h1.mp rfl)]; rfl
  | some x =>
    rw [e] at h1
    have h2 : (k : Int) ∈ endsP p := Decidable.byContradiction fun hn => nomatch h1.mpr hn
    rw [decide_eq_true h2]; rfl
theorem law_ends {gs : List Int} {p : List (List Cel)} {k : Nat} (h : (k : Int) ∈ endsP p) : ∃ t, xF (gF gs) (plE p) k = some t := by
  cases e : xF (gF gs) (plE p) k with
  | some t => exact ⟨t, rfl⟩
  | none => exact absurd h (plE_nil.mp (xF_none.mp e))
theorem law_mixed (gs : List Int) {p q : List (List Cel)} (n : Nat) (hp : ∀ r ∈ p, ∃ e, ChTo 0 r e) (h : ∀ r, r ∈ q ↔ r ∈ p) : tolds gs q n = tolds gs p n := by
  have hq : ∀ r ∈ q, ∃ e, ChTo 0 r e := fun r hr => hp r ((h r).mp hr)
  refine List.map_congr_left fun k _ => ((same_law (n := k) (fun _ _ => rfl) fun k _ hb => ?_) k (Nat.le_refl k)).2
  rw [xF_eq (plE_ok hq), xF_eq (plE_ok hp)]
  have hm : ∀ c, c ∈ plE q k ↔ c ∈ plE p k := fun c => by
    simp only [plE, cellsAt, List.mem_filter, List.mem_flatten, h]
  refine widest_congr fun x => ?_
  simp only [List.mem_map]
  constructor
  · refine el_EA ?_; rintro c hc rfl
    refine (mk_EA c ((hm c).mp hc) ?_)
    rw [hb k (Nat.le_refl k), hb c.1.toNat (by have := plE_ok hq k c hc; omega)]
  · refine el_EA ?_; rintro c hc rfl
    refine (mk_EA c ((hm c).mpr hc) ?_)
    rw [hb k (Nat.le_refl k), hb c.1.toNat (by have := plE_ok hp k c hc; omega)]
/-- cells as wide as their columns at most -/
def roomsF (g0 : Int) : Nat → List (Option Int) → List Cel
  | k, some t :: r => ((k : Int), (k : Int), t - ((k : Int) + g0).fmod 3) :: roomsF g0 (k + 1) r
  | _, _ => []
theorem roomsF_ch (g0 : Int) : ∀ (l : List (Option Int)) (k : Nat), ∃ j, j ≤ (k : Int) + l.length ∧ ChTo k (roomsF g0 k l) j
  | some t :: r, k => by
    refine el_EA ?_ (roomsF_ch g0 r (k + 1)); rintro j h1 h2
    refine (mk_EAAA j (by rw [List.length_cons]; omega) rfl (Int.le_refl _) ?_)
    have e : ((k : Int) + 1) = ((k + 1 : Nat) : Int) := by omega
    show ChTo ((k : Int) + 1) _ _
    rw [e]; exact h2
  | none :: r, k => ⟨k, by omega, rfl⟩
  | [], k => (mk_EA k (by omega) rfl)
theorem roomsF_mem {g0 : Int} : ∀ {l : List (Option Int)} {k : Nat} {c : Cel}, c ∈ roomsF g0 k l → ∃ (j : Nat) (t : Int), l[j]? = some (some t) ∧ c.1 = ((k + j : Nat) : Int) ∧ c.2.1 = ((k + j : Nat) : Int) ∧ t - 2 ≤ c.2.2 ∧ c.2.2 ≤ t
  | some t :: r, k, c, h => by
    rcases List.mem_cons.mp h with rfl | h
    · refine (mk_EEAAA 0 t rfl rfl rfl ?_)
      have h1 := Int.fmod_eq_emod_of_nonneg ((k : Int) + g0) (b := 3) (by decide)
      dsimp only
      rw [h1]; omega
    · refine el_EEAAA ?_ (roomsF_mem h); rintro j t' h1 h2 h3 h4
      exact ⟨j + 1, t', h1, by rw [h2]; omega, by rw [h3]; omega, h4⟩
  | none :: r, k, c, h => nomatch h
  | [], k, c, h => nomatch h
theorem law_room (gs : List Int) {p : List (List Cel)} (n : Nat) (g0 : Int) (hp : ∀ r ∈ p, ∃ e, ChTo 0 r e) : tolds gs (p ++ [roomsF g0 0 (tolds gs p n)]) n = tolds gs p n := by
  have hr : ∃ e, ChTo 0 (roomsF g0 0 (tolds gs p n)) e := let ⟨j, _, h⟩ := roomsF_ch g0 (tolds gs p n) 0; ⟨j, h⟩
  have hq : ∀ r ∈ p ++ [roomsF g0 0 (tolds gs p n)], ∃ e, ChTo 0 r e := fun r h => by
    rcases List.mem_append.mp h with h | h
    · exact hp r h
    · rw [List.mem_singleton.mp h]; exact hr
  have hE : ∀ k, plE (p ++ [roomsF g0 0 (tolds gs p n)]) k = plE p k ++ (roomsF g0 0 (tolds gs p n)).filter fun c => c.2.1 = (k : Int) := fun k => by
    simp [plE, cellsAt, List.flatten_append, List.filter_append]
  refine List.map_congr_left fun k hk => ((same_law (n := k) (fun _ _ => rfl) fun k1 hk1 hb => ?_) k (Nat.le_refl k)).2
  have hkn : k1 < n := by have := List.mem_range.mp hk; omega
  rw [xF_eq (plE_ok hq)]
  have hw : (plE (p ++ [roomsF g0 0 (tolds gs p n)]) k1).map (fun c => c.2.2 - (bF (gF gs) (plE (p ++ [roomsF g0 0 (tolds gs p n)])) k1 - bF (gF gs) (plE (p ++ [roomsF g0 0 (tolds gs p n)])) c.1.toNat)) =
      (plE p k1).map (fun c => c.2.2 - (bF (gF gs) (plE p) k1 - bF (gF gs) (plE p) c.1.toNat)) ++ ((roomsF g0 0 (tolds gs p n)).filter fun c => c.2.1 = (k1 : Int)).map fun c => c.2.2 := by
    rw [hE, List.map_append]
    refine congr (congrArg _ (List.map_congr_left fun c hc => ?_)) (List.map_congr_left fun c hc => ?_)
    · rw [hb k1 (Nat.le_refl k1), hb c.1.toNat (by have := plE_ok hp k1 c hc; omega)]
    · obtain ⟨h1, h2⟩ := List.mem_filter.mp hc
      refine el_EEAAA ?_ (roomsF_mem h1); rintro j t _ h3 h4 _
      have h2 : c.2.1 = (k1 : Int) := by simpa using h2
      have h5 : c.1.toNat = k1 := by omega
      rw [h5]; omega
  rw [hw]
  have hm : ∀ c ∈ (roomsF g0 0 (tolds gs p n)).filter (fun c => c.2.1 = (k1 : Int)), ∃ t, xF (gF gs) (plE p) k1 = some t ∧ c.2.2 ≤ t := fun c hc => by
    obtain ⟨h1, h2⟩ := List.mem_filter.mp hc
    refine el_EEAAA ?_ (roomsF_mem h1); rintro j t h0 h3 h4 h5
    have h2 : c.2.1 = (k1 : Int) := by simpa using h2
    obtain rfl : j = k1 := by omega
    rw [tolds_get hkn] at h0
    exact (mk_EA t (Option.some.inj h0) h5.2)
  cases e : xF (gF gs) (plE p) k1 with
  | none =>
    rw [widest_none]
    have h1 := xF_none.mp e
    rw [h1, List.map_nil, List.nil_append, List.map_eq_nil_iff, List.eq_nil_iff_forall_not_mem]
    intro c hc
    refine el_EA ?_ (hm c hc); rintro t ht _
    rw [e] at ht; cases ht
  | some M =>
    have h1 := e
    rw [xF_eq (plE_ok hp)] at h1
    obtain ⟨h2, h3⟩ := widest_spec h1
    refine widest_max (List.mem_append_left _ h2) fun y hy => ?_
    rcases List.mem_append.mp hy with hy | hy
    · exact h3 y hy
    · refine el_EA ?_ (List.mem_map.mp hy); rintro c hc rfl
      refine el_EA ?_ (hm c hc); rintro t ht hle
      rw [e] at ht
      obtain rfl := Option.some.inj ht
      exact hle
def widerF (more : Int) (cov : Int → Int → Bool) (c : Cel) : Cel := (c.1, c.2.1, if cov c.1 c.2.1 then c.2.2 + more else c.2.2)
theorem plE_map {f : Cel → Cel} (hf : ∀ c, (f c).2.1 = c.2.1) (p : List (List Cel)) (k : Nat) : plE (p.map fun r => r.map f) k = (plE p k).map f := by
  simp only [plE, cellsAt]
  induction p with
  | nil => rfl
  | cons r p ih =>
    rw [List.map_cons, List.flatten_cons, List.flatten_cons, List.filter_append, List.filter_append, List.map_append, ih]
    congr 1
    rw [List.filter_map]
    congr 1
    refine List.filter_congr fun c _ => ?_
    show decide ((f c).2.1 = _) = _
    rw [hf]
theorem ch_map {f : Cel → Cel} (h1 : ∀ c, (f c).1 = c.1) (h2 : ∀ c, (f c).2.1 = c.2.1) : ∀ {r : List Cel} {k e : Int}, ChTo k r e → ChTo k (r.map f) e
  | [], _, _, h => h
  | c :: r, _, _, h => (mk_AA ((h1 c).trans h.1) (by rw [h2]; exact h.2.1) (by rw [h2]; exact ch_map h1 h2 h.2.2))
theorem ch_map_all {f : Cel → Cel} (h1 : ∀ c, (f c).1 = c.1) (h2 : ∀ c, (f c).2.1 = c.2.1) {p : List (List Cel)} (hp : ∀ r ∈ p, ∃ e, ChTo 0 r e) : ∀ r ∈ p.map (fun r => r.map f), ∃ e, ChTo 0 r e := fun r hr => by
  refine el_EA ?_ (List.mem_map.mp hr); rintro q hq rfl
  obtain ⟨e, he⟩ := hp q hq
  exact ⟨e, ch_map h1 h2 he⟩
def dueF (col more : Int) : Nat → List (Option Int) → List (Option Int)
  | _, [] => []
  | k, x :: r => (if (k : Int) = col then x.map (· + more) else x) :: dueF col more (k + 1) r
theorem dueF_map (col more : Int) (x : Nat → Option Int) : ∀ (l : List Nat) (i : Nat), (∀ j, ∀ h : j < l.length, l[j] = i + j) → dueF col more i (l.map x) = l.map fun (k : Nat) => if (k : Int) = col then (x k).map (· + more) else x k
  | [], _, _ => rfl
  | a :: l, i, h => by
    have h0 : a = i := h 0 (Nat.zero_lt_succ _)
    subst h0
    show _ :: dueF col more (a + 1) (l.map x) = _ :: _
    rw [dueF_map col more x l (a + 1) fun j hj => (h (j + 1) (Nat.succ_lt_succ hj)).trans (by omega)]
theorem law_due (gs : List Int) {p : List (List Cel)} (n : Nat) (col more : Int) (hp : ∀ r ∈ p, ∃ e, ChTo 0 r e) (hc : col ∈ endsP p) (cov : Int → Int → Bool) (hcov : ∀ f l, cov f l = true ↔ f ≤ col ∧ col ≤ l) :
    tolds gs (p.map fun r => r.map (widerF more cov)) n = dueF col more 0 (tolds gs p n) := by
  have e0 : 0 ≤ col := by
    refine el_EA ?_ (List.mem_map.mp hc); rintro c hc1 hc2
    refine el_EA ?_ (List.mem_flatten.mp hc1); rintro r hr hc3
    obtain ⟨e, he⟩ := hp r hr
    have := chTo_bnd he c hc3
    omega
  have hq := ch_map_all (f := widerF more cov) (fun _ => rfl) (fun _ => rfl) hp
  rw [tolds, tolds, dueF_map col more _ _ 0 fun j hj => by rw [List.getElem_range]; omega]
  refine List.map_congr_left fun k _ => ?_
  have := (shift_law (g := gF gs) (g' := gF gs) (n := k) (plE_ok hp) (plE_ok hq) (fun k => if (k : Int) = col then more else 0) (fun k => if (k : Int) > col then more else 0) (widerF more cov) (plE_map (f := widerF more cov) (fun _ => rfl) p) (fun _ => rfl) ?_ (if_neg (by omega)) ?_ ?_ k (Nat.le_refl k)).2
  · rw [this]
    split
    · rfl
    · cases xF (gF gs) (plE p) k with
      | none => rfl
      | some x => show some (x + 0) = some x; rw [Int.add_zero]
  · intro k c hm
    have h0 := plE_ok hp k c hm
    have h1 : ((c.1.toNat : Nat) : Int) = c.1 := by omega
    have h2 := hcov c.1 c.2.1
    show (if cov c.1 c.2.1 = true then c.2.2 + more else c.2.2) = _
    simp only [h2, h1]
    split <;> split <;> split <;> split <;> omega
  · intro k _ he
    have : (k : Int) ≠ col := fun h => plE_nil.mp he (h ▸ hc)
    (try dsimp only)
    split <;> split <;> omega
  · intro k _ _
    (try dsimp only)
    split <;> split <;> split <;> omega
def furtherF (col more : Int) : Nat → List Int → List Int
  | _, [] => []
  | k, x :: r => (if (k : Int) = col + 1 then x + more else x) :: furtherF col more (k + 1) r
theorem furtherF_get (col more : Int) : ∀ (l : List Int) (i k : Nat), k < l.length → (furtherF col more i l).getD k 0 = l.getD k 0 + (if ((i + k : Nat) : Int) = col + 1 then more else 0)
  | [], _, _, h => nomatch h
  | x :: l, i, 0, _ => by
    show (if (i : Int) = col + 1 then x + more else x) = x + (if ((i + 0 : Nat) : Int) = col + 1 then more else 0)
    rw [Nat.add_zero]
    split <;> omega
  | x :: l, i, k + 1, h => by
    show (furtherF col more (i + 1) l).getD k 0 = l.getD k 0 + _
    rw [furtherF_get col more l (i + 1) k (Nat.lt_of_succ_lt_succ h), show i + 1 + k = i + (k + 1) from by omega]
theorem furtherF_len (col more : Int) : ∀ (l : List Int) (i : Nat), (furtherF col more i l).length = l.length
  | [], _ => rfl
  | _ :: l, i => by show (furtherF col more (i + 1) l).length + 1 = l.length + 1; rw [furtherF_len]
theorem law_further {gs : List Int} {p : List (List Cel)} {n : Nat} (hgl : gs.length = n + 1) (col more : Int) (hp : ∀ r ∈ p, ∃ e, ChTo 0 r e) (hc : col ∈ endsP p) (cov : Int → Int → Bool) (hcov : ∀ f l, cov f l = true ↔ f ≤ col ∧ col < l) :
    tolds (furtherF col more 0 gs) (p.map fun r => r.map (widerF more cov)) n = tolds gs p n := by
  have e0 : 0 ≤ col := by
    refine el_EA ?_ (List.mem_map.mp hc); rintro c hc1 hc2
    refine el_EA ?_ (List.mem_flatten.mp hc1); rintro r hr hc3
    obtain ⟨e, he⟩ := hp r hr
    have := chTo_bnd he c hc3
    omega
  have hq := ch_map_all (f := widerF more cov) (fun _ => rfl) (fun _ => rfl) hp
  rw [tolds, tolds]
  refine List.map_congr_left fun k hk => ?_
  have hkn := List.mem_range.mp hk
  have := (shift_law (g := gF gs) (g' := gF (furtherF col more 0 gs)) (n := k) (plE_ok hp) (plE_ok hq) (fun _ => 0) (fun k => if (k : Int) > col then more else 0) (widerF more cov) (plE_map (f := widerF more cov) (fun _ => rfl) p) (fun _ => rfl) ?_ (if_neg (by omega)) ?_ ?_ k (Nat.le_refl k)).2
  · rw [this]
    cases xF (gF gs) (plE p) k with
    | none => rfl
    | some x => show some (x + 0) = some x; rw [Int.add_zero]
  · intro k c hm
    have h0 := plE_ok hp k c hm
    have h1 : ((c.1.toNat : Nat) : Int) = c.1 := by omega
    have h2 := hcov c.1 c.2.1
    show (if cov c.1 c.2.1 = true then c.2.2 + more else c.2.2) = _
    simp only [h2, h1]
    split <;> split <;> split <;> omega
  · intro k _ he
    have : (k : Int) ≠ col := fun h => plE_nil.mp he (h ▸ hc)
    (try dsimp only)
    split <;> split <;> omega
  · intro k hk _
    have := furtherF_get col more gs 0 (k + 1) (by omega)
    have e1 : gF (furtherF col more 0 gs) (k + 1) = gF gs (k + 1) + (if ((0 + (k + 1) : Nat) : Int) = col + 1 then more else 0) := this
    rw [e1]
    split <;> split <;> split <;> omega
def timesF (many : Int) (c : Cel) : Cel := (c.1, c.2.1, many * c.2.2)
theorem law_times {gs : List Int} {p : List (List Cel)} {n : Nat} {many : Int} (hm : 0 ≤ many) (hp : ∀ r ∈ p, ∃ e, ChTo 0 r e) :
    tolds (gs.map (many * ·)) (p.map fun r => r.map (timesF many)) n = (tolds gs p n).map fun x => x.map (many * ·) := by
  have hq := ch_map_all (f := timesF many) (fun _ => rfl) (fun _ => rfl) hp
  rw [tolds, tolds, List.map_map]
  refine List.map_congr_left fun k _ => (times_law (n := k) hm (plE_ok hp) (plE_ok hq) (timesF many) (plE_map (f := timesF many) (fun _ => rfl) p) (fun _ => rfl) (fun _ => rfl) ?_ k (Nat.le_refl k)).2
  intro k _
  show (gs.map (many * ·)).getD (k + 1) 0 = many * gs.getD (k + 1) 0
  rw [List.getD_eq_getElem?_getD, List.getD_eq_getElem?_getD, List.getElem?_map]
  cases gs[k + 1]? with
  | none => simp
  | some x => rfl
theorem law_extra {gs : List Int} {p : List (List Cel)} {n : Nat} (x : Int) (hgl : gs.length = n + 1) (hp : ∀ r ∈ p, ∃ e : Int, e ≤ (n : Int) ∧ ChTo 0 r e) : tolds (gs ++ [x]) p (n + 1) = tolds gs p n ++ [none] := by
  have hp' : ∀ r ∈ p, ∃ e : Int, ChTo 0 r e := fun r hr => let ⟨e, _, h⟩ := hp r hr; ⟨e, h⟩
  have key := fun k (hk : k ≤ n) => ((same_law (E := plE p) (E' := plE p) (g := gF gs) (g' := gF (gs ++ [x])) (n := n) (fun k hk => ?_) fun k hk hb => ?_) k hk).2
  · rw [tolds, tolds, List.range_succ, List.map_append, List.map_singleton]
    have hn : xF (gF gs) (plE p) n = none := by
      refine xF_none.mpr (plE_nil.mpr fun h => ?_)
      refine el_EA ?_ (List.mem_map.mp h); rintro c hc he
      refine el_EA ?_ (List.mem_flatten.mp hc); rintro r hr hc
      refine el_EA ?_ (hp r hr); rintro e h1 h2
      have := chTo_bnd h2 c hc
      omega
    rw [key n (Nat.le_refl n), hn, List.map_congr_left fun k hk => key k (Nat.le_of_lt (List.mem_range.mp hk))]
  · show (gs ++ [x]).getD (k + 1) 0 = gs.getD (k + 1) 0
    rw [List.getD_eq_getElem?_getD, List.getD_eq_getElem?_getD, List.getElem?_append_left (by omega)]
  · rw [xF_eq (plE_ok hp'), xF_eq (plE_ok hp')]
    congr 1
    refine List.map_congr_left fun c hc => ?_
    rw [hb k (Nat.le_refl k), hb c.1.toNat (by have := plE_ok hp' k c hc; omega)]
theorem law_bnd {gs : List Int} {p : List (List Cel)} {n : Nat} {M : Int} (hM : 0 ≤ M) (hp : ∀ r ∈ p, ∃ e, ChTo 0 r e) (hs : ∀ r ∈ p, ∀ c ∈ r, -M ≤ c.2.2 ∧ c.2.2 ≤ M) (hg : ∀ g ∈ gs, -M ≤ g ∧ g ≤ M) (hn : n ≤ 4) {x : Int} (hx : some x ∈ tolds gs p n) : -(251 * M) ≤ x ∧ x ≤ 251 * M := by
  refine el_EA ?_ (List.mem_map.mp hx); rintro k hk he
  have hk := List.mem_range.mp hk
  have := (bnd_law hM (plE_ok hp) (fun k c hc => by
    obtain ⟨h1, _⟩ := List.mem_filter.mp hc
    refine el_EA ?_ (List.mem_flatten.mp h1); rintro r hr hc
    exact hs r hr c hc) (g := gF gs) (fun k => by
    show -M ≤ gs.getD k 0 ∧ gs.getD k 0 ≤ M
    rw [List.getD_eq_getElem?_getD]
    cases e : gs[k]? with
    | none => show -M ≤ 0 ∧ 0 ≤ M; omega
    | some y => exact hg y (List.mem_of_getElem? e)) k).2 x he
  have h5 : (5 : Int) ^ k ≤ 125 := by
    have : k = 0 ∨ k = 1 ∨ k = 2 ∨ k = 3 := by omega
    rcases this with rfl | rfl | rfl | rfl <;> decide
  have := Int.mul_le_mul_of_nonneg_right h5 hM
  generalize (5 : Int) ^ k * M = W at *
  omega

/-- the box that a round draws from -/
def BoxO (o : Obj) : Prop := ∃ (x y : Int) (tx ty : Tok) (k : Nat), o = listOf [Value.int x tx, .int y ty].toArray k ∧ 0 ≤ x ∧ 0 ≤ y ∧ y < 2147483648

theorem take0_ct {b : Addr} {o : Obj} {R : Led} {n : Int} {tn : Tok} (X : (hd.heap_1 w.params).In hB) (T : TopRead p loose mg mb hB) (ok : Ok 1 A)
    (F : Fr hB L s.heap m) (N : News hB L s.heap ((b, o) :: R)) (hR : ∀ p ∈ R, p.1 ≠ b) (ho : BoxO o) (hn : 1 ≤ n ∧ n ≤ 1000)
    (ret : ∀ d td o' h' tk', Fr hB L h' m → News hB L h' ((b, o') :: R) → BoxO o' → 0 ≤ d → d < n → Q (.int d td) { s with heap := h', toks := tk' }) :
    wpAny (model prog w) A (call (.ref 464) [.ref b, .int n tn]) Q E s := by
  obtain ⟨ah, ad, af, ag, au⟩ := A
  have hh := ok.handled
  dsimp only at hh
  subst hh
  refine el_EEEEEAAA ?_ (ho); rintro x y tx ty k rfl hx hy hy2
  refine wpAny_call ?_
  k_dflt (refine' enterC [(Str.ofString "box", .ref b), (Str.ofString "many", .int n tn)] ?F ?X ?N ?T ?ho ?hcd ?hr ?hb ?hl ?c1 ?c2 ?c3 ?c4 ?_)
  walk_at "q sides"
  intro L' h₁ oL tk F' N' nL lt hL off
  clear F N
  have hi : IntsAre [Value.int x tx, .int y ty] [x, y] := .cons _ _ (.cons _ _ .nil)
  have hLb : L ≠ b := Ne.symm (off _ (.head _))
  have hn0 : n ≠ 0 := by omega
  have off' : ∀ (o' : Obj), ∀ q ∈ [] ++ (b, o') :: R, q.1 ≠ L := fun o' q hq => by
    rcases List.mem_cons.mp hq with rfl | hq
    · exact hLb.symm
    · exact off q (.tail _ hq)
  k_steps
  · rename Fr _ _ _ _ => Fx
    rename News _ _ _ _ => Nx
    obtain ⟨F2, N2⟩ := leaveT (news := (b, _) :: R) [] hL nL (off' _) Fx Nx (.head _) (fun q hq => .tail _ hq)
    have e1 : x.fmod n = x % n := Int.fmod_eq_emod_of_nonneg x (by omega)
    have e2 : x.fdiv n = x / n := Int.fdiv_eq_ediv_of_nonneg x (by omega)
    refine ret (x.fmod n) _ _ _ _ F2 N2 (mk_EEEEEAAA (x.fdiv n) y _ _ _ rfl ?_ hy hy2) ?_ ?_
    · rw [e2]; exact Int.ediv_nonneg hx (by omega)
    · rw [e1]; exact Int.emod_nonneg x hn0
    · rw [e1]; exact Int.emod_lt_of_pos x (by omega)
  · rename Fr _ _ _ _ => Fx
    rename News _ _ _ _ => Nx
    obtain ⟨F2, N2⟩ := leaveT (news := (b, _) :: R) [] hL nL (off' _) Fx Nx (.head _) (fun q hq => .tail _ hq)
    have e1 : (y * 48271 + 11).fmod 2147483647 = (y * 48271 + 11) % 2147483647 := Int.fmod_eq_emod_of_nonneg _ (by omega)
    have e2 := Int.fmod_eq_emod_of_nonneg (((y * 48271 + 11).fmod 2147483647).fdiv 16) (b := n) (by omega)
    refine ret ((((y * 48271 + 11).fmod 2147483647).fdiv 16).fmod n) _ _ _ _ F2 N2 (mk_EEEEEAAA x ((y * 48271 + 11).fmod 2147483647) _ _ _ rfl hx ?_ ?_) ?_ ?_
    · rw [e1]; exact Int.emod_nonneg _ (by omega)
    · rw [e1]; have := Int.emod_lt_of_pos (y * 48271 + 11) (b := 2147483647) (by omega); omega
    · rw [e2]; exact Int.emod_nonneg _ hn0
    · rw [e2]; exact Int.emod_lt_of_pos _ (by omega)

theorem take_ct {b : Addr} {o : Obj} {g : Obj → Led} {n : Int} {tn : Tok} (X : (hd.heap_1 w.params).In hB) (T : TopRead p loose mg mb hB) (ok : Ok 1 A)
    (F : Fr hB L s.heap m) (N : News hB L s.heap news) (U : UpdF b o news g) (ho : BoxO o) (hn : 1 ≤ n ∧ n ≤ 1000)
    (ret : ∀ d td o' h' tk', Fr hB L h' m → News hB L h' (g o') → BoxO o' → 0 ≤ d → d < n → Q (.int d td) { s with heap := h', toks := tk' }) :
    wpAny (model prog w) A (call (.ref 464) [.ref b, .int n tn]) Q E s := by
  refine el_EEAAA ?_ (U.split); rintro pre post rfl hg h1 h2
  refine take0_ct (R := pre ++ post) X T ok F (newsSub N ?_) (fun p hp => (List.mem_append.mp hp).elim (h1 p) (h2 p)) ho hn fun d td o' h' tk' F' N' ho' d0 d1 => ret _ _ _ _ _ F' (hg o' ▸ newsSub N' ?_) ho' d0 d1
  · walk_at "q sub"
  · walk_at "q sub"

local macro_rules | `(tactic| walk_at "call ref") => `(tactic| (k_dflt (refine' take_ct ?X ?T ?ok ?F ?N ?U ?bo ?hn ?_; walk_at "q pre"; (case U => k_updF); (case bo => assumption); (case hn => omega); k_whole); intro d' td' o' h' tk' F' N' bo' d0' d1'; (try dsimp only at N'); (try k_sweep)))

theorem box_ct {c mo : Int} {tc tm : Tok} (X : (hd.heap_1 w.params).In hB) (T : TopRead p loose mg mb hB) (ok : Ok 1 A)
    (F : Fr hB L s.heap m) (N : News hB L s.heap news)
    (ret : ∀ b o h' tk', Fr hB L h' m → News hB L h' ((b, o) :: news) → (∀ q ∈ news, q.1 < b) → BoxO o → Q (.ref b) { s with heap := h', toks := tk' }) :
    wpAny (model prog w) A (call (.ref 457) [.int c tc, .int mo tm]) Q E s := by
  obtain ⟨ah, ad, af, ag, au⟩ := A
  have hh := ok.handled
  dsimp only at hh
  subst hh
  refine wpAny_call ?_
  k_dflt (refine' enterC [(Str.ofString "cell", .int c tc), (Str.ofString "more", .int mo tm)] ?F ?X ?N ?T ?ho ?hcd ?hr ?hb ?hl ?c1 ?c2 ?c3 ?c4 ?_)
  walk_at "q sides"
  intro L' h₁ oL tk F' N' nL lt hL off
  clear F N
  k_steps
  rename_i l9 h9 F9 N9 l9q
  refine el_AA ?_ (leaveA [_] hL nL off F9 N9 (Abv.cons (ltCons l9q.1 l9q.2) Abv.nil)); rintro F2 N2 ab2
  have e9 : (10 : Int) ^ Int.toNat 18 = 1000000000000000000 := by decide
  refine ret _ _ _ _ F2 N2 (fun q hq => ?_) (mk_EEEEEAAA _ _ _ _ _ rfl ?_ ?_ ?_)
  · exact ltAll l9q.2 q hq
  · split <;> omega
  · rw [Int.fmod_eq_emod_of_nonneg _ (by decide)]
    have := Int.emod_nonneg (2 * (if c < 0 then -c else c) + (if decide (c < 0) = true then 1 else 0) + (if mo < 0 then -mo else mo)) (b := 2147483629) (by decide)
    omega
  · rw [Int.fmod_eq_emod_of_nonneg _ (by decide)]
    have := Int.emod_lt_of_pos (2 * (if c < 0 then -c else c) + (if decide (c < 0) = true then 1 else 0) + (if mo < 0 then -mo else mo)) (b := 2147483629) (by decide)
    omega

section
local macro_rules | `(tactic| walk_at "compareOp Eq ref ref") => `(tactic| (k_here; (with_reducible show wpAny _ _ (compareOp CmpOp.Eq (Value.ref _) (Value.ref _)) _ _ _); refine of_hold ?_))

theorem plan0_ct {b : Addr} {o : Obj} {R : Led} {n : Nat} {tn : Tok} (X : (hd.heap_1 w.params).In hB) (T : TopRead p loose mg mb hB) (ok : Ok 3 A)
    (F : Fr hB L s.heap m) (N : News hB L s.heap ((b, o) :: R)) (hR : ∀ p ∈ R, p.1 ≠ b) (ho : BoxO o) (hn : 1 ≤ n ∧ n ≤ 3)
    (ret : ∀ D us k pl tl o' h' tk', Fr hB L h' m → News hB L h' ((b, o') :: (tl ++ R)) → Abv ((b, o) :: R) tl → BoxO o' → (D, listOf us.toArray k) ∈ tl → All2 (RowIn tl) us pl → 1 ≤ pl.length ∧ pl.length ≤ 4 → (∀ r ∈ pl, r ≠ [] ∧ RowOk n 100 r) → Q (.ref D) { s with heap := h', toks := tk' }) :
    wpAny (model prog w) A (call (.ref 471) [.ref b, .int n tn]) Q E s := by
  obtain ⟨ah, ad, af, ag, au⟩ := A
  have hh := ok.handled
  dsimp only at hh
  subst hh
  refine wpAny_call ?_
  k_dflt (refine' enterC [(Str.ofString "box", .ref b), (Str.ofString "columns", .int n tn)] ?F ?X ?N ?T ?ho ?hcd ?hr ?hb ?hl ?c1 ?c2 ?c3 ?c4 ?_)
  walk_at "q sides"
  intro L' h₁ oL tk F' N' nL lt hL off
  clear F N
  have hLb : L ≠ b := Ne.symm (off _ (.head _))
  k_steps
  rename_i pl _ _ _ plq _ d4 td4 o4 h4 tk4 F4 N4 bo4 d40 d41
  obtain ⟨d5, rfl⟩ := Int.eq_ofNat_of_zero_le d40
  rw [show 1 + (d5 : Int) = ((1 + d5 : Nat) : Int) from by omega]
  refine for_rangeT (mu := [(b, o4), (pl, listOf ([] : List Value).toArray 0)]) (Z := (L, oL) :: R)
    (fun xs m mu T => ∃ (acc : List Value) (k : Nat) (ps : List (List Cel)) (o5 : Obj), xs.length + acc.length = 1 + d5 ∧ mu = [(b, o5), (pl, listOf acc.toArray k)] ∧ BoxO o5 ∧ All2 (RowIn T) acc ps ∧ (∀ r ∈ ps, r ≠ [] ∧ RowOk n 100 r) ∧
      m (Str.ofString "plan") = some (.ref pl) ∧ m (Str.ofString "box") = some (.ref b) ∧ m (Str.ofString "columns") = some (.int n tn)) rfl (by omega) F4 (newsSub N4 (by walk_at "q sub")) ?hz (mk_EEEEAAAAAAA ([]) 0 ([]) o4 (by rw [rangeItms, List.length_map, List.length_range]; rfl) rfl bo4 trivial ((fun _ h => nomatch h)) rfl rfl rfl) ?turn ?done
  case hz => exact ne2 (neCons hLb hR) (neCons (Nat.ne_of_lt plq.1) (neAll plq.2.2))
  case done =>
    rintro m' mu' T' h5 tk5; refine el_EEEEAAAAAAA ?_; rintro acc k ps o5 e1 rfl bo5 hA hps f1 f2 f3 _ ab F5 N5
    replace F5 := pin3 F5 f1 f2 f3
    clear F4 N4
    replace N5 : News hB L' h5 ((b, o5) :: (pl, listOf acc.toArray k) :: (T' ++ ((L, oL) :: R))) := N5
    k_steps
    dsimp only
    refine leaveR (news := (b, o5) :: R) ((pl, listOf acc.toArray k) :: T') hL nL F5 N5 (by k_mem) (by walk_at "q sub") (fun q hq => ?_) (fun F2 N2 => ?_)
    · rcases List.mem_append.mp hq with hq | hq
      · rcases List.mem_cons.mp hq with rfl | hq
        · exact Nat.ne_of_gt plq.1
        · exact Nat.ne_of_gt (ab _ (List.mem_append_right _ (.head _)) q hq)
      · rcases List.mem_cons.mp hq with rfl | hq
        · exact hLb.symm
        · exact off q (.tail _ hq)
    · refine ret pl acc k ps ((pl, listOf acc.toArray k) :: T') o5 _ _ F2 (newsSub N2 (by walk_at "q sub")) (Abv.cons (fun q hq => ?_) (fun q hq p hp => ?_)) bo5 (.head _) (hA.mono fun _ _ h => h.mono fun p hp => .tail _ hp) ?_ hps
      · rcases List.mem_cons.mp hq with rfl | hq
        · exact plq.2.1
        · exact ltAll plq.2.2 q hq
      · rcases List.mem_cons.mp hq with rfl | hq
        · exact ab (b, o4) (.head _) p hp
        · exact ab q (List.mem_append_right _ (.tail _ hq)) p hp
      · have := hA.len
        rw [List.length_nil] at e1
        omega
  case turn =>
    rintro a r m' mu' T' R1 v h5 tk5; refine el_EEEEAAAAAAA ?_; rintro acc k ps o5 e1 rfl bo5 hA hps f1 f2 f3 _ _ ab hs ho1 F5 N5 PZ hPZ
    replace F5 := pin3 F5 f1 f2 f3
    clear F4 N4
    replace N5 : News hB L' h5 ((b, o5) :: (pl, listOf acc.toArray k) :: R1) := N5
    obtain ⟨r1, r2⟩ := notIn2 ho1
    have hbp : b ≠ pl := Nat.ne_of_lt plq.2.1
    k_steps
    rename_i l9 _ la D9 _ lb _ _ h9 F9 N9
    obtain ⟨oD, N9⟩ : ∃ oD, News hB L' h9 ((D9, oD) :: (l9, listOf ([] : List Value).toArray 0) :: (b, o5) :: (pl, listOf acc.toArray k) :: R1) := ⟨_, N9⟩
    refine for_rangeT (mu := [(b, o5), (l9, listOf ([] : List Value).toArray 0)]) (Z := (D9, oD) :: (pl, listOf acc.toArray k) :: R1)
      (fun xs m mu T => ∃ (cs : List Value) (kc : Nat) (row : List Cel) (oi : Obj) (col : Int) (t : Tok), mu = [(b, oi), (l9, listOf cs.toArray kc)] ∧ BoxO oi ∧ All2 (CelIn T) cs row ∧ ChTo 0 row col ∧ col ≤ n ∧ (∀ c ∈ row, -100 ≤ c.2.2 ∧ c.2.2 ≤ 100) ∧ (row = [] → xs.length = n) ∧
        m (Str.ofString "plan") = some (.ref pl) ∧ m (Str.ofString "box") = some (.ref b) ∧ m (Str.ofString "columns") = some (.int n tn) ∧ m (Str.ofString "row") = some (.ref l9) ∧ m (Str.ofString "column") = some (.int col t)) rfl (by omega) F9 (newsSub N9 (by walk_at "q sub")) ?hz2
      (mk_EEEEEEAAAAAAAAAAA ([]) 0 ([]) o5 0 _ rfl bo5 trivial rfl (by omega) ((fun _ h => nomatch h)) ((fun _ => by rw [rangeItms, List.length_map, List.length_range])) rfl rfl rfl rfl rfl) ?turn2 ?done2
    case hz2 => exact ne2 (neCons (Nat.ne_of_gt lb.2.1) (neCons (Nat.ne_of_gt plq.2.1) r1)) (neCons (Nat.ne_of_gt lb.1) (neCons (Nat.ne_of_lt la.2.1) (neAll la.2.2)))
    case done2 =>
      rintro m3 mu3 T3 h6 tk6; refine el_EEEEEEAAAAAAAAAAA ?_; rintro cs kc row oi col t rfl boi hC hch hcn hcb hrn g1 g2 g3 g4 g5 _ ab3 F6 N6
      replace F6 := pin5 F6 g1 g2 g3 g4 g5
      clear F9 N9
      have hrow : row ≠ [] := fun e => by
        have := hrn e
        rw [List.length_nil] at this; omega
      have haz : acc.toArray.size ≤ sizeLine := by
        have h2 : sizeLine = 16777216 := rfl
        rw [List.length_cons] at e1
        rw [List.size_toArray]; omega
      have hpl : ∀ p ∈ (b, oi) :: (l9, listOf cs.toArray kc) :: (T3 ++ (D9, oD) :: R1), p.1 ≠ pl :=
        neCons hbp (neCons (Nat.ne_of_gt la.2.1) (neApp (fun p hp => Nat.ne_of_gt (ab3 _ (List.mem_append_right _ (.tail _ (.head _))) p hp)) (neCons (Nat.ne_of_gt lb.2.2.1) r2)))
      replace N6 : News hB L' h6 ((pl, listOf acc.toArray k) :: (b, oi) :: (l9, listOf cs.toArray kc) :: (T3 ++ (D9, oD) :: R1)) := newsSub N6 (by walk_at "q sub")
      k_steps
      rename Fr _ _ _ _ => Fx
      rename News _ _ _ _ => Nx
      (try simp only [List.push_toArray] at Nx)
      have hL9 : ∀ q ∈ [(b, o5), (pl, listOf acc.toArray k)] ++ R1, q.1 < l9 := lt2 la
      have hD9 : ∀ q ∈ [(b, o5), (pl, listOf acc.toArray k)] ++ R1, q.1 < D9 := lt2 lb.2
      refine hPZ _ _ ?_; refine tendP ((l9, listOf cs.toArray kc) :: (T3 ++ [(D9, oD)])) Fx Nx (by walk_at "q sub") (Abv.cons hL9 (Abv.app (ab3.sub fun p hp => ?_) (Abv.cons hD9 Abv.nil))) (mk_EEEEAAAAAAA (acc ++ [.ref l9]) (k + 1) (ps ++ [row]) oi ?_ rfl boi ?_ ?_ rfl rfl rfl)
      · simp only [List.mem_append, List.mem_cons, List.not_mem_nil, or_false] at hp ⊢
        grind
      · rw [List.length_cons] at e1
        rw [List.length_append, List.length_singleton]; omega
      · refine (hA.mono fun _ _ h => h.mono fun p hp => List.mem_append_right _ hp).snoc (mk_EEEAA l9 cs kc rfl (.head _) (hC.mono fun _ _ q => q.mono fun p hp => ?_))
        exact List.mem_append_left _ (.tail _ (List.mem_append_left _ hp))
      · intro r hr
        rcases List.mem_append.mp hr with hr | hr
        · exact hps r hr
        · rw [List.mem_singleton.mp hr]
          exact (mk_AA hrow ((mk_EA col hcn hch)) hcb)
    case turn2 =>
      rintro a3 r3 m3 mu3 T3 R3 v3 h6 tk6; refine el_EEEEEEAAAAAAAAAAA ?_; rintro cs kc row oi col t rfl boi hC hch hcn hcb hrn g1 g2 g3 g4 g5 _ _ ab3 hs3 ho3 F6 N6 PZ hPZ
      replace F6 := pin5 F6 g1 g2 g3 g4 g5
      clear F9 N9
      replace N6 : News hB L' h6 ((b, oi) :: (l9, listOf cs.toArray kc) :: R3) := N6
      obtain ⟨q1, q2⟩ := notIn2 ho3
      have hcz : cs.toArray.size ≤ sizeLine := by
        have h2 : sizeLine = 16777216 := rfl
        have h3 := hC.len
        have h4 := hch.len
        rw [List.size_toArray]; omega
      have hc0 : 0 ≤ col := by have h4 := hch.len; omega
      cases row with
      | nil =>
        obtain rfl : col = 0 := (show (0 : Int) = col from hch).symm
        cases cs with
        | cons _ _ => exact hC.elim
        | nil =>
        k_steps
        refine eq_nil_q (r := true) ‹News _ _ _ _› (by k_mem) (by k_mem) DatAll.nil (fun _ h => h) (fun _ h => nomatch h) (by walk_at "q ok") rfl ?_
        k_steps
        all_goals (
          rename Fr _ _ _ _ => Fx
          rename News _ _ _ _ => Nx
          (try simp only [List.push_toArray] at Nx)
          refine hPZ _ _ ?_; refine tend22 Fx Nx (by assumption) (by assumption) (mk_EEEEEEAAAAAAAAAAA _ _ ([(0, _, _)]) _ _ _ rfl (by assumption) (⟨(mk_EEEEEA _ _ _ _ _ rfl (.head _)), trivial⟩) ((mk_AA rfl ?_ rfl)) ?_ ?_ ((fun h => nomatch h)) rfl rfl rfl rfl rfl)
          · dsimp only; omega
          · dsimp only; omega
          · intro c hc
            rw [List.mem_singleton.mp hc]
            dsimp only; omega)
      | cons c0 row =>
        cases cs with
        | nil => exact hC.elim
        | cons c1 cs =>
        k_steps
        · refine eq_nil_q (r := false) ‹News _ _ _ _› (by k_mem) (by k_mem) (hC.dat fun _ _ q => q.dat) (fun p hp => List.mem_cons_of_mem _ (List.mem_cons_of_mem _ (List.mem_cons_of_mem _ (hs3 p (List.mem_append_left _ hp))))) (celD_ok _) (by walk_at "q ok") rfl ?_
          k_steps
          all_goals (
            rename Fr _ _ _ _ => Fx
            rename News _ _ _ _ => Nx
            (try simp only [List.push_toArray] at Nx)
            first
            | (refine hPZ _ _ ?_; refine tend22 Fx Nx (by assumption) (by assumption) (mk_EEEEEEAAAAAAAAAAA _ _ ((c0 :: row) ++ [(col, _, _)]) _ _ _ rfl (by assumption) ((hC.mono (fun _ _ q => q.mono fun p hp => .tail _ (.tail _ hp))).snoc (mk_EEEEEA _ _ _ _ _ rfl (.head _))) (hch.snoc rfl ?_) ?_ ?_ ((fun h => nomatch h)) rfl rfl rfl rfl rfl)
               · dsimp only; omega
               · dsimp only; omega
               · intro c hc
                 rcases List.mem_append.mp hc with hc | hc
                 · exact hcb c hc
                 · rw [List.mem_singleton.mp hc]
                   dsimp only; omega)
            | refine hPZ _ _ ?_; refine tend21 Fx Nx (by assumption) (mk_EEEEEEAAAAAAAAAAA _ _ (c0 :: row) _ col t rfl (by assumption) (hC.mono (fun _ _ q => q.mono fun p hp => .tail _ hp)) hch hcn hcb ((fun h => nomatch h)) rfl rfl rfl rfl rfl))
        · refine hPZ _ _ ?_; exact tend20 ‹Fr _ _ _ _› ‹News _ _ _ _› (mk_EEEEEEAAAAAAAAAAA _ _ (c0 :: row) _ col t rfl (by assumption) hC hch hcn hcb ((fun h => nomatch h)) rfl rfl rfl rfl rfl)

end
theorem cell_ct {up : Bool} {v : Value} {c : Cel} {cw : Int} {tc : Tok} (X : (hd.heap_1 w.params).In hB) (T : TopRead p loose mg mb hB) (ok : Ok 6 A)
    (F : Fr hB L s.heap m) (N : News hB L s.heap news) (hc : CelIn news v c) (hz : -1000000 ≤ c.2.2 ∧ c.2.2 ≤ 1000000) (hs : c.1 ≤ c.2.1 ∧ c.2.1 - c.1 ≤ 1000) (hcw : 0 ≤ cw ∧ cw ≤ 1000)
    (ret : ∀ r tl h' tk', Fr hB L h' m → News hB L h' (tl ++ news) → Abv news tl → CellIn tl r (cellOf up cw c) → Q r { s with heap := h', toks := tk' }) :
    wpAny (model prog w) A (call (.ref 478) [.bool up, v, .int cw tc]) Q E s := by
  obtain ⟨ah, ad, af, ag, au⟩ := A
  have hh := ok.handled
  dsimp only at hh
  subst hh
  obtain ⟨fi, la, sz⟩ := c
  refine el_EEEEEA ?_ (hc); rintro x t1 t2 t3 n rfl m1
  dsimp only at m1 hz hs
  have hcd : 0 ≤ cw.fdiv 2 ∧ cw.fdiv 2 ≤ 1000 := by
    rw [Int.fdiv_eq_ediv_of_nonneg _ (by decide)]; omega
  refine wpAny_call ?_
  k_dflt (refine' enterC [(Str.ofString "upright", .bool up), (Str.ofString "row", .ref x), (Str.ofString "crosswise", .int cw tc)] ?F ?X ?N ?T ?ho ?hcd ?hr ?hb ?hl ?c1 ?c2 ?c3 ?c4 ?_)
  walk_at "q sides"
  intro L' h₁ oL tk F' N' nL lt hL off
  clear F N
  replace m1 := List.mem_cons_of_mem (L, oL) m1
  cases up
  all_goals (
    k_steps
    rename News _ _ _ _ => Nx
    simp only [List.append_assoc] at Nx
    walk_at "q split"
    refine el_AA ?_ (leaveB [_] _ hL nL off ‹Fr _ _ _ _› Nx (Abv.app (Abv.cons (by walk_at "q lt") Abv.nil) (Abv.app (Abv.sub (by assumption) (by walk_at "q up")) (Abv.app (Abv.sub (by assumption) (by walk_at "q sub")) (Abv.sub (by assumption) (by walk_at "q sub")))))); rintro F2 N2 ab2
    refine ret _ _ _ _ F2 N2 ab2 (mk_EEEEAAA _ _ _ _ (UnsetIn.mono (by assumption) ?_) (.head _) (KernIn.mono (by assumption) ?_) (TotIn.mono (by assumption) ?_))
    · exact fun p hp => List.mem_append_right _ (List.mem_append_right _ (List.mem_append_right _ hp))
    · exact fun p hp => List.mem_append_right _ (List.mem_append_left _ hp)
    · exact fun p hp => List.mem_append_right _ (List.mem_append_right _ (List.mem_append_left _ hp)))
section
local macro_rules | `(tactic| walk_at "call builtin:list.append") => `(tactic| (k_here; refine of_hold ?_))
theorem rows_ct {up : Bool} {l : Addr} {vs : List Value} {pl : List (List Cel)} {cw : Int} {tc : Tok} {nn : Nat} (X : (hd.heap_1 w.params).In hB) (T : TopRead p loose mg mb hB) (ok : Ok 8 A)
    (F : Fr hB L s.heap m) (N : News hB L s.heap news) (hl : (l, listOf vs.toArray nn) ∈ news) (hp : All2 (RowIn news) vs pl) (hpl : pl.length ≤ 100) (hok : ∀ r ∈ pl, RowOk 100 1000000 r) (hcw : 0 ≤ cw ∧ cw ≤ 100)
    (ret : ∀ D us k tl h' tk', Fr hB L h' m → News hB L h' (tl ++ news) → Abv news tl → (D, listOf us.toArray k) ∈ tl → All2 (RwIn tl) us (rwsFrom up cw 0 pl) → Q (.ref D) { s with heap := h', toks := tk' }) :
    wpAny (model prog w) A (call (.ref 483) [.ref l, .bool up, .int cw tc]) Q E s := by
  obtain ⟨ah, ad, af, ag, au⟩ := A
  have hh := ok.handled
  dsimp only at hh
  subst hh
  refine wpAny_call ?_
  k_dflt (refine' enterCells [(Str.ofString "plan", .ref l), (Str.ofString "upright", .bool up), (Str.ofString "crosswise", .int cw tc)] ?F ?X ?N ?T ?ho ?hcd ?hr ?hb ?hk ?hn ?c1 ?c2 ?c3 ?_)
  walk_at "q sidesC"
  intro L' h₁ oL tk cells F' N' nL Y lt hL off
  clear F N
  refine el_EEEAAA ?_ (CellsAre.three Y); rintro oa ob oc rfl da db dc
  rw [List.cons_append, List.cons_append, List.cons_append, List.nil_append] at N'
  have da' : oa.data = .cell none := da
  have db' : ob.data = .cell (some (.int cw tc)) := db
  have dc' : oc.data = .cell (some (.bool up)) := dc
  clear Y da db dc
  k_steps
  rename_i l9 _ _ _ lq h9 F9 N9
  refine for_enumT (mu := [(L' + 1 + 1 + 1, oa), (l9, listOf ([] : List Value).toArray 0)]) (Z := (L' + 1 + 1, ob) :: (L' + 1, oc) :: (L, oL) :: news)
    (fun xs m mu T => ∃ (us acc : List Value) (k i : Nat) (rs : List Rw) (pl1 : List (List Cel)) (od : Obj) (v0 : Option Value), xs = enumItems i us ∧ All2 (RowIn news) us pl1 ∧ mu = [(L' + 1 + 1 + 1, od), (l9, listOf acc.toArray k)] ∧ od.data = .cell v0 ∧ All2 (RwIn T) acc rs ∧ rwsFrom up cw 0 pl = rs ++ rwsFrom up cw i pl1 ∧ (∀ r ∈ pl1, RowOk 100 1000000 r) ∧ i + pl1.length = pl.length ∧ acc.length = 2 * i ∧
      m (Str.ofString "found") = some (.ref l9)) rfl F9 (newsSub N9 (by walk_at "q sub")) (.tail _ (.tail _ (.tail _ hl))) ?hz (mk_EEEEEEEEAAAAAAAAA vs ([]) 0 0 ([]) pl oa _ rfl hp rfl da' trivial rfl hok (Nat.zero_add _) rfl rfl) ?turn ?done
  case hz =>
    refine ne2 (neCons (Nat.ne_of_lt (Nat.lt_succ_self _)) (neCons (Nat.ne_of_lt (Nat.lt_succ_of_lt (Nat.lt_succ_self _))) fun p hp => ?_)) (neCons (Nat.ne_of_lt lq.2.1) (neCons (Nat.ne_of_lt lq.2.2.1) (neCons (Nat.ne_of_lt lq.2.2.2.1) (neAll lq.2.2.2.2))))
    exact Nat.ne_of_lt (Nat.lt_succ_of_lt (Nat.lt_succ_of_lt (Nat.lt_succ_of_lt (lt p hp))))
  case done =>
    rintro m' mu' T' h5 tk5; refine el_EEEEEEEEAAAAAAAAA ?_; rintro us acc k i rs pl1 od v0 e hA rfl dd hR hrw hok1 hi hal f1 _ ab F5 N5
    replace F5 := pin F5 f1
    clear F9 N9
    replace N5 : News hB L' h5 ((L' + 1 + 1 + 1, od) :: (l9, listOf acc.toArray k) :: (T' ++ ((L' + 1 + 1, ob) :: (L' + 1, oc) :: (L, oL) :: news))) := N5
    cases us with
    | cons u us => cases e
    | nil =>
    cases pl1 with
    | cons y ys => exact hA.elim
    | nil =>
    rw [show rwsFrom up cw i [] = [] from rfl, List.append_nil] at hrw
    k_steps
    dsimp only
    refine el_AA ?_ (leaveA ((L' + 1 + 1 + 1, od) :: (l9, listOf acc.toArray k) :: (T' ++ [(L' + 1 + 1, ob), (L' + 1, oc)])) hL nL off F5 (newsSub N5 (by walk_at "q sub")) (abv_of lt fun p hp => by
      rcases List.mem_cons.mp hp with rfl | hp
      · exact Nat.lt_succ_of_lt (Nat.lt_succ_of_lt (Nat.lt_succ_self _))
      · rcases List.mem_cons.mp hp with rfl | hp
        · exact Nat.lt_of_succ_lt lq.2.2.1
        · rcases List.mem_append.mp hp with hp | hp
          · exact Nat.lt_of_succ_lt (Nat.lt_of_succ_lt (Nat.lt_of_succ_lt (ab _ (List.mem_append_left _ (.head _)) p hp)))
          · rcases List.mem_cons.mp hp with rfl | hp
            · exact Nat.lt_succ_of_lt (Nat.lt_succ_self _)
            · rw [List.mem_singleton.mp hp]
              exact Nat.lt_succ_self _)); rintro F2 N2 ab9
    exact ret l9 acc k _ _ _ F2 N2 ab9 (.tail _ (.head _)) (hrw ▸ hR.mono fun _ _ q => q.mono fun p hp => .tail _ (.tail _ (List.mem_append_left _ hp)))
  case turn =>
    rintro a r m' mu' T' R1 v h5 tk5; refine el_EEEEEEEEAAAAAAAAA ?_; rintro us acc k i rs pl1 od v0 e hA rfl dd hR hrw hok1 hi hal f1 hv _ ab hs ho1 F5 N5 PZ hPZ
    replace F5 := pin F5 f1
    clear F9 N9
    replace N5 : News hB L' h5 ((L' + 1 + 1 + 1, od) :: (l9, listOf acc.toArray k) :: R1) := N5
    obtain ⟨r1, r2⟩ := notIn2 ho1
    cases us with
    | nil => cases e
    | cons u us =>
      cases pl1 with
      | nil => exact hA.elim
      | cons y pl1 =>
        injection e with e1 e2
        subst e1 e2
        rw [List.length_cons] at hi
        refine el_EEA ?_ (hv); rintro TT t rfl hT
        obtain ⟨⟨jj, hjj, hch⟩, hsz⟩ := hok1 y (.head _)
        have hylen := hch.len
        have hybnd := chTo_bnd hch
        refine el_EEEAA ?_ (hA.1); rintro lr vr kr rfl mr hr
        have up1 : ∀ p ∈ (L' + 1 + 1, ob) :: (L' + 1, oc) :: (L, oL) :: news, p ∈ R1 := fun p hp => hs p (List.mem_append_right _ hp)
        have upn : ∀ p ∈ news, p ∈ R1 := fun p hp => up1 p (.tail _ (.tail _ (.tail _ hp)))
        k_steps
        rename_i _ od6 _ _ dd6 h6 F6 N6
        dsimp only at dd6
        refine comp_mapT (Z := (L' + 1 + 1 + 1, od6) :: (l9, listOf acc.toArray k) :: R1) (CelIn news) CellIn (cellOf up (cw + i)) (fun _ _ _ _ h q => q.mono h) rfl (by have := hr.len; omega) F6 N6 (.tail _ (.tail _ (upn _ mr))) hr ?cturn ?cdone
        case cturn =>
          rintro cc v C D5 acc2 m5 R5 h5 tk5 hmem hu hs5 ho5 F5 N5 PZ hPZ
          have hz1 := hsz cc hmem
          have hz2 : cc.1 ≤ cc.2.1 ∧ cc.2.1 - cc.1 ≤ 1000 := by have := hybnd cc hmem; omega
          have hcc : CelIn R5 v cc := hu.mono fun p hp => hs5 p (.tail _ (.tail _ (upn p hp)))
          have mk5 : (L' + 1 + 1 + 1, od6) ∈ R5 := hs5 _ (.head _)
          have mc5 : (L' + 1 + 1, ob) ∈ R5 := hs5 _ (.tail _ (.tail _ (up1 _ (.head _))))
          have mu5 : (L' + 1, oc) ∈ R5 := hs5 _ (.tail _ (.tail _ (up1 _ (.tail _ (.head _)))))
          clear F6 N6
          k_steps
          k_dflt (refine' cell_ct ?X ?T ?ok ?F ?N ?hc ?hz ?hs ?hcw ?_; walk_at "q pre"; (case hc => (refine CelIn.mono (by assumption) ?_; walk_at "q up")); (case hz => assumption); (case hs => assumption); (case hcw => omega); k_whole); walk_at "q ret8"
          k_steps
          rename_i h8 r8 tl8 h9 tk9 F9 ab9 in9 N9
          exact hPZ tl8 _ _ _ _ F9 (newsSwap N9) ab9 in9
        case cdone =>
              intro acc2 D5 T5 h5 tk5 hA5 ab5 hlD5 hTD F5 N5
              clear F6 N6
              have hal1 : acc.toArray.size ≤ sizeLine ∧ (acc.toArray.push (.ref D5)).size ≤ sizeLine := by
                have h2 : sizeLine = 16777216 := rfl
                rw [Array.size_push, List.size_toArray]; omega
              have hal2 := hal1.1
              have hl9 : ∀ p ∈ (D5, listOf acc2.toArray acc2.length) :: (T5 ++ ((L' + 1 + 1 + 1, od6) :: R1)), p.1 ≠ l9 :=
                neCons (Nat.ne_of_gt (hlD5 _ (.tail _ (.head _)))) (neApp (fun p hp => Nat.ne_of_gt (ab5 _ (.tail _ (.head _)) p hp)) (neCons (Nat.ne_of_lt lq.1) r2))
              have hDa : ∀ q ∈ [(L' + 1 + 1 + 1, od), (l9, listOf acc.toArray k)] ++ R1, q.1 < D5 := fun q hq => by
                rcases List.mem_cons.mp hq with rfl | hq
                · exact hlD5 (L' + 1 + 1 + 1, od6) (.head _)
                · rcases List.mem_cons.mp hq with rfl | hq
                  · exact hlD5 _ (.tail _ (.head _))
                  · exact hlD5 _ (.tail _ (.tail _ hq))
              have hT5 : Abv ([(L' + 1 + 1 + 1, od), (l9, listOf acc.toArray k)] ++ R1) T5 := fun q hq p hp => by
                rcases List.mem_cons.mp hq with rfl | hq
                · exact ab5 (L' + 1 + 1 + 1, od6) (.head _) p hp
                · rcases List.mem_cons.mp hq with rfl | hq
                  · exact ab5 _ (.tail _ (.head _)) p hp
                  · exact ab5 _ (.tail _ (.tail _ hq)) p hp
              replace N5 : News hB L' h5 ((l9, listOf acc.toArray k) :: (D5, listOf acc2.toArray acc2.length) :: (T5 ++ ((L' + 1 + 1 + 1, od6) :: R1))) := newsSub N5 (by walk_at "q sub")
              have hrR : ∀ Z, (∀ p ∈ (D5, listOf acc2.toArray acc2.length) :: T5, p ∈ Z) → RwIn Z (.ref D5) (.row (y.map (cellOf up (cw + i)))) := fun Z hZ => (mk_EEEAA D5 acc2 _ rfl (hZ _ (.head _)) (hA5.mono fun _ _ q => q.mono fun p hp => hZ p (.tail _ hp)))
              have hmod : (i : Int).fmod 2 = (i : Int) % 2 := Int.fmod_eq_emod_of_nonneg _ (by decide)
              k_steps
              refine append_K F5 N5 (Upd.head hl9) (fun h6 F6 N6 => ?_) hal1.1
              clear F5 N5
              k_steps
              all_goals (
                rename_i x8 tl8 h8 tk8 F8 ab8 in8 N8
                have hl8 : ∀ p ∈ tl8, p.1 ≠ l9 := fun p hp => Nat.ne_of_gt (ab8 _ (.head _) p hp)
                refine append_K F8 N8 (Upd.head (neCons (hl9 _ (.head _)) (neApp (fun p hp => hl9 p (.tail _ hp)) hl8))) (fun h7 F7 N7 => ?_) hal1.2
                clear F8 N8
                k_steps
                simp only [List.push_toArray] at N7
                have hT8 : Abv ([(L' + 1 + 1 + 1, od), (l9, listOf acc.toArray k)] ++ R1) tl8 := fun q hq p hp => by
                  rcases List.mem_cons.mp hq with rfl | hq
                  · exact ab8 (L' + 1 + 1 + 1, od6) (.tail _ (.tail _ (List.mem_append_right _ (.head _)))) p hp
                  · rcases List.mem_cons.mp hq with rfl | hq
                    · exact ab8 (l9, _) (.head _) p hp
                    · exact ab8 q (.tail _ (.tail _ (List.mem_append_right _ (.tail _ hq)))) p hp
                refine hPZ _ _ ?_; refine tendG (tl8 ++ ((D5, listOf acc2.toArray acc2.length) :: T5)) [(L' + 1 + 1 + 1, od6), (l9, listOf (acc ++ [Value.ref D5] ++ [Value.ref x8]).toArray (k + 1 + 1))] F7 N7 (by walk_at "q sub") rfl (Abv.app hT8 (Abv.cons hDa hT5))
                  (mk_EEEEEEEEAAAAAAAAA us _ _ (i + 1) (rs ++ [.row (y.map (cellOf up (cw + i)))] ++ [if (i : Int) % 2 = 0 then .rule else .pen i]) pl1 od6 _ rfl hA.2 rfl dd6 (((hR.mono fun _ _ q => q.mono fun p hp => List.mem_append_right _ hp).snoc (hrR _ fun p hp => List.mem_append_left _ (List.mem_append_right _ hp))).snoc ?_) ?_ (fun r hr => hok1 r (.tail _ hr)) (by omega) ?_ rfl)
                · rw [← hmod]
                  first
                  | (rw [if_pos (by assumption)]; exact RuleIn.mono in8 fun p hp => List.mem_append_left _ (List.mem_append_left _ hp))
                  | (rw [if_neg (by assumption)]; exact PenIn.mono in8 fun p hp => List.mem_append_left _ (List.mem_append_left _ hp))
                · rw [hrw, List.append_assoc, List.append_assoc]; rfl
                · rw [List.length_append, List.length_append, List.length_singleton, List.length_singleton]; omega)

end
def nodesOf : List Rw → List Node
  | [] => []
  | .row cs :: r => cs.map Node.cell ++ nodesOf r
  | .rule :: r => Node.rule :: nodesOf r
  | .pen k :: r => Node.pen k :: nodesOf r
theorem nodesOf_app : ∀ a b : List Rw, nodesOf (a ++ b) = nodesOf a ++ nodesOf b
  | [], _ => rfl
  | .row cs :: r, b => by show _ ++ nodesOf (r ++ b) = (_ ++ nodesOf r) ++ nodesOf b; rw [nodesOf_app r b, List.append_assoc]
  | .rule :: r, b => by show _ :: nodesOf (r ++ b) = _; rw [nodesOf_app r b]; rfl
  | .pen _ :: r, b => by show _ :: nodesOf (r ++ b) = _; rw [nodesOf_app r b]; rfl
theorem nodesOf_len : ∀ {rs : List Rw}, (∀ cs, Rw.row cs ∈ rs → cs.length ≤ 4) → (nodesOf rs).length ≤ 4 * rs.length
  | [], _ => Nat.le_refl 0
  | .row cs :: r, h => by
    have h1 := nodesOf_len (rs := r) fun cs hc => h cs (.tail _ hc)
    have h2 := h cs (.head _)
    show (_ ++ nodesOf r).length ≤ _
    rw [List.length_append, List.length_map, List.length_cons]; omega
  | .rule :: r, h => by have := nodesOf_len (rs := r) fun cs hc => h cs (.tail _ hc); show (nodesOf r).length + 1 ≤ _; rw [List.length_cons]; omega
  | .pen _ :: r, h => by have := nodesOf_len (rs := r) fun cs hc => h cs (.tail _ hc); show (nodesOf r).length + 1 ≤ _; rw [List.length_cons]; omega
theorem rwsFrom_len (up : Bool) (cw : Int) : ∀ (p : List (List Cel)) (i : Int), (rwsFrom up cw i p).length = 2 * p.length
  | [], _ => rfl
  | r :: p, i => by show (rwsFrom up cw (i + 1) p).length + 1 + 1 = _; rw [rwsFrom_len up cw p, List.length_cons]; omega
theorem rwsFrom_row {up : Bool} {cw : Int} {cs : List Cell} : ∀ {p : List (List Cel)} {i : Int}, Rw.row cs ∈ rwsFrom up cw i p → ∃ r ∈ p, ∃ j, cs = r.map (cellOf up j)
  | [], _, h => nomatch h
  | r :: p, i, h => by
    rcases List.mem_cons.mp h with h | h
    · injection h with h
      exact (mk_EAE r (.head _) _ h)
    · rcases List.mem_cons.mp h with h | h
      · split at h <;> cases h
      · refine el_EA ?_ (rwsFrom_row h); rintro r' h1 h2
        exact (mk_EA r' (.tail _ h1) h2)
theorem cells_sum {up : Bool} {cw : Int} : ∀ {r : List Cel} {k e : Int}, ChTo k r e → (∀ c ∈ r.map (cellOf up cw), 1 ≤ c.sp) ∧ k + spanSum (r.map (cellOf up cw)) = e
  | [], k, e, h => ⟨fun _ h => (nomatch h), by have : k = e := h; show k + 0 = e; omega⟩
  | c :: r, k, e, h => by
    refine el_AA ?_ (h); rintro h1 h2 h3
    have e1 : (cellOf up cw c).sp = c.2.1 - c.1 + 1 := by cases up <;> rfl
    obtain ⟨h4, h5⟩ := cells_sum (up := up) (cw := cw) h3
    refine ⟨fun d hd => ?_, ?_⟩
    · rcases List.mem_cons.mp hd with rfl | hd
      · omega
      · exact h4 d hd
    · show k + ((cellOf up cw c).sp + spanSum (r.map (cellOf up cw))) = e
      omega
theorem eq_tup_q {a b : Addr} {xs ys : List Value} {ka kb : Nat} {ds : List Dat} {n₁ n₂ : Led} (N : News hB L s.heap news) (ma : (a, ({ cls := .type "tuple", data := .seq xs.toArray ka } : Obj)) ∈ news) (Da : DatAll n₁ xs ds) (sa : ∀ p ∈ n₁, p ∈ news)
    (mb : (b, ({ cls := .type "tuple", data := .seq ys.toArray kb } : Obj)) ∈ news) (Db : DatAll n₂ ys ds) (sb : ∀ p ∈ n₂, p ∈ news)
    (ha : ∀ d ∈ ds, kqdOk 8 d = true) (hu : Ok 0 A) (h : Q (.bool true) s) : wpAny (model prog w) A (compareOp .Eq (.ref a) (.ref b)) Q E s := by
  obtain ⟨as, ra⟩ := kqd_all N 8 (Da.mono sa) ha
  obtain ⟨bs, rb⟩ := kqd_all N 8 (Db.mono sb) ha
  have la := kqd_lay 9 (.tuple ds) (by simpa [kqdOk] using ha)
  rw [kqdP] at la
  have e : PyData.eqv (.tuple (kqdPs ds)) (.tuple (kqdPs ds)) = true := by
    have q := kqd_eqv 9 (.tuple ds) (.tuple ds) 9 (by simpa [kqdOk] using ha) (by simpa [kqdOk] using ha)
    rw [kqdP] at q
    exact q.mpr rfl
  refine eq_dataH (reads_tuple_at (N.get ma) rfl rfl (by simpa using ra)) (reads_tuple_at (N.get mb) rfl rfl (by simpa using rb)) ?_ ?_ hu.cmp (by rw [e]; exact h)
  · unfold SeqAt.shaped; rw [la.1, Bool.true_and]; exact decide_eq_true (Nat.le_trans la.2 (by decide))
  · unfold SeqAt.shaped; rw [la.1, Bool.true_and]; exact decide_eq_true (Nat.le_trans la.2 (by decide))
theorem dat_tuple {Z : Led} {v : Value} {ds : List Dat} (h : DatIn Z v (.tuple ds)) : ∃ a vs n, v = .ref a ∧ (a, ({ cls := .type "tuple", data := .seq vs.toArray n } : Obj)) ∈ Z ∧ DatAll Z vs ds := by
  cases h with
  | tuple h1 h2 => exact (mk_EEEAA _ _ _ rfl h1 h2)
theorem dat_list {Z : Led} {v : Value} {ds : List Dat} (h : DatIn Z v (.list ds)) : ∃ a vs n, v = .ref a ∧ (a, listOf vs.toArray n) ∈ Z ∧ DatAll Z vs ds := by
  cases h with
  | list h1 h2 => exact (mk_EEEAA _ _ _ rfl h1 h2)
theorem eq_ints_q {a b : Addr} {xs ys : List Value} {ns : List Int} {na nb : Nat} (N : News hB L s.heap news) (ma : (a, listOf xs.toArray na) ∈ news) (mb : (b, listOf ys.toArray nb) ∈ news) (hi : IntsAre xs ns) (hj : IntsAre ys ns)
    (hu : Ok 0 A) (h : Q (.bool true) s) : wpAny (model prog w) A (compareOp .Eq (.ref a) (.ref b)) Q E s :=
  ke_eq_ints (xs := xs) (ys := ys) (mk_EAAE _ ((N _ ma).1) rfl na rfl) (mk_EAAE _ ((N _ mb).1) rfl nb rfl) hi hj hu.cmp (by rw [decide_eq_true rfl]; exact h)
theorem list_q {l : Addr} {us : List Value} {n : Nat} (F : Fr hB L s.heap m) (N : News hB L s.heap news) (hm : (l, listOf us.toArray n) ∈ news) (hz : us.length ≤ 1000000)
    (h : ∀ D c h', Fr hB L h' m → News hB L h' ((D, listOf us.toArray c) :: news) → (∀ q ∈ news, q.1 < D) → Q (.ref D) { s with heap := h' }) : wpAny (model prog w) A (call (.type "list") [.ref l]) Q E s :=
  kup_listOf F N hm List.toList_toArray h (by
    have h2 : sizeLine = 16777216 := rfl
    rw [List.toList_toArray]; omega)
theorem nodeD_ok : ∀ r : List Node, ∀ d ∈ r.map nodeD, kqdOk 8 d = true := fun r d hd => by
  refine el_EA ?_ (List.mem_map.mp hd); rintro x _ rfl
  cases x <;> rfl
section
local macro_rules | `(tactic| walk_at "exec Assign cons ListComp") => `(tactic| (k_here; (with_reducible show wpAny _ _ (exec (Stmt.Assign [_] (Expr.ListComp _ [_, _] _ _) _) _) _ _ _); refine of_hold ?_))
local macro_rules | `(tactic| walk_at "compareOp Eq ref ref") => `(tactic| (k_here; (with_reducible show wpAny _ _ (compareOp CmpOp.Eq (Value.ref _) (Value.ref _)) _ _ _); refine of_hold ?_))

theorem told_ct {up : Bool} {l lg : Addr} {vs gv : List Value} {pl : List (List Cel)} {gs : List Int} {n : Nat} {fl cw : Int} {tf tc : Tok} {nn ng : Nat} (X : (hd.heap_1 w.params).In hB) (T : TopRead p loose mg mb hB) (ok : Ok 13 A)
    (F : Fr hB L s.heap m) (N : News hB L s.heap news) (hl : (l, listOf vs.toArray nn) ∈ news) (hp : All2 (RowIn news) vs pl) (hlg : (lg, listOf gv.toArray ng) ∈ news) (hgi : IntsAre gv gs) (hgl : gs.length = n + 1) (hn : 1 ≤ n ∧ n ≤ 4)
    (hpl : pl.length ≤ 100) (hok : ∀ r ∈ pl, RowOk n 100000 r) (hgb : ∀ g ∈ gs, -100000 ≤ g ∧ g ≤ 100000) (hfl : 0 ≤ fl ∧ fl ≤ 1000) (hcw : 0 ≤ cw ∧ cw ≤ 100)
    (ret : ∀ r tl h' tk', Fr hB L h' m → News hB L h' (tl ++ news) → Abv news tl → DatIn tl r (.list ((tolds gs pl n).map oD)) → Q r { s with heap := h', toks := tk' }) :
    wpAny (model prog w) A (call (.ref 488) [.ref l, .bool up, .ref lg, .int fl tf, .int cw tc]) Q E s := by
  obtain ⟨ah, ad, af, ag, au⟩ := A
  have hh := ok.handled
  dsimp only at hh
  subst hh
  have hok2 : ∀ r ∈ pl, RowOk 100 1000000 r := fun r hr => by
    obtain ⟨⟨j, h1, h2⟩, h3⟩ := hok r hr
    exact ⟨(mk_EA j (by omega) h2), fun c hc => by have := h3 c hc; omega⟩
  have hfd : 0 ≤ fl.fdiv 2 ∧ fl.fdiv 2 ≤ 1000 := by
    rw [Int.fdiv_eq_ediv_of_nonneg _ (by decide)]; omega
  refine wpAny_call ?_
  k_dflt (refine' enterCells [(Str.ofString "plan", .ref l), (Str.ofString "upright", .bool up), (Str.ofString "gaps", .ref lg), (Str.ofString "flexed", .int fl tf), (Str.ofString "crosswise", .int cw tc)] ?F ?X ?N ?T ?ho ?hcd ?hr ?hb ?hk ?hn ?c1 ?c2 ?c3 ?_)
  walk_at "q sidesC"
  intro L' h₁ oL tk cells F' N' nL Y lt hL off
  clear F N
  refine el_EA ?_ (CellsAre.one Y); rintro oc rfl dc
  rw [List.cons_append, List.nil_append] at N'
  have dc' : oc.data = .cell (some (.int fl tf)) := dc
  clear dc Y
  k_steps
  k_dflt (refine' rows_ct ?X ?T ?ok ?F ?N ?hl ?hp ?hpl ?hok ?hcw ?_; walk_at "q pre"; (case hl => k_mem); (case hp => (refine All2.mono (fun _ _ h9 => RowIn.mono h9 ?_) (by assumption); walk_at "q up")); (case hpl => assumption); (case hok => assumption); (case hcw => assumption); k_whole)
  intro D1 us1 k1 tl1 h1 tk1 F1 N1 ab1 hm1 in1
  replace N1 := newsSwap N1
  (try dsimp only [List.cons_append] at N1)
  k_steps
  have hgv := IntsAre.length hgi
  refine comp_mapT IntV GlueIn id (fun _ _ _ _ h q => q.mono h) rfl (by omega) F1 N1 (.tail _ (.tail _ (List.mem_append_left _ hlg))) (ints_all2 hgi) ?gturn ?gdone
  case gturn =>
    rintro g v C D5 acc m5 R5 h5 tk5 hgm hu hs5 ho5 F5 N5 PZ hPZ
    obtain ⟨t, rfl⟩ := hu
    have hgg := hgb g hgm
    have hcc : (L' + 1, oc) ∈ R5 := hs5 _ (.head _)
    clear F1 N1
    k_steps
    rename_i h8 x8 tl8 h9 tk9 F9 ab9 in9 N9
    exact hPZ tl8 _ _ _ _ F9 (newsSwap N9) ab9 in9
  case gdone =>
    intro acc D5 T5 h5 tk5 hG ab5 hlD5 hTD F5 N5
    rw [List.map_id] at hG
    clear F1 N1
    refine el_EA ?_ (show ∃ Z, (∀ p ∈ T5 ++ ((L' + 1, oc) :: (L, oL) :: (news ++ tl1)), p ∈ Z) ∧ News hB L' h5 ((D5, listOf acc.toArray acc.length) :: Z) from (mk_EA _ (fun _ h => h) N5)); rintro Z hZ N6
    have zL := hZ _ (List.mem_append_right _ (.tail _ (.head _)))
    have zn : ∀ p ∈ news, p ∈ Z := fun p hp => hZ p (List.mem_append_right _ (.tail _ (.tail _ (List.mem_append_left _ hp))))
    have z1 : ∀ p ∈ tl1, p ∈ Z := fun p hp => hZ p (List.mem_append_right _ (.tail _ (.tail _ (List.mem_append_right _ hp))))
    replace hG : All2 (GlueIn Z) acc gs := hG.mono fun _ _ q => q.mono fun p hp => hZ p (List.mem_append_left _ hp)
    replace in1 : All2 (RwIn Z) us1 (rwsFrom up cw 0 pl) := in1.mono fun _ _ q => q.mono z1
    replace hm1 := z1 _ hm1
    have zlg := zn _ hlg
    have zl := zn _ hl
    have hvl : vs.length = pl.length := hp.len
    have hul : us1.length = 2 * pl.length := by rw [in1.len, rwsFrom_len]
    clear hZ N5 ab1 ab5 hlD5 hTD
    have hrl : (rwsFrom up cw 0 pl).length = 2 * pl.length := rwsFrom_len up cw pl 0
    have hrc : ∀ cs, Rw.row cs ∈ rwsFrom up cw 0 pl → cs.length ≤ 4 ∧ (∀ c ∈ cs, 1 ≤ c.sp) ∧ spanSum cs ≤ n := fun cs hcs => by
      refine el_EAE ?_ (rwsFrom_row hcs); rintro r hr j rfl
      obtain ⟨⟨e, he, hch⟩, _⟩ := hok r hr
      have h1 := cells_sum (up := up) (cw := j) hch
      have h2 := hch.len
      refine (mk_AA (by rw [List.length_map]; omega) h1.1 (by omega))
    generalize hrws : rwsFrom up cw 0 pl = rws at in1 hrl hrc
    have hnl := nodesOf_len fun cs hcs => (hrc cs hcs).1
    k_steps
    k_dflt (refine' comp_assign2 ?nf ?nw ?na ?nb ?nc ?nd ?ny ?np ?ne ?ng ?_; (case nw => with_unfolding_all rfl); (case na => with_unfolding_all rfl); (case nb => decide); (case nc => rfl); (case nd => decide); (case ny => rfl); (case np => rfl); (case ne => (intro _; rfl)); (case ng => (intro _ _; rfl)); (case nf => k_asm))
    k_steps
    refine comp2_listT (fun xs acc T => ∃ (us : List Value) (r0 r1 : List Rw), xs = us.map Itm.val ∧ All2 (RwIn Z) us r1 ∧ rws = r0 ++ r1 ∧ All2 (NodeIn Z) acc (nodesOf r0)) rfl ‹Fr _ _ _ _› ‹News _ _ _ _› (.tail _ (.tail _ hm1)) (mk_EEEAAA us1 ([]) rws rfl in1 rfl trivial) ?t2 ?d2
    case t2 =>
      rintro a r acc2 C D m2 T2 R2 v h6 tk6; refine el_EEEAAA ?_; rintro us r0 r1 e hA hr hN hv ab2 hs2 hRD F7 N7
      clear N6
      have upZ : ∀ p ∈ Z, p ∈ R2 := fun p hp => hs2 p (List.mem_append_right _ (.tail _ (.tail _ hp)))
      have hacl : acc2.length ≤ 800 := by
        have h1 := hN.len
        have h2 := nodesOf_len (rs := r0) fun cs hcs => (hrc cs (hr ▸ List.mem_append_left _ hcs)).1
        have h3 := congrArg List.length hr
        rw [List.length_append] at h3
        omega
      cases us with
      | nil => cases e
      | cons u us =>
        cases r1 with
        | nil => exact hA.elim
        | cons y r1 =>
          rw [List.map_cons] at e
          injection e with e1 e2
          subst e1 e2
          obtain rfl : v = u := hv
          have hy := hA.1
          cases y with
          | row cs =>
            refine el_EEEAA ?_ (hy); rintro lr vr kr rfl mr hcs
            replace mr := upZ _ mr
            have hcl := (hrc cs (hr ▸ List.mem_append_right _ (.head _))).1
            k_steps
            refine in_listT [] (fun xs2 acc3 _ => ∃ (us2 : List Value) (c0 c1 : List Cell), xs2 = us2.map Itm.val ∧ All2 (CellIn Z) us2 c1 ∧ cs = c0 ++ c1 ∧ All2 (NodeIn Z) acc3 (nodesOf r0 ++ c0.map Node.cell)) rfl rfl (by have := hcs.len; omega) ‹Fr _ _ _ _› ‹News _ _ _ _› Abv.nil hRD mr (mk_EEEAAA vr ([]) cs rfl hcs rfl (by rw [List.map_nil, List.append_nil]; exact hN)) ?_ ?_
            · rintro a r3 acc3 m3 T3 R3 v h7 tk7; refine el_EEEAAA ?_; rintro us2 c0 c1 e hC hcc hN3 hv hs3 hR3 F8 N8 PZ hPZ
              cases us2 with
              | nil => cases e
              | cons u us2 =>
                cases c1 with
                | nil => exact hC.elim
                | cons c c1 =>
                  rw [List.map_cons] at e
                  injection e with e1 e2
                  subst e1 e2
                  obtain rfl : v = u := hv
                  clear F7 N7
                  k_steps
                  refine hPZ _ _ ?_; refine cend0 ‹Fr _ _ _ _› ‹News _ _ _ _› (mk_AEEEAAA rfl us2 (c0 ++ [c]) c1 rfl hC.2 (by rw [hcc, List.append_assoc]; rfl) ?_)
                  rw [List.map_append, ← List.append_assoc]
                  exact hN3.snoc hC.1
            · rintro acc3 T3; refine el_EEEAAA ?_; rintro us2 c0 c1 e hC hcc hN3
              cases us2 with
              | cons u us2 => cases e
              | nil =>
                cases c1 with
                | cons _ _ => exact hC.elim
                | nil =>
                  rw [List.append_nil] at hcc
                  subst hcc
                  refine (mk_EEEAAA us (r0 ++ [.row cs]) r1 rfl hA.2 (by rw [hr, List.append_assoc]; rfl) ?_)
                  rw [nodesOf_app, show nodesOf [Rw.row cs] = cs.map Node.cell from List.append_nil _]
                  exact hN3
          | rule =>
            refine el_EEEEEEEEEEAA ?_ (id hy); rintro x dx h1 h2 h3 t1 t2 t3 th n9 rfl m1 m2
            replace m1 := upZ _ m1
            replace m2 := upZ _ m2
            k_steps
            rename_i e9 h9 F9 N9 e9q
            refine in_listT [(e9, listOf [Value.ref x].toArray 0)] (fun xs2 acc3 _ => (xs2 = [Itm.val (.ref x)] ∧ acc3 = acc2) ∨ (xs2 = [] ∧ acc3 = acc2 ++ [Value.ref x])) rfl rfl (by show acc2.length + 1 ≤ 1000000; omega) F9 (newsSub N9 (by walk_at "q sub")) (Abv.cons (ltCons e9q.1 e9q.2) Abv.nil) hRD (.head _) (.inl ⟨rfl, rfl⟩) ?_ ?_
            · rintro a r3 acc3 m3 T3 R3 v h7 tk7 hq hv hs3 hR3 F8 N8 PZ hPZ
              rcases hq with ⟨e, rfl⟩ | ⟨e, _⟩
              · injection e with e1 e2
                subst e1 e2
                obtain rfl : v = Value.ref x := hv
                clear F7 N7 F9 N9
                k_steps
                refine hPZ _ _ ?_; exact cend0 ‹Fr _ _ _ _› ‹News _ _ _ _› ⟨rfl, .inr ⟨rfl, rfl⟩⟩
              · cases e
            · rintro acc3 T3 hq
              rcases hq with ⟨e, _⟩ | ⟨_, rfl⟩
              · cases e
              · refine (mk_EEEAAA us (r0 ++ [.rule]) r1 rfl hA.2 (by rw [hr, List.append_assoc]; rfl) ?_)
                rw [nodesOf_app]
                exact hN.snoc hy
          | pen k =>
            refine el_EEEEEEAA ?_ (id hy); rintro x dx h1 t1 tv n9 rfl m1 m2
            replace m1 := upZ _ m1
            replace m2 := upZ _ m2
            k_steps
            rename_i e9 h9 F9 N9 e9q
            refine in_listT [(e9, listOf [Value.ref x].toArray 0)] (fun xs2 acc3 _ => (xs2 = [Itm.val (.ref x)] ∧ acc3 = acc2) ∨ (xs2 = [] ∧ acc3 = acc2 ++ [Value.ref x])) rfl rfl (by show acc2.length + 1 ≤ 1000000; omega) F9 (newsSub N9 (by walk_at "q sub")) (Abv.cons (ltCons e9q.1 e9q.2) Abv.nil) hRD (.head _) (.inl ⟨rfl, rfl⟩) ?_ ?_
            · rintro a r3 acc3 m3 T3 R3 v h7 tk7 hq hv hs3 hR3 F8 N8 PZ hPZ
              rcases hq with ⟨e, rfl⟩ | ⟨e, _⟩
              · injection e with e1 e2
                subst e1 e2
                obtain rfl : v = Value.ref x := hv
                clear F7 N7 F9 N9
                k_steps
                refine hPZ _ _ ?_; exact cend0 ‹Fr _ _ _ _› ‹News _ _ _ _› ⟨rfl, .inr ⟨rfl, rfl⟩⟩
              · cases e
            · rintro acc3 T3 hq
              rcases hq with ⟨e, _⟩ | ⟨_, rfl⟩
              · cases e
              · refine (mk_EEEAAA us (r0 ++ [.pen k]) r1 rfl hA.2 (by rw [hr, List.append_assoc]; rfl) ?_)
                rw [nodesOf_app]
                exact hN.snoc hy
    case d2 =>
      rintro acc2 D T2 h6 tk6; refine el_EEEAAA ?_; rintro us r0 r1 e hA hr hN ab2 hlD hTD F7 N7
      cases us with
      | cons u us => cases e
      | nil =>
      cases r1 with
      | cons y r1 => exact hA.elim
      | nil =>
      rw [List.append_nil] at hr
      subst hr
      refine el_EA ?_ (show ∃ Z2, (∀ p ∈ Z, p ∈ Z2) ∧ (D5, listOf acc.toArray acc.length) ∈ Z2 ∧ News hB L' h6 ((D, listOf acc2.toArray acc2.length) :: Z2) from (mk_EAA _ (fun _ h => List.mem_append_right _ (.tail _ (.tail _ h))) (List.mem_append_right _ (.tail _ (.head _))) N7)); rintro Z2 hZ2 N8
      obtain ⟨z5, N8⟩ := N8
      clear N7 N6 ab2 hlD hTD
      replace hN : All2 (NodeIn Z2) acc2 (nodesOf rws) := hN.mono fun _ _ q => q.mono hZ2
      replace hG : All2 (GlueIn Z2) acc gs := hG.mono fun _ _ q => q.mono hZ2
      replace in1 : All2 (RwIn Z2) us1 rws := in1.mono fun _ _ q => q.mono hZ2
      replace hm1 := hZ2 _ hm1
      replace zlg := hZ2 _ zlg
      replace zl := hZ2 _ zl
      replace zL := hZ2 _ zL
      have zn2 : ∀ p ∈ news, p ∈ Z2 := fun p hp => hZ2 p (zn p hp)
      k_steps
      k_dflt (refine' desc_nodes_ct ?X ?T ?ok ?F ?N ?hl ?hx ?hlen ?_; walk_at "q pre"; (case hl => k_mem); (case hx => (refine All2.mono (fun _ _ h9 => NodeIn.mono h9 ?_) (by assumption); walk_at "q up")); (case hlen => first | assumption | omega); k_whole); walk_at "q ret8"
      k_steps
      rename_i r8 tl8 h8 tk8 ab8 in8 N8b h9 F9 N9
      rw [show (gv.length : Int) - 1 = (n : Int) from by omega]
      refine widths_ct (n := n) (gs := gs) (rs := rws) X T (by walk_at "q ok") ‹Fr _ _ _ _› ‹News _ _ _ _› (.tail _ (List.mem_append_left _ hm1)) (in1.mono fun _ _ q => q.mono fun p hp => .tail _ (List.mem_append_left _ hp)) (.tail _ (List.mem_append_left _ z5)) (hG.mono fun _ _ q => q.mono fun p hp => .tail _ (List.mem_append_left _ hp)) (by omega) (by omega) (by omega) (fun cs hcs => (hrc cs hcs).2) ?hbd fun rw tlw h10 tk10 F10 N10 abw inw => ?_
      case hbd =>
        intro x hx
        rw [← hrws, widthsP_cells up cw fun r hr => let ⟨⟨e, _, h⟩, _⟩ := hok r hr; ⟨e, h⟩] at hx
        have := law_bnd (M := 100000) (by decide) (fun r hr => let ⟨⟨e, _, h⟩, _⟩ := hok r hr; ⟨e, h⟩) (fun r hr => (hok r hr).2) hgb hn.2 hx
        omega
      rw [← hrws, widthsP_cells up cw fun r hr => let ⟨⟨e, _, h⟩, _⟩ := hok r hr; ⟨e, h⟩] at inw
      refine el_EAAA ?_ (show ∃ Z3, (∀ p ∈ Z2, p ∈ Z3) ∧ (∀ p ∈ tl8, p ∈ Z3) ∧ (∀ p ∈ tlw, p ∈ Z3) ∧ News hB L' h10 ((D, listOf acc2.toArray acc2.length) :: Z3) from (mk_EAAA (tlw ++ (Z2 ++ tl8)) (fun _ h => List.mem_append_right _ (List.mem_append_left _ h)) (fun _ h => List.mem_append_right _ (List.mem_append_right _ h)) (fun _ h => List.mem_append_left _ h) (newsSub N10 (by walk_at "q sub")))); rintro Z3 y1 y2 y3 N11
      have abw2 : Abv news tlw := abw.sub fun p hp => .tail _ (List.mem_append_left _ (zn2 p hp))
      have offw : ∀ p ∈ tlw, p.1 ≠ L := fun p hp => Nat.ne_of_gt (abw (L, oL) (.tail _ (List.mem_append_left _ zL)) p hp)
      clear N10 N9 N8b F9 abw ab8
      replace hN : All2 (NodeIn Z3) acc2 (nodesOf rws) := hN.mono fun _ _ q => q.mono y1
      replace hG : All2 (GlueIn Z3) acc gs := hG.mono fun _ _ q => q.mono y1
      replace hm1 := y1 _ hm1
      replace z5 := y1 _ z5
      replace zlg := y1 _ zlg
      replace zl := y1 _ zl
      replace zL := y1 _ zL
      replace in8 := in8.mono y2
      refine el_EEEAA ?_ (dat_tuple in8); rintro a8 vs8 n8 rfl m8 da8
      k_steps
      refine comp_mapT (GlueIn Z3) (fun _ v n => IntV v n) id (fun _ _ _ _ _ q => q) rfl (by have := hG.len; omega) ‹Fr _ _ _ _› ‹News _ _ _ _› (.tail _ z5) hG ?wturn ?wdone
      case wturn =>
        rintro g v C D6 acc4 m6 R6 h11 tk11 _ hu hs6 ho6 F12 N12 PZ hPZ
        refine el_EEEEEEEEEEEEEEEEEEAA ?_ hu; rintro x dx h1 h2 h3 h4 h5 t1 t2 t3 t4 t5 tv v2 v3 v4 v5 n9 rfl m1 m2
        replace m1 := hs6 _ (.tail _ m1)
        replace m2 := hs6 _ (.tail _ m2)
        clear N11
        k_steps
        exact hPZ [] _ _ _ _ ‹Fr _ _ _ _› ‹News _ _ _ _› Abv.nil ⟨_, rfl⟩
      case wdone =>
        intro acc4 D6 T6 h11 tk11 hI ab6 hlD6 hTD6 F12 N12
        replace hI : IntsAre acc4 gs := all2_ints (fun _ _ h => h) (by rw [List.map_id] at hI; exact hI)
        replace N12 : News hB L' h11 ((D6, listOf acc4.toArray acc4.length) :: (T6 ++ ((D, listOf acc2.toArray acc2.length) :: Z3))) := N12
        clear N11
        k_steps
        refine list_q ‹Fr _ _ _ _› N12 (.tail _ (List.mem_append_right _ (.tail _ zlg))) (by omega) fun D9 c9 h12 F13 N13 l13 => ?_
        clear N12
        k_steps
        refine eq_ints_q N13 (.tail _ (.head _)) (.head _) hI hgi (by walk_at "q ok") ?_
        k_steps
        k_dflt (refine' desc_nodes_ct ?X ?T ?ok ?F ?N ?hl ?hx ?hlen ?_; walk_at "q pre"; (case hl => k_mem); (case hx => (refine All2.mono (fun _ _ h9 => NodeIn.mono h9 ?_) (by assumption); walk_at "q up")); (case hlen => first | assumption | omega); k_whole); walk_at "q ret8"
        k_steps
        rename_i r13 tl13 h13 tk13 F14 ab13 in13 N14
        refine el_EEEAA ?_ (dat_tuple in13); rintro a13 vs13 n13 rfl m13 da13
        refine el_EAA ?_ (show ∃ Z4, (∀ p ∈ Z3, p ∈ Z4) ∧ (∀ p ∈ tl13, p ∈ Z4) ∧ News hB L' h13 Z4 from (mk_EAA _ (fun p hp => List.mem_cons_of_mem _ (List.mem_cons_of_mem _ (List.mem_append_left _ (List.mem_append_right _ (List.mem_cons_of_mem _ hp))))) (fun p hp => List.mem_cons_of_mem _ (List.mem_cons_of_mem _ (List.mem_append_right _ hp))) N14)); rintro Z4 x3 x13 N15
        clear N14 ab13
        refine eq_tup_q N15 (x13 _ m13) da13 x13 (x3 _ m8) da8 x3 (nodeD_ok _) (by walk_at "q ok") ?_
        replace hm1 := x3 _ hm1
        replace zl := x3 _ zl
        replace zL := x3 _ zL
        k_steps
        all_goals try (exfalso; omega)
        refine leaveR (news := news) tlw hL nL ‹Fr _ _ _ _› ‹News _ _ _ _› zL (fun q hq => ?_) (fun q hq => ?_) (fun F2 N2 => ret _ _ _ _ F2 N2 abw2 inw)
        · rcases List.mem_append.mp hq with hq | hq
          · exact x3 q (y3 q hq)
          · exact x3 q (y1 q (zn2 q hq))
        · rcases List.mem_append.mp hq with hq | hq
          · exact offw q hq
          · exact off q hq

end
section
local macro_rules | `(tactic| walk_at "zz") => `(tactic| skip)
local macro_rules | `(tactic| walk_at "call ref") => `(tactic| (k_here; refine of_hold ?_))
local macro_rules | `(tactic| walk_at "callWith ref") => `(tactic| (k_here; k_dflt (refine' callWith_F ?k1 ?_; (case k1 => exact FnAt.of (by k_asm) (by k_mem)); k_whole)))
theorem wider_ct {l : Addr} {vs : List Value} {pl : List (List Cel)} {mo : Int} {tm : Tok} {nn : Nat} {lc : Addr} {foc : Value} {fod : Option Addr} {fd : FuncData} {fsl : Array (Option Value)} {cov : Int → Int → Bool} {Z0 : Led} (X : (hd.heap_1 w.params).In hB) (T : TopRead p loose mg mb hB) (ok : Ok 3 A)
    (F : Fr hB L s.heap m) (N : News hB L s.heap news) (hl : (l, listOf vs.toArray nn) ∈ news) (hp : All2 (RowIn news) vs pl) (hpl : pl.length ≤ 100) (hok : ∀ r ∈ pl, r.length ≤ 100) (hZ0 : ∀ p ∈ Z0, p ∈ news) (hlam : (lc, (⟨foc, fod, .func fd, fsl⟩ : Obj)) ∈ news)
    (hcov : ∀ (A : Around) (s : Shared) (L : Addr) (m : Str → Option Value) (news : Led) (Q : Value → Shared → Prop) (E : Value → Shared → Prop) (f g : Int) (tf tg : Tok), Ok 1 A → Fr hB L s.heap m → News hB L s.heap news → (∀ p ∈ Z0, p ∈ news) →
      (∀ h' tk', Fr hB L h' m → News hB L h' news → Q (.bool (cov f g)) { s with heap := h', toks := tk' }) → wpAny (model prog w) A (call (.ref lc) [.int f tf, .int g tg]) Q E s)
    (ret : ∀ D us k tl h' tk', Fr hB L h' m → News hB L h' (tl ++ news) → Abv news tl → (D, listOf us.toArray k) ∈ tl → All2 (RowIn tl) us (pl.map fun r => r.map (widerF mo cov)) → Q (.ref D) { s with heap := h', toks := tk' }) :
    wpAny (model prog w) A (call (.ref 493) [.ref l, .int mo tm, .ref lc]) Q E s := by
  obtain ⟨ah, ad, af, ag, au⟩ := A
  have hh := ok.handled
  dsimp only at hh
  subst hh
  refine wpAny_call ?_
  k_dflt (refine' enterCells [(Str.ofString "plan", .ref l), (Str.ofString "more", .int mo tm), (Str.ofString "covers", .ref lc)] ?F ?X ?N ?T ?ho ?hcd ?hr ?hb ?hk ?hn ?c1 ?c2 ?c3 ?_)
  walk_at "q sidesC"
  intro L' h₁ oL tk cells F' N' nL Y lt hL off
  clear F N
  refine el_EEAA ?_ (CellsAre.two Y); rintro oa ob rfl da db
  rw [List.cons_append, List.cons_append, List.nil_append] at N'
  have da' : oa.data = .cell (some (.ref lc)) := da
  have db' : ob.data = .cell (some (.int mo tm)) := db
  clear Y da db
  k_steps
  refine comp_mapT (RowIn news) RowIn (fun r => r.map (widerF mo cov)) (fun _ _ _ _ h q => q.mono h) rfl (by have := hp.len; omega) F' N' (.tail _ (.tail _ (.tail _ hl))) hp ?turn ?done
  case turn =>
    rintro y v C D acc m1 R h2 tk2 hym hu hs ho F2 N2 PZ hPZ
    refine el_EEEAA ?_ hu; rintro lr vr kr rfl mr hr
    have hyl := hok y hym
    have upn : ∀ p ∈ news, p ∈ R := fun p hp => hs p (.tail _ (.tail _ (.tail _ hp)))
    have ma : (L' + 1 + 1, oa) ∈ R := hs _ (.head _)
    have mb : (L' + 1, ob) ∈ R := hs _ (.tail _ (.head _))
    clear F' N'
    k_steps
    refine comp_mapT (Z := (D, listOf acc.toArray acc.length) :: R) (CelIn news) CelIn (widerF mo cov) (fun _ _ _ _ h q => q.mono h) rfl (by have := hr.len; omega) ‹Fr _ _ _ _› ‹News _ _ _ _› (.tail _ (upn _ mr)) hr ?turn2 ?done2
    case turn2 =>
      rintro cc v C2 D2 acc2 m2 R2 h3 tk3 _ hu2 hs2 ho2 F3 N3 PZ hPZ
      obtain ⟨f, g, sz⟩ := cc
      refine el_EEEEEA ?_ hu2; rintro x t1 t2 t3 n rfl mx
      have up2 : ∀ p ∈ R, p ∈ R2 := fun p hp => hs2 p (.tail _ hp)
      replace mx := up2 _ (upn _ mx)
      have ma2 := up2 _ ma
      have mb2 := up2 _ mb
      have ml2 := up2 _ (upn _ hlam)
      dsimp only at mx
      clear F2 N2
      have z2 : ∀ p ∈ Z0, p ∈ (D2, listOf acc2.toArray acc2.length) :: R2 := fun p hp => .tail _ (up2 _ (upn _ (hZ0 p hp)))
      k_steps
      refine hcov _ _ _ _ _ _ _ _ _ _ _ (by walk_at "q ok") ‹Fr _ _ _ _› ‹News _ _ _ _› z2 fun h4 tk4 F4 N4 => ?_
      have hw : widerF mo cov (f, g, sz) = (f, g, if cov f g = true then sz + mo else sz) := rfl
      cases hcf : cov f g
      all_goals (
        rw [hcf] at hw
        k_steps
        rename_i d9 h9 F9 N9 d9q
        refine hPZ [_] _ _ _ _ F9 N9 (Abv.cons (ltCons d9q.1 d9q.2) Abv.nil) ?_
        rw [hw]
        exact (mk_EEEEEA _ _ _ _ _ rfl (.head _)))
    case done2 =>
      intro acc2 D2 T2 h3 tk3 hT2 ab2 hlD2 hTD2 F3 N3
      k_steps
      exact hPZ ((D2, listOf acc2.toArray acc2.length) :: T2) _ _ _ _ F3 N3 (Abv.cons hlD2 ab2) (mk_EEEAA D2 acc2 _ rfl (.head _) (hT2.mono fun _ _ q => q.mono fun p hp => .tail _ hp))
  case done =>
        intro acc D T1 h2 tk2 hT ab hlD hTD F2 N2
        clear F' N'
        k_steps
        dsimp only
        refine el_AA ?_ (leaveA ((D, listOf acc.toArray acc.length) :: (T1 ++ [(L' + 1 + 1, oa), (L' + 1, ob)])) hL nL off F2 (newsSub N2 (by walk_at "q sub")) (abv_of lt fun p hp => by
          rcases List.mem_cons.mp hp with rfl | hp
          · exact hlD (L, oL) (.tail _ (.tail _ (.head _))) |> fun h => Nat.lt_of_le_of_lt (Nat.le_succ_of_le (Nat.le_succ_of_le (Nat.le_refl _))) (hlD (L' + 1 + 1, oa) (.head _))
          · rcases List.mem_append.mp hp with hp | hp
            · exact Nat.lt_of_succ_lt (Nat.lt_of_succ_lt (ab (L' + 1 + 1, oa) (.head _) p hp))
            · rcases List.mem_cons.mp hp with rfl | hp
              · exact Nat.lt_succ_of_lt (Nat.lt_succ_self _)
              · rw [List.mem_singleton.mp hp]; exact Nat.lt_succ_self _)); rintro F3 N3 ab9
        exact ret D acc _ _ _ _ F3 N3 ab9 (.head _) (hT.mono fun _ _ q => q.mono fun p hp => .tail _ (List.mem_append_left _ hp))

end
section
variable {env : Env} {test : PySem.Expr} {body : List Stmt} {QF : Flow → Shared → Prop}
theorem while_T {pos : Pos} {m : Str → Option Value} {mu Z : Led} (J : Nat → (Str → Option Value) → Led → Led → Prop) (n0 : Nat) (hE : PassesOwn (model prog w) A env (fun _ _ => False))
    (F : Fr hB env.locals s.heap m) (N : News hB env.locals s.heap (mu ++ Z)) (h0 : J n0 m mu [])
    (turn : ∀ n m mu' T h tk, J n m mu' T → adrs mu' = adrs mu → Abv (mu ++ Z) T → Fr hB env.locals h m → News hB env.locals h (mu' ++ (T ++ Z)) →
      wpAny (model prog w) A (isTrue test env (eval test env)) (fun c s₂ => if c = true then wpAny (model prog w) A (execs body env) (TEnd hB env.locals mu' (T ++ Z) T (fun m' mu'' T' => ∃ n', n' < n ∧ J n' m' mu'' T') QF { s with heap := h, toks := tk }) (fun _ _ => False) s₂ else wpAny (model prog w) A (execs [] env) QF (fun _ _ => False) s₂) (fun _ _ => False) { s with heap := h, toks := tk }) :
    wpAny (model prog w) A (exec (.While test body [] pos) env) QF (fun _ _ => False) s := by
  refine whl_start (n0 + 1) ?_
  have key : ∀ k n m mu' T h tk, n < k → J n m mu' T → adrs mu' = adrs mu → Abv (mu ++ Z) T → Fr hB env.locals h m → News hB env.locals h (mu' ++ (T ++ Z)) → WhlRest prog w A (fun _ _ => False) env test body [] QF k { s with heap := h, toks := tk } := by
    intro k
    induction k with
    | zero => intro n _ _ _ _ _ h; exact absurd h (Nat.not_lt_zero _)
    | succ k ih =>
      intro n m mu' T h tk hn hJ ha ab F' N'
      refine whl_turn hE (wpAny_mono (turn n m mu' T h tk hJ ha ab F' N') (fun c s₂ q => ?_) fun _ _ x => x)
      cases c with
      | false => exact WhlIf.no rfl (by simpa using q)
      | true =>
        refine WhlIf.yes rfl (wpAny_mono (show wpAny _ _ _ _ _ _ by simpa using q) (fun f s₃ t => ?_) fun _ _ x => x)
        have fin : (∃ tl mu'' m' h' tk', s₃ = { ({ s with heap := h, toks := tk } : Shared) with heap := h', toks := tk' } ∧ Fr hB env.locals h' m' ∧ News hB env.locals h' (mu'' ++ (tl ++ (T ++ Z))) ∧ adrs mu'' = adrs mu' ∧ Abv (mu' ++ (T ++ Z)) tl ∧ ∃ n', n' < n ∧ J n' m' mu'' (tl ++ T)) → WhlRest prog w A (fun _ _ => False) env test body [] QF k s₃ := by
          refine el_EEEEEAAAAAEA ?_; rintro tl mu'' m' h' tk' rfl F2 N2 ea ab2 n' hn' hJ2
          refine ih n' m' mu'' (tl ++ T) h' tk' (by omega) hJ2 (ea.trans ha) (Abv.app ((abv_adrs ha.symm ab2).sub fun p hp => ?_) ab) F2 (by rw [List.append_assoc]; exact N2)
          rcases List.mem_append.mp hp with hp | hp
          · exact List.mem_append_left _ hp
          · exact List.mem_append_right _ (List.mem_append_right _ hp)
        cases f with
        | ret v => exact t
        | brk => exact t
        | next => exact fin t
        | cont => exact fin t
  exact key (n0 + 1) n0 m mu [] s.heap s.toks (Nat.lt_succ_self _) h0 rfl Abv.nil F N
end
theorem cut_of : ∀ {l : List Value} {k : Nat}, k < l.length → ∃ p y q, kl_cut l k = some (p, y, q)
  | [], _, h => absurd h (Nat.not_lt_zero _)
  | x :: r, 0, _ => ⟨[], x, r, rfl⟩
  | x :: r, k + 1, h => by
    refine el_EEE ?_ (cut_of (l := r) (k := k) (Nat.lt_of_succ_lt_succ h)); rintro p y q e
    refine (mk_EEE (x :: p) y q ?_)
    unfold kl_cut
    rw [e]
theorem All2.cut {α : Type} {P : Value → α → Prop} : ∀ {p q : List Value} {y : Value} {xs : List α}, All2 P (p ++ y :: q) xs → ∃ a x b, xs = a ++ x :: b ∧ All2 P p a ∧ P y x ∧ All2 P q b
  | [], q, y, x :: xs, h => ⟨[], x, xs, rfl, trivial, h.1, h.2⟩
  | [], _, _, [], h => h.elim
  | v :: p, q, y, x :: xs, h => by
    refine el_EEEAAA ?_ (All2.cut h.2); rintro a x' b e h1 h2 h3
    exact ⟨x :: a, x', b, by rw [e]; rfl, ⟨h.1, h1⟩, h2, h3⟩
  | _ :: _, _, _, [], h => h.elim
theorem All2.rep {α : Type} {P : Value → α → Prop} {v : Value} {x : α} (h : P v x) : ∀ k, All2 P (List.replicate k v) (List.replicate k x)
  | 0 => trivial
  | k + 1 => ⟨h, All2.rep h k⟩
theorem rep_flat (v : Value) : ∀ k, (List.replicate k [v]).flatten = List.replicate k v
  | 0 => rfl
  | k + 1 => by rw [List.replicate_succ, List.flatten_cons, rep_flat v k]; rfl
section
local macro_rules | `(tactic| walk_at "exec While Compare") => `(tactic| (k_here; refine of_hold ?_))
local macro_rules | `(tactic| walk_at "exec While") => `(tactic| (k_here; refine of_hold ?_))
local macro_rules | `(tactic| walk_at "call type:list") => `(tactic| (k_here; refine of_hold ?_))
local macro_rules | `(tactic| walk_at "call builtin:list.pop") => `(tactic| (k_here; refine of_hold ?_))
local macro_rules | `(tactic| walk_at "call builtin:list.extend") => `(tactic| (k_here; refine of_hold ?_))
local macro_rules | `(tactic| walk_at "binaryOp Mult ref int") => `(tactic| (k_here; refine of_hold ?_))
theorem list_q2 {l : Addr} {us : List Value} {n : Nat} (F : Fr hB L s.heap m) (N : News hB L s.heap news) (hm : (l, listOf us.toArray n) ∈ news) (hz : us.length ≤ 1000000)
    (h : ∀ D c h', Fr hB L h' m → News hB L h' ((D, listOf us.toArray c) :: news) → (∀ q ∈ news, q.1 < D) → Q (.ref D) { s with heap := h' }) : wpAny (model prog w) A (call (.type "list") [.ref l]) Q E s :=
  kup_listOf F N hm List.toList_toArray h (by
    have h2 : sizeLine = 16777216 := rfl
    rw [List.toList_toArray]; omega)

theorem mixed0_ct {b l : Addr} {o : Obj} {R : Led} {vs : List Value} {pl : List (List Cel)} {nn : Nat} (X : (hd.heap_1 w.params).In hB) (T : TopRead p loose mg mb hB) (ok : Ok 3 A)
    (F : Fr hB L s.heap m) (N : News hB L s.heap ((b, o) :: R)) (hR : ∀ p ∈ R, p.1 ≠ b) (ho : BoxO o) (hl : (l, listOf vs.toArray nn) ∈ R) (hp : All2 (RowIn R) vs pl) (hpl : pl.length ≤ 100)
    (ret : ∀ D us k ql tl o' h' tk', Fr hB L h' m → News hB L h' ((b, o') :: (tl ++ R)) → Abv ((b, o) :: R) tl → BoxO o' → (D, listOf us.toArray k) ∈ tl → All2 (RowIn R) us ql → (∀ r, r ∈ ql ↔ r ∈ pl) → ql.length ≤ 2 * pl.length → Q (.ref D) { s with heap := h', toks := tk' }) :
    wpAny (model prog w) A (call (.ref 500) [.ref b, .ref l]) Q E s := by
  obtain ⟨ah, ad, af, ag, au⟩ := A
  have hh := ok.handled
  dsimp only at hh
  subst hh
  refine wpAny_call ?_
  k_dflt (refine' enterC [(Str.ofString "box", .ref b), (Str.ofString "plan", .ref l)] ?F ?X ?N ?T ?ho ?hcd ?hr ?hb ?hl ?c1 ?c2 ?c3 ?c4 ?_)
  walk_at "q sides"
  intro L' h₁ oL tk F' N' nL lt hL off
  clear F N
  have hLb : L ≠ b := Ne.symm (off _ (.head _))
  have hvl := hp.len
  k_steps
  refine list_q2 F' N' (.tail _ (.tail _ hl)) (by omega) fun lr cr h2 F2 N2 lrq => ?_
  clear F' N'
  k_steps
  rename_i lf _ lfq Dt _ ltq _ _ _ _ h3 F3 N3
  obtain ⟨oT, N3⟩ : ∃ oT, News hB L' h3 ((Dt, oT) :: (lf, listOf ([] : List Value).toArray 0) :: (lr, listOf vs.toArray cr) :: (L, oL) :: (b, o) :: R) := ⟨_, N3⟩
  refine while_T (mu := [(b, o), (lr, listOf vs.toArray cr), (lf, listOf ([] : List Value).toArray 0)]) (Z := (Dt, oT) :: (L, oL) :: R)
    (fun n m mu T => ∃ (rs : List Value) (kr : Nat) (fs : List Value) (kf : Nat) (rl ql : List (List Cel)) (o5 : Obj), rl.length = n ∧ mu = [(b, o5), (lr, listOf rs.toArray kr), (lf, listOf fs.toArray kf)] ∧ BoxO o5 ∧ All2 (RowIn R) rs rl ∧ All2 (RowIn R) fs ql ∧ (∀ r, (r ∈ ql ∨ r ∈ rl) ↔ r ∈ pl) ∧ ql.length + 2 * rl.length ≤ 2 * pl.length ∧
      m (Str.ofString "rest") = some (.ref lr) ∧ m (Str.ofString "found") = some (.ref lf) ∧ m (Str.ofString "box") = some (.ref b)) pl.length (by passes_own) F3 (newsSub N3 (by walk_at "q sub")) (mk_EEEEEEEAAAAAAAAA vs cr ([]) 0 pl ([]) o rfl rfl ho hp trivial ((fun r => by simp)) (by simp) rfl rfl rfl) ?turn
  rintro n m' mu' T1 h5 tk5; refine el_EEEEEEEAAAAAAAAA ?_; rintro rs kr fs kf rl ql o5 rfl rfl bo5 hRs hFs hmem hlen g1 g2 g3 _ ab F5 N5
  replace F5 := pin3 F5 g1 g2 g3
  have hZb : ∀ p ∈ (Dt, oT) :: (L, oL) :: R, p.1 ≠ b := neCons (Nat.ne_of_gt ltq.2.2.2.1) (neCons hLb hR)
  have hZr : ∀ p ∈ (Dt, oT) :: (L, oL) :: R, p.1 ≠ lr := neCons (Nat.ne_of_gt ltq.2.1) (neCons (Nat.ne_of_lt (lrq _ (.head _))) fun p hp => Nat.ne_of_lt (lrq p (.tail _ (.tail _ hp))))
  have hZf : ∀ p ∈ (Dt, oT) :: (L, oL) :: R, p.1 ≠ lf := neCons (Nat.ne_of_gt ltq.1) (neCons (Nat.ne_of_lt lfq.2.1) (neAll lfq.2.2.2))
  have hrb : lr ≠ b := Nat.ne_of_gt (lrq _ (.tail _ (.head _)))
  have hfb : lf ≠ b := Nat.ne_of_gt lfq.2.2.1
  have hfr : lr ≠ lf := Nat.ne_of_lt lfq.1
  obtain ⟨R1, hR1⟩ : ∃ R1, R1 = T1 ++ ((Dt, oT) :: (L, oL) :: R) := ⟨_, rfl⟩
  rw [← hR1] at N5 ⊢
  have r1 : ∀ p ∈ R1, p.1 ≠ b := hR1 ▸ neApp (fun p hp => Nat.ne_of_gt (ab _ (.head _) p hp)) hZb
  have r2 : ∀ p ∈ R1, p.1 ≠ lr := hR1 ▸ neApp (fun p hp => Nat.ne_of_gt (ab _ (.tail _ (.head _)) p hp)) hZr
  have r3 : ∀ p ∈ R1, p.1 ≠ lf := hR1 ▸ neApp (fun p hp => Nat.ne_of_gt (ab _ (.tail _ (.tail _ (.head _))) p hp)) hZf
  have upR : ∀ p ∈ R, p ∈ R1 := hR1 ▸ fun p hp => List.mem_append_right _ (.tail _ (.tail _ hp))
  have mL : (L, oL) ∈ R1 := hR1 ▸ List.mem_append_right _ (.tail _ (.head _))
  replace N5 : News hB L' h5 ((b, o5) :: (lr, listOf rs.toArray kr) :: (lf, listOf fs.toArray kf) :: R1) := N5
  have hrs := hRs.len
  have hfs := hFs.len
  clear F3 N3
  cases rl with
  | nil =>
    cases rs with
    | cons _ _ => exact hRs.elim
    | nil =>
    k_steps
    refine ne_nilD_q (r := false) ‹News _ _ _ _› (by k_mem) (by k_mem) DatAll.nil (fun _ h => h) (fun _ h => nomatch h) (by walk_at "q ok") rfl ?_
    k_steps
    dsimp only
    refine leaveR (news := (b, o5) :: R) [(lf, listOf fs.toArray kf)] hL nL ‹Fr _ _ _ _› ‹News _ _ _ _› (.tail _ (.tail _ (.tail _ (.tail _ mL)))) (fun q hq => ?_) (fun q hq => ?_) (fun F2 N2 => ?_)
    · simp only [List.mem_append, List.mem_cons, List.not_mem_nil, or_false, List.cons_append, List.nil_append] at hq ⊢
      rcases hq with h | h | h
      · exact .inr (.inr (.inr (.inl h)))
      · exact .inr (.inl h)
      · exact .inr (.inr (.inr (.inr (upR q h))))
    · rcases List.mem_cons.mp hq with rfl | hq
      · exact Nat.ne_of_gt lfq.2.1
      · rcases List.mem_cons.mp hq with rfl | hq
        · exact hLb.symm
        · exact off q (.tail _ hq)
    · refine ret lf fs kf ql [(lf, listOf fs.toArray kf)] o5 _ _ F2 (newsSub N2 (by walk_at "q sub")) (Abv.cons (ltCons lfq.2.2.1 lfq.2.2.2) Abv.nil) bo5 (.head _) hFs (fun r => by have := hmem r; simpa using this) ?_
      rw [List.length_nil] at hlen; omega
  | cons x rl =>
    cases rs with
    | nil => exact hRs.elim
    | cons r0 rs =>
    rw [List.length_cons] at hlen
    rw [List.length_cons, List.length_cons] at hrs
    have hlr : (r0 :: rs).length = rl.length + 1 := by rw [List.length_cons]; omega
    generalize r0 :: rs = rs' at *
    k_steps
    refine ne_nilD_q (r := true) ‹News _ _ _ _› (by k_mem) (by k_mem) (hRs.dat fun _ _ q => q.dat) (fun p hp => .tail _ (.tail _ (.tail _ (.tail _ (upR p hp))))) (rowD_ok _) (by walk_at "q ok") (by cases rs' with | nil => simp at hlr | cons _ _ => rfl) ?_
    k_steps
    rename_i e9 h9 e9q d9 td9 o9 h10 tk10 F10 N10 bo10 d0 d1
    refine el_EEE ?_ (cut_of (k := d9.toNat) (l := rs') (by omega)); rintro p9 y9 q9 ecut
    obtain ⟨ec1, ec2⟩ := kl_cut_spec ecut
    have hsz : rs'.length ≤ sizeLine := by
      have h2 : sizeLine = 16777216 := rfl
      omega
    have hrest : ∀ p ∈ (e9, listOf ([] : List Value).toArray 0) :: (b, o9) :: (lf, listOf fs.toArray kf) :: R1, p.1 ≠ lr :=
      neCons (Nat.ne_of_gt e9q.2.1) (neCons hrb.symm (neCons hfr.symm r2))
    replace N10 : News hB L' h10 ((lr, listOf rs'.toArray kr) :: (e9, listOf ([] : List Value).toArray 0) :: (b, o9) :: (lf, listOf fs.toArray kf) :: R1) := newsSub N10 (by walk_at "q sub")
    have hfit : Builtin.List.listFitsIndex d9 = true := by
      simp only [Builtin.List.listFitsIndex, Bool.and_eq_true, decide_eq_true_eq]
      omega
    have hidx : seqIndex? d9 rs'.toArray.size = some d9.toNat := by
      unfold seqIndex?
      rw [if_neg (by omega : ¬ d9 < 0), List.size_toArray, if_pos (by simp only [Bool.and_eq_true, decide_eq_true_eq]; omega)]
    refine kl_popAt F10 N10 hfit hidx (by rw [List.toList_toArray]; exact ecut) (Upd.head hrest) (by rw [List.toList_toArray]; exact hsz) fun h11 F11 N11 => ?_
    rw [ec1] at hRs
    refine el_EEEAAA ?_ (All2.cut hRs); rintro ra rx rb hrl hA1 hA2 hA3
    clear F10 N10
    k_steps
    rename_i e2 _ e2q d12 td12 o12 h12 tk12 F12 N12 bo12 d2 d3
    refine KMa.mul (x := 1 + d12) (vs := [y9]) (ws := List.replicate (1 + d12).toNat y9) F12 N12 (mk_EAAE _ ((N12 _ (.head _)).1) rfl _ rfl) (by omega) (by omega) (by rw [List.length_singleton]; omega) (rep_flat _ _) fun M h13 F13 N13 lM => ?_
    clear F12 N12
    have hk1 : 1 ≤ (1 + d12).toNat ∧ (1 + d12).toNat ≤ 2 := by omega
    generalize (1 + d12).toNat = k12 at hk1 N13
    have hlf : ∀ p ∈ (M, listOf (List.replicate k12 y9).toArray 0) :: (e2, listOf [y9].toArray 0) :: (lr, listOf (p9 ++ q9).toArray (kr + 1)) :: (e9, listOf ([] : List Value).toArray 0) :: (b, o12) :: R1, p.1 ≠ lf :=
      neCons (Nat.ne_of_gt (lM (lf, listOf fs.toArray kf) (.tail _ (.tail _ (.tail _ (.tail _ (.head _))))))) (neCons (Nat.ne_of_gt e2q.2.2.2.1) (neCons hfr (neCons (Nat.ne_of_gt e9q.2.2.1) (neCons hfb.symm r3))))
    replace N13 : News hB L' h13 ((lf, listOf fs.toArray kf) :: (M, listOf (List.replicate k12 y9).toArray 0) :: (e2, listOf [y9].toArray 0) :: (lr, listOf (p9 ++ q9).toArray (kr + 1)) :: (e9, listOf ([] : List Value).toArray 0) :: (b, o12) :: R1) := newsSub N13 (by walk_at "q sub")
    k_steps
    have hline : sizeLine = 16777216 := rfl
    refine kl_extend (its := fs.toArray) (its2 := (List.replicate k12 y9).toArray) (l := fs ++ List.replicate k12 y9) F13 N13 (.tail _ (.head _)) (by rw [List.toList_toArray, List.toList_toArray]) (by rw [List.toList_toArray, List.length_replicate]; omega) (Upd.head hlf) ?hd (by rw [List.toList_toArray]; omega) (by rw [List.size_toArray, List.size_toArray, List.length_replicate]; omega) fun h14 F14 N14 => ?_
    case hd =>
      have : Builtin.List.listTooLong (fs.toArray.size + (List.replicate k12 y9).toArray.size) = false := by
        unfold Builtin.List.listTooLong
        rw [List.size_toArray, List.size_toArray, List.length_replicate]
        exact decide_eq_false (by omega)
      rw [this, Bool.and_false]; decide
    clear F13 N13
    k_steps
    have hl2 := congrArg List.length hrl
    rw [List.length_cons, List.length_append, List.length_cons] at hl2
    refine tendG [] [(b, o12), (lr, listOf (p9 ++ q9).toArray (kr + 1)), (lf, listOf (fs ++ List.replicate k12 y9).toArray (kf + 1))] F14 N14 (by walk_at "q sub") rfl Abv.nil (mk_EAEEEEEEEAAAAAAAAA ((ra ++ rb).length) ?_ (p9 ++ q9) _ _ _ (ra ++ rb) (ql ++ List.replicate k12 rx) o12 rfl rfl bo12 (hA1.app hA3) (hFs.app (All2.rep hA2 k12)) (fun r => ?_) ?_ rfl rfl rfl)
    · rw [List.length_append, List.length_cons]; omega
    · rw [← hmem r, hrl]
      simp only [List.mem_append, List.mem_replicate, List.mem_cons]
      constructor
      · rintro ((h | ⟨_, h⟩) | (h | h))
        · exact .inl h
        · exact .inr (.inr (.inl h))
        · exact .inr (.inl h)
        · exact .inr (.inr (.inr h))
      · rintro (h | (h | (h | h)))
        · exact .inl (.inl h)
        · exact .inr (.inl h)
        · exact .inl (.inr ⟨by omega, h⟩)
        · exact .inr (.inr h)
    · rw [List.length_append, List.length_append, List.length_replicate]; omega

end
theorem roomsF_cut (g0 : Int) : ∀ (l : List (Option Int)) (k : Nat), roomsF g0 k l = match l with | some t :: r => ((k : Int), (k : Int), t - ((k : Int) + g0).fmod 3) :: roomsF g0 (k + 1) r | _ => []
  | [], _ => rfl
  | none :: _, _ => rfl
  | some _ :: _, _ => rfl
theorem rooms_ct {lt0 lg : Addr} {tv gv : List Value} {td : List (Option Int)} {g0 : Int} {gr : List Int} {kt kg : Nat} {Zt : Led} (X : (hd.heap_1 w.params).In hB) (T : TopRead p loose mg mb hB) (ok : Ok 1 A)
    (F : Fr hB L s.heap m) (N : News hB L s.heap news) (ht : (lt0, listOf tv.toArray kt) ∈ news) (hd : DatAll Zt tv (td.map oD)) (hg : (lg, listOf gv.toArray kg) ∈ news) (hgi : IntsAre gv (g0 :: gr)) (htl : td.length ≤ 100)
    (ret : ∀ D us k tl h' tk', Fr hB L h' m → News hB L h' (tl ++ news) → Abv news tl → (D, listOf us.toArray k) ∈ tl → All2 (CelIn tl) us (roomsF g0 0 td) → Q (.ref D) { s with heap := h', toks := tk' }) :
    wpAny (model prog w) A (call (.ref 507) [.ref lt0, .ref lg]) Q E s := by
  obtain ⟨ah, ad, af, ag, au⟩ := A
  have hh := ok.handled
  dsimp only at hh
  subst hh
  have htv : tv.length = td.length := by rw [hd.length, List.length_map]
  refine wpAny_call ?_
  k_dflt (refine' enterC [(Str.ofString "told", .ref lt0), (Str.ofString "gaps", .ref lg)] ?F ?X ?N ?T ?ho ?hcd ?hr ?hb ?hl ?c1 ?c2 ?c3 ?c4 ?_)
  walk_at "q sides"
  intro L' h₁ oL tk F' N' nL lt hL off
  clear F N
  have ht2 : (lt0, listOf tv.toArray kt) ∈ (L, oL) :: news := .tail _ ht
  cases hgi with
  | @cons g0 tg gvr gr hgr =>
  k_steps
  rename_i l9 _ _ _ l9q h9 F9 N9
  refine for_rangeT (n := tv.length) (mu := [(l9, listOf ([] : List Value).toArray 0)]) (Z := (L, oL) :: news)
    (fun xs m mu T => ∃ (cs : List Value) (kc i : Nat) (row : List Cel), i + xs.length = tv.length ∧ xs = (rangeItms tv.length).drop i ∧ mu = [(l9, listOf cs.toArray kc)] ∧ All2 (CelIn T) cs row ∧ roomsF g0 0 td = row ++ roomsF g0 i (td.drop i) ∧ cs.length = i ∧
      m (Str.ofString "found") = some (.ref l9) ∧ m (Str.ofString "told") = some (.ref lt0) ∧ m (Str.ofString "gaps") = some (.ref lg)) rfl (by omega) F9 (newsSub N9 (by walk_at "q sub")) (ne1 (neCons (Nat.ne_of_lt l9q.1) (neAll l9q.2))) (mk_EEEEAAAAAAAA ([]) 0 0 ([]) (by rw [rangeItms, List.length_map, List.length_range]; omega) rfl rfl trivial rfl rfl rfl rfl rfl) ?turn ?done
  case done =>
    rintro m' mu' T' h5 tk5; refine el_EEEEAAAAAAAA ?_; rintro cs kc i row e1 ex rfl hC hr hci f1 f2 f3 _ ab F5 N5
    replace F5 := pin3 F5 f1 f2 f3
    clear F9 N9
    replace N5 : News hB L' h5 ((l9, listOf cs.toArray kc) :: (T' ++ ((L, oL) :: news))) := N5
    rw [List.length_nil] at e1
    rw [show td.drop i = [] from List.drop_eq_nil_of_le (by omega), show roomsF g0 i [] = [] from rfl, List.append_nil] at hr
    k_steps
    dsimp only
    refine el_AA ?_ (leaveA ((l9, listOf cs.toArray kc) :: T') hL nL off F5 N5 (Abv.cons (ltCons l9q.1 l9q.2) (ab.sub fun p hp => .tail _ hp))); rintro F2 N2 ab2
    exact ret l9 cs kc _ _ _ F2 N2 ab2 (.head _) (hr ▸ hC.mono fun _ _ q => q.mono fun p hp => .tail _ hp)
  case turn =>
    rintro a r m' mu' T' R1 v h5 tk5; refine el_EEEEAAAAAAAA ?_; rintro cs kc i row e1 ex rfl hC hr hci f1 f2 f3 hv _ ab hs ho1 F5 N5 PZ hPZ
    replace F5 := pin3 F5 f1 f2 f3
    clear F9 N9
    replace N5 : News hB L' h5 ((l9, listOf cs.toArray kc) :: R1) := N5
    have r1 := notIn1 ho1
    have hkn : i < tv.length := by rw [List.length_cons] at e1; omega
    have ea : a = Itm.tok fun t => .int (i : Int) t := by
      have e9 := congrArg (·[0]?) ex
      simp only [List.getElem?_cons_zero, List.getElem?_drop, Nat.add_zero, rangeItms, List.getElem?_map, List.getElem?_range hkn, Option.map_some] at e9
      exact Option.some.inj e9
    subst ea
    obtain ⟨tt, rfl⟩ : ∃ tt, v = .int (i : Int) tt := hv
    have er : r = (rangeItms tv.length).drop (i + 1) := by
      have := congrArg List.tail ex
      rwa [List.tail_cons, List.tail_drop] at this
    refine el_EA ?_ (hd.get (k := i) (by rw [List.length_map]; omega)); rintro tvi htvi hdi
    rw [List.getElem_map] at hdi
    have hdrop : td.drop i = td[i]'(by omega) :: td.drop (i + 1) := List.drop_eq_getElem_cons (by omega)
    have upn : ∀ p ∈ (L, oL) :: news, p ∈ R1 := fun p hp => hs p (List.mem_append_right _ hp)
    have mt := upn _ ht2
    have mg := upn _ (.tail _ hg)
    have mL := upn _ (.head _)
    have hcz : cs.toArray.size ≤ sizeLine := by
      have h2 : sizeLine = 16777216 := rfl
      rw [List.size_toArray]; omega
    generalize td[i]'(by omega) = xi at hdi hdrop
    cases xi with
    | none =>
      cases hdi
      k_steps
      refine item_q ‹News _ _ _ _› (.tail _ mt) (by omega) (by omega) (x := .none) (by rw [Int.toNat_natCast]; exact htvi) ?_
      k_steps
      dsimp only
      refine hPZ _ _ ?_; unfold TEnd
      dsimp only
      rw [hdrop, show roomsF g0 i (none :: td.drop (i + 1)) = [] from rfl, List.append_nil] at hr
      k_steps
      dsimp only
      refine leaveR (news := news) ((l9, listOf cs.toArray kc) :: T') hL nL ‹Fr _ _ _ _› ‹News _ _ _ _› (.tail _ mL) (fun q hq => ?_) (fun q hq => ?_) (fun F2 N2 => ?_)
      · rcases List.mem_append.mp hq with hq | hq
        · rcases List.mem_cons.mp hq with rfl | hq
          · exact .head _
          · exact .tail _ (hs q (List.mem_append_left _ hq))
        · exact .tail _ (upn q (.tail _ hq))
      · rcases List.mem_append.mp hq with hq | hq
        · rcases List.mem_cons.mp hq with rfl | hq
          · exact Nat.ne_of_gt l9q.1
          · exact Nat.ne_of_gt (ab (L, oL) (List.mem_append_right _ (.head _)) q hq)
        · exact off q hq
      · exact ret l9 cs kc _ _ _ F2 N2 (Abv.cons (ltAll l9q.2) (ab.sub fun p hp => List.mem_append_right _ (.tail _ hp))) (.head _) (hr ▸ hC.mono fun _ _ q => q.mono fun p hp => .tail _ hp)
    | some t =>
      cases hdi with
      | int _ u =>
      k_steps
      refine item_q ‹News _ _ _ _› (.tail _ mt) (by omega) (by omega) (x := .int t u) (by rw [Int.toNat_natCast]; exact htvi) ?_
      k_steps
      refine item_q ‹News _ _ _ _› (.tail _ mt) (by omega) (by omega) (x := .int t u) (by rw [Int.toNat_natCast]; exact htvi) ?_
      k_steps
      refine item_q ‹News _ _ _ _› (.tail _ mg) (by omega) (by omega) (x := .int g0 tg) rfl ?_
      k_steps
      rename Fr _ _ _ _ => Fx
      rename News _ _ _ _ => Nx
      simp only [List.push_toArray] at Nx
      refine hPZ _ _ ?_; refine tend1A [_] Fx Nx (Abv.cons (ltCons (And.left (by assumption)) (And.right (by assumption))) Abv.nil) (mk_EEEEAAAAAAAA _ _ (i + 1) (row ++ [((i : Int), (i : Int), t - ((i : Int) + g0).fmod 3)]) ?_ er rfl ((hC.mono fun _ _ q => q.mono fun p hp => .tail _ hp).snoc (mk_EEEEEA _ _ _ _ _ rfl (.head _))) ?_ ?_ rfl rfl rfl)
      · rw [List.length_cons] at e1; omega
      · rw [hr, hdrop, List.append_assoc]; rfl
      · rw [List.length_append, List.length_singleton]; omega

theorem triples_app : ∀ {l : List Value} {p : Pos} {c : Value}, TriplesOk l → TriplesOk (l ++ [rawInt p.line, rawInt p.col, c]) := by
  intro l p c h
  fun_induction TriplesOk l with
  | case1 => exact trivial
  | case2 a b c' d e rest ih => exact ih h
  | case3 l h1 h2 => exact h.elim
theorem among_app {l : List Value} {p q : Pos} {c cv : Value} (h : TriplesOk l) (e : codeAmong q (l ++ [rawInt p.line, rawInt p.col, c]) = some cv) : codeAmong q l = some cv ∨ cv = c := by
  fun_induction TriplesOk l with
  | case1 =>
    simp only [List.nil_append, rawInt, codeAmong] at e
    split at e
    · exact .inr (Option.some.inj e).symm
    · cases e
  | case2 a b c' d e' rest ih =>
    simp only [List.cons_append, codeAmong] at e ⊢
    split at e
    · rename_i hq
      rw [if_pos hq]; exact .inl e
    · rename_i hq
      rw [if_neg hq]; exact ih h e
  | case3 l h1 h2 => exact h.elim
/-- the codes that the table holds are named so -/
def TabOk (qual : Str) (Z : Led) (ps : Array Value) : Prop := TriplesOk ps.toList ∧ ∀ pos cv, codeAmong pos ps.toList = some cv → ∃ c' oc vs t, cv = .ref c' ∧ (c', oc) ∈ Z ∧ oc.data = .fields vs ∧ vs[1]? = some (.str qual t)
theorem TabOk.nil {qual : Str} {Z : Led} : TabOk qual Z #[] := ⟨trivial, fun pos cv h => by simp [codeAmong] at h⟩
theorem TabOk.mono {qual : Str} {Z Z' : Led} {ps : Array Value} (h : TabOk qual Z ps) (hs : ∀ p ∈ Z, p ∈ Z') : TabOk qual Z' ps :=
  ⟨h.1, fun pos cv e => let ⟨c', oc, vs, t, a, b, c, d⟩ := h.2 pos cv e; (mk_EEEEAAA c' oc vs t a (hs _ b) c d)⟩
section
variable {M : Model} {c P a : Addr} {cn : Str} {cs : Scope} {cl : List (Str × Addr)} {mean : ExcName → Option Value} {params : Arguments} {body : PySem.Expr} {scope : Scope} {ps : Array Value} {pos : Pos} {clos : List (Str × Addr)} {Z Z0 : Led}
theorem lam_q (F : Fr hB L s.heap m) (N : News hB L s.heap ((P, tabObj ps) :: Z)) (hZ : ∀ p ∈ Z, p.1 ≠ P) (T : Top p loose mean mg mb hB) (C : CodeHd hB c P) (ht : TabOk ((envX cn cs L a (.ref c) cl).qual ++ "<lambda>") Z0 ps) (hZ0 : ∀ p ∈ Z0, p ∈ Z)
    (hdef : defaultsOf params (envX cn cs L a (.ref c) cl) = ([], [])) (hcl : closureFor scope (envX cn cs L a (.ref c) cl) = pure clos)
    (h : ∀ f c' oc vs t ctv ps' tl h' tk', Fr hB L h' m → News hB L h' ((f, kla_obj "<lambda>" ((envX cn cs L a (.ref c) cl).qual ++ "<lambda>") params body scope clos ((mg "__name__").getD .none) c' ctv) :: (P, tabObj ps') :: (tl ++ Z)) → Abv ((P, tabObj ps) :: Z) tl → (∀ q ∈ (P, tabObj ps') :: (tl ++ Z), q.1 < f) →
      TabOk ((envX cn cs L a (.ref c) cl).qual ++ "<lambda>") (tl ++ Z0) ps' → (c', oc) ∈ tl ++ Z0 → oc.data = .fields vs → vs[1]? = some (.str ((envX cn cs L a (.ref c) cl).qual ++ "<lambda>") t) → Q (.ref f) { s with heap := h', toks := tk' }) :
    wpAny M A (eval (.Lambda params body scope pos) (envX cn cs L a (.ref c) cl)) Q E s := by
  refine kla_eval hdef ?_
  cases e : codeAmong pos ps.toList with
  | none =>
    refine kla_nest F N T C rfl (UpdF.head hZ) ht.1 e hcl fun f c' oc vs t ctv h' tk F' N' d1 d2 l1 l2 => ?_
    refine h f c' oc vs t ctv (ps ++ #[rawInt pos.line, rawInt pos.col, .ref c']) [(c', oc)] h' tk F' (newsSub N' fun q hq => ?_) (Abv.cons l1 Abv.nil) (fun q hq => ?_) ⟨?_, fun pos' cv e' => ?_⟩ (.head _) d1 d2
    · simp only [List.cons_append, List.nil_append, List.mem_cons] at hq ⊢
      rcases hq with h | h | h | h
      · exact .inl h
      · exact .inr (.inr (.inl h))
      · exact .inr (.inl h)
      · exact .inr (.inr (.inr h))
    · rcases List.mem_cons.mp hq with rfl | hq
      · exact Nat.lt_trans (l1 (P, tabObj ps) (.head _)) l2
      · rcases List.mem_cons.mp hq with rfl | hq
        · exact l2
        · exact Nat.lt_trans (l1 q (.tail _ hq)) l2
    · rw [Array.toList_append]; exact triples_app ht.1
    · rw [Array.toList_append] at e'
      rcases among_app ht.1 e' with e' | rfl
      · refine el_EEEEAAA ?_ (ht.2 pos' cv e'); rintro c2 oc2 vs2 t2 x1 x2 x3 x4
        exact (mk_EEEEAAA c2 oc2 vs2 t2 x1 (.tail _ x2) x3 x4)
      · exact ⟨c', oc, vs, t, rfl, .head _, d1, d2⟩
  | some cv =>
    refine el_EEEEAAA ?_ (ht.2 pos cv e); rintro c2 oc2 vs2 t2 rfl x2 x3 x4
    refine kla_hit F N T C rfl (.head _) ht.1 e hcl fun f ctv h' tk F' N' l1 => ?_
    exact h f c2 oc2 vs2 t2 ctv ps [] h' tk F' N' Abv.nil l1 ht x2 x3 x4
end
section
variable {K : Frag} {R : Result → Shared → Prop}
theorem enterL {name qual : Str} {params : Arguments} {body : PySem.Expr} {scope : Scope} {cl : List (Str × Addr)} {pm ctv : Value} {c' f : Addr} {args : Args} (binds : List (Str × Value))
    (F : Fr hB L s.heap m) (N : News hB L s.heap news) (T : TopRead p loose mg mb hB) (ho : (f, kla_obj name qual params body scope cl pm c' ctv) ∈ news) (hcd : s.heap.CodeRec (.ref c') qual) (hroom : A.depth < recursionLimit)
    (hbind : bindArgs (kla_fn name qual params body scope cl pm (.ref c') ctv) args = pure binds) (hloc : ∀ y ∈ binds, scope.names.lookup y.1 = some .local)
    (hco : scope.isCoroutine = false) (hgen : scope.isGenerator = false) (hk : scope.kind = .function) (hcell : ∀ x ∈ scope.names, x.2 ≠ .cell)
    (h : ∀ L' h₁ oL tk, Fr hB L' h₁ (fun y => binds.reverse.lookup y) → News hB L' h₁ ((L, oL) :: news) → NsObj oL m → hB.objs.size ≤ L → (∀ q ∈ news, q.1 ≠ L) →
      wpAny (model prog w) (A.deeper (envX qual scope L' f (.ref c') cl)) (eval body (envX qual scope L' f (.ref c') cl))
        (fun v s' => R (.ok (.ret v)) s') (fun _ _ => False) { s with heap := h₁, toks := tk }) :
    codeAny (model prog w) A (.call (.ref f) args) R s := by
  refine kla_callFunE hroom (N _ ho).1 rfl hco hgen rfl hcd ?_
  rw [hbind]
  refine wpAny_pure (wpAny_newFunctionEnv hcell hloc (fun h₁ hns hsb => ⟨((T.nolimit).keeps F.keep).fresh _ hsb, ?_⟩) hk)
  show codeAny _ _ (.expr body (envX qual scope s.heap.objs.size f (.ref c') cl)) _ _
  have hk₁ : ∀ b o, s.heap.get? b = some o → h₁.get? b = some o := fun b o e => hsb.extBut b o (Nat.ne_of_lt (Heap.lt_size e)) (Heap.get?_push_of_some _ e)
  refine el_EEEAAA ?_ (F.ns); rintro oL es ep hL hLd hLk hLf
  have hLs := Heap.lt_size hL
  refine kla_codeExpr (wpAny_mono (h s.heap.objs.size h₁ oL _ ⟨hns, fun b o e => hk₁ b o (F.keep b o e), Nat.le_of_lt (Nat.lt_of_le_of_lt F.above hLs)⟩ ?_ (mk_EEAA es ep hLd hLk hLf) F.above fun q hq => (N q hq).2.1) (fun v s' q => q) fun _ _ q => q.elim)
  intro q hq
  rcases List.mem_cons.mp hq with rfl | hq
  · refine (mk_AA (hk₁ _ _ hL) (Nat.ne_of_lt hLs) ?_)
    cases e : hB.get? L with
    | none => rfl
    | some o => exact absurd (Nat.lt_of_lt_of_le (Heap.lt_size e) F.above) (Nat.lt_irrefl _)
  · exact (mk_AA (hk₁ _ _ (N q hq).1) (Nat.ne_of_lt (Heap.lt_size (N q hq).1)) ((N q hq).2.2))
theorem nmF {M : Model} {x : Str} {pos : Pos} {v : Value} {env : Env} {c : Addr} {o : Obj} (N : News hB L s.heap news) (hc : env.cells.lookup x = some c) (hm : (c, o) ∈ news) (ho : o.data = .cell (some v)) (h : Q v s) (hk : env.scope.kind = .function) (hx : env.kindOf x = some .free) (hn : (x == ("__classdict__" : Str)) = false) (hd : (x == ("__debug__" : Str)) = false) : wpAny M A (eval (.Name x pos) env) Q E s :=
  wpAny_Name (wpAny_loadName_free hk hx hc (mk_EA o (N.get hm) ho) h hn) hd
end

local macro_rules | `(tactic| walk_at "eval Name") => `(tactic| (k_here; k_dflt (refine' nmF ?N ?c ?m ?o ?_ ?k ?x ?n ?d; (case x => rfl); (case k => rfl); (case n => decide); (case d => decide); (case c => rfl); (case N => k_asm); (case m => k_mem); (case o => k_asm); k_whole)))
theorem five {cm : Str → Option Value} {n₁ n₂ n₃ n₄ n₅ : Str} {c₁ c₂ c₃ c₄ c₅ : Addr} {cells : List (Addr × Obj)} (x : CellsAre cm [(n₁, c₁), (n₂, c₂), (n₃, c₃), (n₄, c₄), (n₅, c₅)] cells) :
    ∃ o₁ o₂ o₃ o₄ o₅, cells = [(c₁, o₁), (c₂, o₂), (c₃, o₃), (c₄, o₄), (c₅, o₅)] ∧ o₁.data = .cell (cm n₁) ∧ o₂.data = .cell (cm n₂) ∧ o₃.data = .cell (cm n₃) ∧ o₄.data = .cell (cm n₄) ∧ o₅.data = .cell (cm n₅) := by
  cases x with | cons h r => refine el_EEEEAAAA ?_ (r.four); rintro o₂ o₃ o₄ o₅ rfl h₂ h₃ h₄ h₅; exact (mk_EEEEEAAAAA _ o₂ o₃ o₄ o₅ rfl h h₂ h₃ h₄ h₅)
section
local macro_rules | `(tactic| walk_at "eval ListComp") => `(tactic| (k_here; (with_reducible show wpAny _ _ (eval (Expr.ListComp _ [_, _] _ _) _) _ _ _); refine of_hold ?_))
local macro_rules | `(tactic| walk_at "compareOp Eq ref ref") => `(tactic| (k_here; refine of_hold ?_))
local macro_rules | `(tactic| walk_at "binaryOp Add ref ref") => `(tactic| (k_here; refine of_hold ?_))
local macro_rules | `(tactic| walk_at "compareOp NotIn int ref") => `(tactic| (k_here; refine of_hold ?_))
local macro_rules | `(tactic| walk_at "eval Lambda") => `(tactic| (k_here; refine of_hold ?_))
theorem reads_bools {h : Heap} : ∀ bs : List Bool, ∃ as, ReadsAll h (bs.map Value.bool) (bs.map PyData.bool) as
  | [] => ⟨_, ReadsAll.nil⟩
  | b :: r => let ⟨_, q⟩ := reads_bools (h := h) r; ⟨_, ReadsAll.cons (Reads.bool b) q⟩
theorem lay_bools : ∀ bs : List Bool, PyData.canLayAll0 (bs.map PyData.bool) = true ∧ PyData.depthAll (bs.map PyData.bool) = 0
  | [] => ⟨rfl, rfl⟩
  | b :: r => by
    have := lay_bools r
    simp only [List.map_cons, PyData.canLayAll0, PyData.canLay0, PyData.depthAll, PyData.depth, this.1, this.2, Bool.and_self, true_and]
    rfl
theorem eqv_bools : ∀ bs : List Bool, PyData.eqvAll (bs.map PyData.bool) (bs.map PyData.bool) = true
  | [] => rfl
  | b :: r => by simp [PyData.eqvAll, PyData.eqv, eqv_bools r]
theorem ne_bools_q {a b : Addr} {bs : List Bool} {na nb : Nat} (N : News hB L s.heap news) (ma : (a, listOf (bs.map Value.bool).toArray na) ∈ news) (mb : (b, listOf (bs.map Value.bool).toArray nb) ∈ news) (hu : Ok 0 A)
    (h : Q (.bool false) s) : wpAny (model prog w) A (compareOp .NotEq (.ref a) (.ref b)) Q E s := by
  obtain ⟨as, ra⟩ := reads_bools (h := s.heap) bs
  have hl := lay_bools bs
  have hsh : SeqAt.shaped (.list (bs.map PyData.bool)) = true := by
    unfold SeqAt.shaped
    simp only [PyData.canLay0, PyData.depth, hl.1, hl.2, Bool.true_and]
    exact decide_eq_true (by decide)
  refine ne_dataH (reads_list_at (N.get ma) rfl rfl (by simpa using ra)) (reads_list_at (N.get mb) rfl rfl (by simpa using ra)) hsh hsh hu.cmp ?_
  rw [show PyData.eqv (.list (bs.map PyData.bool)) (.list (bs.map PyData.bool)) = true from by rw [PyData.eqv, eqv_bools]]
  exact h
theorem oD_ok (td : List (Option Int)) : ∀ d ∈ td.map oD, kqdOk 8 d = true := fun d hd => by
  refine el_EA ?_ (List.mem_map.mp hd); rintro x _ rfl
  cases x <;> rfl
theorem ne_told_q {a b : Addr} {xs ys : List Value} {td td' : List (Option Int)} {na nb : Nat} {n₁ n₂ : Led} (N : News hB L s.heap news) (ma : (a, listOf xs.toArray na) ∈ news) (Da : DatAll n₁ xs (td.map oD)) (sa : ∀ p ∈ n₁, p ∈ news)
    (mb : (b, listOf ys.toArray nb) ∈ news) (Db : DatAll n₂ ys (td'.map oD)) (sb : ∀ p ∈ n₂, p ∈ news) (e : td = td') (hu : Ok 0 A) (h : Q (.bool false) s) : wpAny (model prog w) A (compareOp .NotEq (.ref a) (.ref b)) Q E s := by
  subst e
  exact kqd_ne N ma rfl rfl Da sa mb rfl rfl Db sb (oD_ok td) (oD_ok td) hu.cmp (by simpa using h)
theorem eq_told_q {a b : Addr} {xs ys : List Value} {td td' : List (Option Int)} {na nb : Nat} {n₁ n₂ : Led} (N : News hB L s.heap news) (ma : (a, listOf xs.toArray na) ∈ news) (Da : DatAll n₁ xs (td.map oD)) (sa : ∀ p ∈ n₁, p ∈ news)
    (mb : (b, listOf ys.toArray nb) ∈ news) (Db : DatAll n₂ ys (td'.map oD)) (sb : ∀ p ∈ n₂, p ∈ news) (e : td = td') (hu : Ok 0 A) (h : Q (.bool true) s) : wpAny (model prog w) A (compareOp .Eq (.ref a) (.ref b)) Q E s := by
  subst e
  exact kqd_eq N ma rfl rfl Da sa mb rfl rfl Db sb (oD_ok td) (oD_ok td) hu.cmp (by simpa using h)
theorem ints_dat {Z : Led} : ∀ {vs : List Value} {ns : List Int}, IntsAre vs ns → DatAll Z vs (ns.map Dat.int)
  | _, _, .nil => .nil
  | _, _, .cons n t r => .cons (.int n t) (ints_dat r)
open Classical in
theorem notIn_q {a : Addr} {xs : List Value} {ns : List Int} {na : Nat} {k : Int} {t : Tok} (N : News hB L s.heap news) (ma : (a, listOf xs.toArray na) ∈ news) (hi : IntsAre xs ns) (hu : Ok 0 A) (h : Q (.bool (!decide (k ∈ ns))) s) : wpAny (model prog w) A (compareOp .NotIn (.int k t) (.ref a)) Q E s := by
  refine kqd_notIn N ma rfl rfl (ints_dat (Z := []) hi) (fun _ h => nomatch h) (DatIn.int (news := []) k t) (fun _ h => nomatch h) (fun d hd => ?_) rfl hu.cmp ?_
  · refine el_EA ?_ (List.mem_map.mp hd); rintro x _ rfl; rfl
  · have e : decide (Dat.int k ∈ ns.map Dat.int) = decide (k ∈ ns) := by
      refine decide_eq_decide.mpr ⟨fun hm => ?_, fun hm => List.mem_map_of_mem hm⟩
      refine el_EA ?_ (List.mem_map.mp hm); rintro x hx e
      injection e with e
      exact e ▸ hx
    rw [e]; exact h
theorem ints_get : ∀ {vs : List Value} {ns : List Int} {k : Nat}, IntsAre vs ns → k < ns.length → ∃ i t, vs[k]? = some (.int i t) ∧ i ∈ ns
  | _, _, 0, .cons n t _, _ => ⟨n, t, rfl, .head _⟩
  | _, _, k + 1, .cons n t r, h => let ⟨i, u, e, m⟩ := ints_get (k := k) r (Nat.lt_of_succ_lt_succ h); ⟨i, u, e, .tail _ m⟩
  | _, _, _, .nil, h => absurd h (Nat.not_lt_zero _)
theorem flat_len {α : Type} {c : Nat} : ∀ {p : List (List α)}, (∀ r ∈ p, r.length ≤ c) → p.flatten.length ≤ c * p.length
  | [], _ => Nat.zero_le _
  | r :: p, h => by
    have h1 := flat_len (p := p) fun q hq => h q (.tail _ hq)
    have h2 := h r (.head _)
    rw [List.flatten_cons, List.length_append, List.length_cons, Nat.mul_succ]; omega
theorem endsP_app (a b : List (List Cel)) : endsP (a ++ b) = endsP a ++ endsP b := by
  rw [endsP, List.flatten_append, List.map_append]; rfl
theorem ends_ne {p : List (List Cel)} (h1 : 1 ≤ p.length) (h2 : ∀ r ∈ p, r ≠ []) : 1 ≤ (endsP p).length := by
  cases p with
  | nil => simp at h1
  | cons r p =>
    have := h2 r (.head _)
    cases r with
    | nil => exact absurd rfl this
    | cons c r => rw [endsP, List.length_map, List.flatten_cons, List.length_append, List.length_cons]; omega
theorem getD_mem {l : List Int} {k : Nat} (h : k < l.length) : l.getD k 0 ∈ l := by
  rw [List.getD_eq_getElem?_getD, List.getElem?_eq_getElem h]
  exact List.getElem_mem h
def IfPost (hB : Heap) (L : Addr) (m : Str → Option Value) (led : Led) (s : Shared) (c : Bool) (s₂ : Shared) : Prop := c = false ∧ ∃ h tk, s₂ = { s with heap := h, toks := tk } ∧ Fr hB L h m ∧ News hB L h led
theorem IfPost.of {led : Led} {h : Heap} {tk : Nat} (F : Fr hB L h m) (N : News hB L h led) : IfPost hB L m led s false { s with heap := h, toks := tk } := (mk_AEEAA rfl h tk rfl F N)
theorem rowOk_map {n M M' : Int} {f : Cel → Cel} (h1 : ∀ c, (f c).1 = c.1) (h2 : ∀ c, (f c).2.1 = c.2.1) (hs : ∀ c : Cel, -M ≤ c.2.2 ∧ c.2.2 ≤ M → -M' ≤ (f c).2.2 ∧ (f c).2.2 ≤ M') {p : List (List Cel)} (hp : ∀ r ∈ p, RowOk n M r) : ∀ r ∈ p.map (fun r => r.map f), RowOk n M' r := fun r hr => by
  refine el_EA ?_ (List.mem_map.mp hr); rintro q hq rfl
  obtain ⟨⟨e, h3, h4⟩, h5⟩ := hp q hq
  refine ⟨(mk_EA e h3 (ch_map h1 h2 h4)), fun c hc => ?_⟩
  refine el_EA ?_ (List.mem_map.mp hc); rintro d hd rfl
  exact hs d (h5 d hd)
theorem cells_ne9 {L' : Addr} {oa ob oc od oe : Obj} {Z : Led} (h : @LT.lt Nat _ 509 L') (hz : ∀ p ∈ Z, p.1 ≠ 509) : ∀ p ∈ (L' + 1 + 1 + 1 + 1 + 1, oa) :: (L' + 1 + 1 + 1 + 1, ob) :: (L' + 1 + 1 + 1, oc) :: (L' + 1 + 1, od) :: (L' + 1, oe) :: Z, p.1 ≠ 509 :=
  have h1 : @LT.lt Nat _ 509 (L' + 1) := Nat.lt_succ_of_lt h
  have h2 : @LT.lt Nat _ 509 (L' + 1 + 1) := Nat.lt_succ_of_lt h1
  have h3 : @LT.lt Nat _ 509 (L' + 1 + 1 + 1) := Nat.lt_succ_of_lt h2
  have h4 : @LT.lt Nat _ 509 (L' + 1 + 1 + 1 + 1) := Nat.lt_succ_of_lt h3
  have h5 : @LT.lt Nat _ 509 (L' + 1 + 1 + 1 + 1 + 1) := Nat.lt_succ_of_lt h4
  neCons (Nat.ne_of_gt h5) (neCons (Nat.ne_of_gt h4) (neCons (Nat.ne_of_gt h3) (neCons (Nat.ne_of_gt h2) (neCons (Nat.ne_of_gt h1) hz))))
section
variable {env : Env} {test : PySem.Expr} {body : List Stmt} {QF : Flow → Shared → Prop} {led : Led}
theorem If_T {pos : Pos} (_F : Fr hB L s.heap m) (hE : PassesOwn (model prog w) A env (fun _ _ => False)) (hcond : wpAny (model prog w) A (isTrue test env (eval test env)) (IfPost hB L m led s) (fun _ _ => False) s)
    (hrest : ∀ h tk, Fr hB L h m → News hB L h led → QF .next { s with heap := h, toks := tk }) : wpAny (model prog w) A (exec (.If test body [] pos) env) QF (fun _ _ => False) s := by
  refine wpAny_If ?_
  refine wpAny_mono hcond (fun c s₂ q => ?_) fun _ _ x => x
  refine el_AEEAA ?_ (q); rintro rfl h tk rfl F N
  rw [if_neg Bool.false_ne_true]
  exact wpAny_pure (hrest h tk F N)
end
theorem furtherF_mem {col more : Int} : ∀ {l : List Int} {k : Nat} {x : Int}, x ∈ furtherF col more k l → ∃ g ∈ l, x = g ∨ x = g + more
  | [], _, _, h => nomatch h
  | y :: l, k, x, h => by
    rcases List.mem_cons.mp h with rfl | h
    · refine (mk_EA y (.head _) ?_)
      split
      · exact .inr rfl
      · exact .inl rfl
    · refine el_EA ?_ (furtherF_mem h); rintro g h1 h2
      exact (mk_EA g (.tail _ h1) h2)
/-- what lies off the box and the cells -/
structure Six (b L' : Addr) (Z : Led) : Prop where
  b : ∀ p ∈ Z, p.1 ≠ b
  c1 : ∀ p ∈ Z, p.1 ≠ L' + 1
  c2 : ∀ p ∈ Z, p.1 ≠ L' + 1 + 1
  c3 : ∀ p ∈ Z, p.1 ≠ L' + 1 + 1 + 1
  c4 : ∀ p ∈ Z, p.1 ≠ L' + 1 + 1 + 1 + 1
  c5 : ∀ p ∈ Z, p.1 ≠ L' + 1 + 1 + 1 + 1 + 1
  c6 : ∀ p ∈ Z, p.1 ≠ 509
abbrev led6 (ps : Array Value) (b L' : Addr) (o oa ob oc od oe : Obj) (Z : Led) : Led := (b, o) :: (L' + 1 + 1 + 1 + 1 + 1, oa) :: (L' + 1 + 1 + 1 + 1, ob) :: (L' + 1 + 1 + 1, oc) :: (L' + 1 + 1, od) :: (L' + 1, oe) :: (509, tabObj ps) :: Z
theorem Six.app {b L' : Addr} {Z Z' : Led} (h : Six b L' Z) (h' : Six b L' Z') : Six b L' (Z ++ Z') :=
  ⟨neApp h.b h'.b, neApp h.c1 h'.c1, neApp h.c2 h'.c2, neApp h.c3 h'.c3, neApp h.c4 h'.c4, neApp h.c5 h'.c5, neApp h.c6 h'.c6⟩
theorem Six.abv {ps : Array Value} {b L' : Addr} {o oa ob oc od oe : Obj} {Z tl : Led} (h : Abv (led6 ps b L' o oa ob oc od oe Z) tl) : Six b L' tl :=
  ⟨fun p hp => Nat.ne_of_gt (h _ (.head _) p hp), fun p hp => Nat.ne_of_gt (h _ (.tail _ (.tail _ (.tail _ (.tail _ (.tail _ (.head _)))))) p hp), fun p hp => Nat.ne_of_gt (h _ (.tail _ (.tail _ (.tail _ (.tail _ (.head _))))) p hp),
    fun p hp => Nat.ne_of_gt (h _ (.tail _ (.tail _ (.tail _ (.head _)))) p hp), fun p hp => Nat.ne_of_gt (h _ (.tail _ (.tail _ (.head _))) p hp), fun p hp => Nat.ne_of_gt (h _ (.tail _ (.head _)) p hp),
    fun p hp => Nat.ne_of_gt (h _ (.tail _ (.tail _ (.tail _ (.tail _ (.tail _ (.tail _ (.head _))))))) p hp)⟩
theorem Six.low {b L' : Addr} {Z : Led} (hb : ∀ p ∈ Z, p.1 ≠ b) (h9 : ∀ p ∈ Z, p.1 ≠ 509) (h : ∀ p ∈ Z, p.1 < L') : Six b L' Z :=
  ⟨hb, fun p hp => Nat.ne_of_lt (Nat.lt_succ_of_lt (h p hp)), fun p hp => Nat.ne_of_lt (Nat.lt_succ_of_lt (Nat.lt_succ_of_lt (h p hp))), fun p hp => Nat.ne_of_lt (Nat.lt_succ_of_lt (Nat.lt_succ_of_lt (Nat.lt_succ_of_lt (h p hp)))),
    fun p hp => Nat.ne_of_lt (Nat.lt_succ_of_lt (Nat.lt_succ_of_lt (Nat.lt_succ_of_lt (Nat.lt_succ_of_lt (h p hp))))), fun p hp => Nat.ne_of_lt (Nat.lt_succ_of_lt (Nat.lt_succ_of_lt (Nat.lt_succ_of_lt (Nat.lt_succ_of_lt (Nat.lt_succ_of_lt (h p hp)))))), h9⟩
theorem Six.one {ps : Array Value} {b L' D : Addr} {o oa ob oc od oe : Obj} {Z : Led} {x : Obj} (h : ∀ p ∈ led6 ps b L' o oa ob oc od oe Z, p.1 < D) : Six b L' [(D, x)] :=
  Six.abv (ps := ps) (o := o) (oa := oa) (ob := ob) (oc := oc) (od := od) (oe := oe) (Z := Z) fun q hq p hp => by rw [List.mem_singleton.mp hp]; exact h q hq
local macro_rules | `(tactic| walk_at "exec If") => `(tactic| (k_here; (with_reducible show wpAny _ _ (exec (Stmt.If (Expr.BoolOp BoolOp.And _ _) _ _ _) _) _ _ _); refine of_hold ?_))
theorem cells_ne {ps : Array Value} {b L' : Addr} {oa ob oc od oe : Obj} {Z : Led} (h : @LT.lt Nat _ b L') (h9 : (509 : Addr) ≠ b) (hz : ∀ p ∈ Z, p.1 ≠ b) : ∀ p ∈ (L' + 1 + 1 + 1 + 1 + 1, oa) :: (L' + 1 + 1 + 1 + 1, ob) :: (L' + 1 + 1 + 1, oc) :: (L' + 1 + 1, od) :: (L' + 1, oe) :: (509, tabObj ps) :: Z, p.1 ≠ b :=
  have h1 : @LT.lt Nat _ b (L' + 1) := Nat.lt_succ_of_lt h
  have h2 : @LT.lt Nat _ b (L' + 1 + 1) := Nat.lt_succ_of_lt h1
  have h3 : @LT.lt Nat _ b (L' + 1 + 1 + 1) := Nat.lt_succ_of_lt h2
  have h4 : @LT.lt Nat _ b (L' + 1 + 1 + 1 + 1) := Nat.lt_succ_of_lt h3
  have h5 : @LT.lt Nat _ b (L' + 1 + 1 + 1 + 1 + 1) := Nat.lt_succ_of_lt h4
  neCons (Nat.ne_of_gt h5) (neCons (Nat.ne_of_gt h4) (neCons (Nat.ne_of_gt h3) (neCons (Nat.ne_of_gt h2) (neCons (Nat.ne_of_gt h1) (neCons h9 hz)))))
abbrev lamQ : Str := ((Str.ofString "_law_round" ++ ".<locals>.") ++ "<lambda>" : Str)

/-- the head of the code table, under a name that the walk's own lines for nested functions do not see -/
def CodeQ (h : Heap) : Prop := CodeHd h 511 509
theorem round_ct {b : Addr} {o : Obj} {ps : Array Value} {R R0 : Led} {mean : ExcName → Option Value} (X : (hd.heap_1 w.params).In hB) (TT : Top p loose mean mg mb hB) (C : CodeQ hB) (ok : Ok 15 A)
    (F : Fr hB L s.heap m) (N : News hB L s.heap ((b, o) :: (509, tabObj ps) :: R)) (hR1 : ∀ p ∈ R, p.1 ≠ b) (hR2 : ∀ p ∈ R, p.1 ≠ 509) (hb9 : b ≠ 509) (ho : BoxO o) (hR0 : ∀ p ∈ R0, p ∈ R) (ht : TabOk lamQ R0 ps)
    (ret : ∀ ps' tl h' tk', Fr hB L h' m → News hB L h' ((509, tabObj ps') :: (tl ++ R)) → Abv ((509, tabObj ps) :: R) tl → TabOk lamQ (tl ++ R0) ps' → Q (.bool true) { s with heap := h', toks := tk' }) :
    wpAny (model prog w) A (call (.ref 512) [.ref b]) Q E s := by
  obtain ⟨ah, ad, af, ag, au⟩ := A
  have hh := ok.handled
  dsimp only at hh
  subst hh
  have T := topRead_of TT
  refine wpAny_call ?_
  k_dflt (refine' enterCells [(Str.ofString "box", .ref b)] ?F ?X ?N ?T ?ho ?hcd ?hr ?hb ?hk ?hn ?c1 ?c2 ?c3 ?_)
  walk_at "q sidesC"
  intro L' h₁ oL tk cells F' N' nL Y lt hL off
  clear F N
  refine el_EEEEEAAAAA ?_ (five Y); rintro oa ob oc od oe rfl da db dc dd de
  have da' : oa.data = .cell none := da
  have db' : ob.data = .cell none := db
  have dc' : oc.data = .cell none := dc
  have dd' : od.data = .cell none := dd
  have de' : oe.data = .cell (some (.ref b)) := de
  clear Y da db dc dd de
  have hLb : L ≠ b := Ne.symm (off _ (.head _))
  have hbL : @LT.lt Nat _ b L' := lt (b, o) (.tail _ (.head _))
  have h509 : (509 : Nat) < hB.objs.size := by
    refine el_EEEEEEEEEA ?_ (C); rintro o' vs' _ _ _ _ _ _ _ e _
    have := Heap.lt_size e
    exact Nat.lt_of_succ_lt (Nat.lt_of_succ_lt this)
  have hb9n : @Ne Nat b 509 := hb9
  have hL9 : (509 : Nat) < L := Nat.lt_of_lt_of_le h509 hL
  have hL9' : @LT.lt Nat _ 509 L' := Nat.lt_trans hL9 (lt _ (.head _))
  refine el_EAAA ?_ (show ∃ Z : Led, (∀ p ∈ R, p ∈ Z) ∧ (L, oL) ∈ Z ∧ Six b L' Z ∧ Z = (L, oL) :: R from (mk_EAAA _ (fun p hp => .tail _ hp) (.head _) (Six.low (neCons hLb hR1) (neCons (Nat.ne_of_gt hL9) hR2) (fun p hp => lt p (by
    rcases List.mem_cons.mp hp with rfl | hp
    · exact .head _
    · exact .tail _ (.tail _ (.tail _ hp))))) rfl)); rintro Z hZR hZL hSix hZlt
  replace N' : News hB L' h₁ (led6 ps b L' o oa ob oc od oe Z) := newsSub N' (by rw [hZlt]; walk_at "q sub")
  obtain ⟨sb, s1, s2, s3, s4, s5, s6⟩ := id hSix
  k_steps
  rename_i d1 td1 o1 h1 tk1 bo1 p1 p2 dc tdc o2 h2 tk2 bo2 q1 q2 D3 h3 l3 h4 F4 N4 h5 h6 F6 N6
  obtain ⟨n, hn⟩ : ∃ n : Nat, 1 + dc = (n : Int) := ⟨(1 + dc).toNat, by omega⟩
  have hn3 : 1 ≤ n ∧ n ≤ 3 := by omega
  rw [hn] at F6 ⊢
  generalize (d1 == 1) = up at F6
  refine el_EAA ?_ (show ∃ m7 : Str → Option Value, m7 (Str.ofString "upright") = some (.bool up) ∧ m7 (Str.ofString "columns") = some (.int n tk2) ∧ Fr hB L' h6 m7 from (mk_EAA _ rfl rfl F6)); rintro m7 e71 e72 F7
  replace F7 := pin2 F7 e71 e72
  have N7 : News hB L' h6 (led6 ps b L' o2 oa ob oc od oe Z) := newsSub N6 fun q hq => .tail _ hq
  rw [show (n : Int) + 1 = ((n + 1 : Nat) : Int) from by omega]
  clear F6 N6 F4 N4 l3 bo1 q1 q2 p1 p2
  have hcb : ∀ p ∈ (L' + 1 + 1 + 1 + 1 + 1, oa) :: (L' + 1 + 1 + 1 + 1, ob) :: (L' + 1 + 1 + 1, oc) :: (L' + 1 + 1, od) :: (L' + 1, oe) :: (509, tabObj ps) :: Z, p.1 ≠ b := cells_ne hbL hb9.symm sb
  refine comp_rangeT (mu := [(b, o2)]) (Z := (L' + 1 + 1 + 1 + 1 + 1, oa) :: (L' + 1 + 1 + 1 + 1, ob) :: (L' + 1 + 1 + 1, oc) :: (L' + 1 + 1, od) :: (L' + 1, oe) :: (509, tabObj ps) :: Z)
    (fun xs acc mu T => ∃ (o3 : Obj) (gs : List Int), mu = [(b, o3)] ∧ BoxO o3 ∧ IntsAre acc gs ∧ (∀ g ∈ gs, -100 ≤ g ∧ g ≤ 100) ∧ acc.length + xs.length = n + 1) rfl (by omega) F7 N7 (ne1 hcb) (mk_EEAAAA o2 ([]) rfl bo2 .nil ((fun _ h => nomatch h)) (by rw [rangeItms, List.length_map, List.length_range, List.length_nil, Nat.zero_add])) ?gturn ?gdone
  case gturn =>
    rintro a r acc C1 D m' mu' T' R1 v h tk; refine el_EEAAAA ?_; rintro o3 gs rfl bo3 hI hgb hl hv _ ab hs ho1 hlD F9 N9 PZ hPZ
    replace N9 : News hB C1 h ((D, listOf acc.toArray acc.length) :: (b, o3) :: R1) := N9
    have hbD : @LT.lt Nat _ b D := hlD (b, o3) (.head _)
    have rb : ∀ p ∈ R1, p.1 ≠ b := fun p hp e => ho1 p hp (e ▸ List.mem_cons_of_mem _ (List.mem_cons_self ..))
    have mbx : (L' + 1, oe) ∈ R1 := hs _ (List.mem_append_right _ (.tail _ (.tail _ (.tail _ (.tail _ (.head _))))))
    clear F7 N7
    k_steps
    rename Fr _ _ _ _ => Fx
    rename News _ _ _ _ => Nx
    refine hPZ _ _ ?_; refine (mk_EEEEEAAAAAEEAAAA ([]) ([(b, _)]) _ _ _ rfl Fx Nx rfl Abv.nil _ (gs ++ [_]) rfl (by assumption) (IntsAre.append hI (.cons _ _ .nil)) (fun g hg => ?_) ?_)
    · rcases List.mem_append.mp hg with hg | hg
      · exact hgb g hg
      · rw [List.mem_singleton.mp hg]; omega
    · rw [List.length_cons] at hl
      rw [List.length_append, List.length_singleton]; omega
  case gdone =>
    rintro gv Dg mu' T' h7 tk7; refine el_EEAAAA ?_; rintro o3 gs rfl bo3 hgi hgb hgl _ ab hlD hTD F8 N8
    clear F7 N7
    obtain ⟨kg, N8⟩ : ∃ kg, News hB L' h7 ((Dg, listOf gv.toArray kg) :: (b, o3) :: (T' ++ (L' + 1 + 1 + 1 + 1 + 1, oa) :: (L' + 1 + 1 + 1 + 1, ob) :: (L' + 1 + 1 + 1, oc) :: (L' + 1 + 1, od) :: (L' + 1, oe) :: (509, tabObj ps) :: Z)) := ⟨_, N8⟩
    refine el_EAAA ?_ (show ∃ Z2 : Led, (∀ p ∈ Z, p ∈ Z2) ∧ (Dg, listOf gv.toArray kg) ∈ Z2 ∧ Six b L' Z2 ∧ News hB L' h7 (led6 ps b L' o3 oa ob oc od oe Z2) from (mk_EAAA ((Dg, listOf gv.toArray kg) :: Z) (fun p hp => .tail _ hp) (.head _) (Six.app (Z := [_]) (Six.abv (ps := ps) (o := o2) (oa := oa) (ob := ob) (oc := oc) (od := od) (oe := oe) (Z := []) fun q hq p hp => by
        rw [List.mem_singleton.mp hp]
        refine hlD q ?_
        simp only [List.cons_append, List.nil_append, List.mem_cons, List.not_mem_nil, or_false] at hq ⊢
        rcases hq with h | h | h | h | h | h | h <;> simp [h]) hSix) (newsSub N8 (by walk_at "q sub")))); rintro Z2 hZ2 hDg h62 N9
    clear N8 ab hlD hTD
    k_steps
    clear sb s1 s2 s3 s4 s5 s6 hSix
    obtain ⟨sb, s1, s2, s3, s4, s5, s6⟩ := id h62
    have hcb2 : ∀ p ∈ (L' + 1 + 1 + 1 + 1 + 1, oa) :: (L' + 1 + 1 + 1 + 1, ob) :: (L' + 1 + 1 + 1, oc) :: (L' + 1 + 1, od) :: (L' + 1, oe) :: (509, tabObj ps) :: Z2, p.1 ≠ b := cells_ne hbL hb9.symm sb
    refine plan0_ct X T (by walk_at "q ok") ‹Fr _ _ _ _› N9 hcb2 bo3 hn3 fun Dp us kp pl tlp o4 h10 tk10 F10 N10 ab10 bo4 hmp hpp hpl4 hplok => ?_
    refine el_EAAAA ?_ (show ∃ Z3 : Led, (∀ p ∈ Z2, p ∈ Z3) ∧ (Dp, listOf us.toArray kp) ∈ Z3 ∧ All2 (RowIn Z3) us pl ∧ Six b L' Z3 ∧ News hB L' h10 (led6 ps b L' o4 oa ob oc od oe Z3) from (mk_EAAAA (tlp ++ Z2) (fun p hp => List.mem_append_right _ hp) (List.mem_append_left _ hmp) (hpp.mono fun _ _ q => q.mono fun p hp => List.mem_append_left _ hp) (Six.app (Six.abv ab10) h62) (newsSub N10 (by walk_at "q sub")))); rintro Z3 hZ3 hmp3 hpp3 h63 N11
    clear N10 ab10 N9 hmp hpp sb s1 s2 s3 s4 s5 s6 hcb2 hcb
    obtain ⟨sb, s1, s2, s3, s4, s5, s6⟩ := id h63
    replace hDg := hZ3 _ hDg
    have hgl2 : gs.length = n + 1 := by
      rw [List.length_nil, Nat.add_zero] at hgl
      rw [← IntsAre.length hgi]; exact hgl
    have hplok2 : ∀ r ∈ pl, RowOk n 100000 r := fun r hr => by
      refine el_AA ?_ (hplok r hr); rintro _ h1 h2
      exact ⟨h1, fun c hc => by have := h2 c hc; omega⟩
    have hgb2 : ∀ g ∈ gs, -100000 ≤ g ∧ g ≤ 100000 := fun g hg => by have := hgb g hg; omega
    have hch : ∀ r ∈ pl, ∃ e : Int, ChTo 0 r e := fun r hr => let ⟨_, ⟨⟨e, _, h⟩, _⟩⟩ := hplok r hr; ⟨e, h⟩
    k_steps
    refine told_ct (n := n) (pl := pl) (gs := gs) X T (by walk_at "q ok") ‹Fr _ _ _ _› ‹News _ _ _ _› (by k_mem) (hpp3.mono fun _ _ q => q.mono (by walk_at "q up")) (by k_mem) hgi hgl2 (by omega) (by omega) hplok2 hgb2 (by omega) (by omega) fun rt tlt h12 tk12 F12 N12 ab12 in12 => ?_
    refine el_EEEAA ?_ (dat_list in12); rintro at0 tv kt rfl mt dt
    have hbT : ∀ x, some x ∈ tolds gs pl n → -25100 ≤ x ∧ x ≤ 25100 := fun x hx => law_bnd (M := 100) (by decide) hch (fun r hr => (hplok r hr).2.2) hgb (by omega) hx
    obtain ⟨td, htd⟩ : ∃ td, td = tolds gs pl n := ⟨_, rfl⟩
    rw [← htd] at dt hbT
    have htl : td.length = n := by rw [htd, tolds, List.length_map, List.length_range]
    have htv : tv.length = n := by rw [dt.length, List.length_map, htl]
    refine el_EAAAA ?_ (show ∃ Z4 : Led, (∀ p ∈ Z3, p ∈ Z4) ∧ (at0, listOf tv.toArray kt) ∈ Z4 ∧ DatAll Z4 tv (td.map oD) ∧ Six b L' Z4 ∧ News hB L' h12 (led6 ps b L' o4 oa ob oc od oe Z4) from (mk_EAAAA (tlt ++ Z3) (fun p hp => List.mem_append_right _ hp) (List.mem_append_left _ mt) (dt.mono fun p hp => List.mem_append_left _ hp) (Six.app (Six.abv ab12) h63) (newsSub N12 (by walk_at "q sub")))); rintro Z4 hZ4 mt4 dt4 h64 N13
    clear N12 ab12 N11 in12 mt dt sb s1 s2 s3 s4 s5 s6
    obtain ⟨sb, s1, s2, s3, s4, s5, s6⟩ := id h64
    replace hDg := hZ4 _ hDg
    replace hmp3 := hZ4 _ hmp3
    replace hpp3 : All2 (RowIn Z4) us pl := hpp3.mono fun _ _ q => q.mono hZ4
    k_steps
    all_goals try (exfalso; omega)
    have hrl : ∀ r ∈ pl, r.length ≤ 4 := fun r hr => by
      obtain ⟨⟨e, he, hc⟩, _⟩ := hplok2 r hr
      have := hc.len; omega
    have hel : (endsP pl).length ≤ 16 := by
      have := flat_len hrl
      rw [endsP, List.length_map]; omega
    clear N13
    k_dflt (refine' comp_eval2 ?nf ?na ?nb ?nc ?nd ?ne ?ng ?_; (case na => with_unfolding_all rfl); (case nb => decide); (case nc => rfl); (case nd => decide); (case ne => (intro _; rfl)); (case ng => (intro _ _; rfl)); (case nf => k_asm))
    k_steps
    refine comp2_listT (fun xs acc T => T = [] ∧ ∃ (us1 : List Value) (p0 p1 : List (List Cel)), xs = us1.map Itm.val ∧ All2 (RowIn Z4) us1 p1 ∧ pl = p0 ++ p1 ∧ IntsAre acc (endsP p0)) rfl ‹Fr _ _ _ _› ‹News _ _ _ _› (by k_mem) (mk_AEEEAAA rfl us ([]) pl rfl hpp3 rfl .nil) ?t2 ?d2
    case t2 =>
      rintro a r acc C1 D m' T' R1 v h tk; refine el_AEEEAAA ?_; rintro rfl us1 p0 p1 e hA hpq hI hv ab hs hRD F20 N20
      cases us1 with
      | nil => cases e
      | cons u us1 =>
        cases p1 with
        | nil => exact hA.elim
        | cons y p1 =>
          rw [List.map_cons] at e
          injection e with e1 e2
          subst e1 e2
          obtain rfl : v = u := hv
          refine el_EEEAA ?_ (hA.1); rintro lr vr kr rfl mr hr
          have upZ : ∀ p ∈ Z4, p ∈ R1 := fun p hp => hs p (.tail _ (.tail _ (.tail _ (.tail _ (.tail _ (.tail _ (.tail _ hp)))))))
          have hyl := hrl y (hpq ▸ List.mem_append_right _ (.head _))
          have hal : acc.length ≤ 16 := by
            rw [IntsAre.length hI]
            rw [hpq, endsP_app, List.length_append] at hel
            omega
          replace mr := upZ _ mr
          k_steps
          refine in_listT [] (fun xs2 acc2 T2 => T2 = [] ∧ ∃ (us2 : List Value) (c0 c1 : List Cel), xs2 = us2.map Itm.val ∧ All2 (CelIn Z4) us2 c1 ∧ y = c0 ++ c1 ∧ IntsAre acc2 (endsP p0 ++ c0.map fun c => c.2.1)) rfl rfl (by have := hr.len; omega) ‹Fr _ _ _ _› ‹News _ _ _ _› Abv.nil hRD mr (mk_AEEEAAA rfl vr ([]) y rfl hr rfl (by rw [List.map_nil, List.append_nil]; exact hI)) ?_ ?_
          · rintro a r3 acc3 m3 T3 R3 v h7 tk7; refine el_AEEEAAA ?_; rintro rfl us2 c0 c1 e hC hy hI3 hv hs3 hR3 F21 N21 PZ hPZ
            cases us2 with
            | nil => cases e
            | cons u us2 =>
              cases c1 with
              | nil => exact hC.elim
              | cons c c1 =>
                obtain ⟨cf, cl0, csz⟩ := c
                rw [List.map_cons] at e
                injection e with e1 e2
                subst e1 e2
                obtain rfl : v = u := hv
                refine el_EEEEEA ?_ (hC.1); rintro x t1 t2 t3 n9 rfl mx
                replace mx := hs3 _ (upZ _ mx)
                dsimp only at mx
                clear F20 N20
                k_steps
                refine hPZ _ _ ?_; refine cend0 ‹Fr _ _ _ _› ‹News _ _ _ _› (mk_AAEEEAAA rfl rfl us2 (c0 ++ [(cf, cl0, csz)]) c1 rfl hC.2 (by rw [hy, List.append_assoc]; rfl) ?_)
                rw [List.map_append, ← List.append_assoc]
                exact IntsAre.append hI3 (.cons _ _ .nil)
          · rintro acc3 T3; refine el_AEEEAAA ?_; rintro rfl us2 c0 c1 e hC hy hI3
            cases us2 with
            | cons u us2 => cases e
            | nil =>
              cases c1 with
              | cons _ _ => exact hC.elim
              | nil =>
                rw [List.append_nil] at hy
                subst hy
                refine (mk_AEEEAAA rfl us1 (p0 ++ [y]) p1 rfl hA.2 (by rw [hpq, List.append_assoc]; rfl) ?_)
                rw [endsP_app, show endsP [y] = y.map fun c => c.2.1 from by rw [endsP, List.flatten_cons, List.flatten_nil, List.append_nil]]
                exact hI3
    case d2 =>
      rintro ev De T' h13 tk13; refine el_AEEEAAA ?_; rintro rfl us1 p0 p1 e hA hpq hei ab hlD hTD F20 N20
      cases us1 with
      | cons u us1 => cases e
      | nil =>
      cases p1 with
      | cons y ys => exact hA.elim
      | nil =>
      rw [List.append_nil] at hpq
      subst hpq
      obtain ⟨ke, N20⟩ : ∃ ke, News hB L' h13 ((De, listOf ev.toArray ke) :: led6 ps b L' o4 oa ob oc od oe Z4) := ⟨_, N20⟩
      refine el_EAAA ?_ (show ∃ Z5 : Led, (∀ p ∈ Z4, p ∈ Z5) ∧ (De, listOf ev.toArray ke) ∈ Z5 ∧ Six b L' Z5 ∧ News hB L' h13 (led6 ps b L' o4 oa ob oc od oe Z5) from (mk_EAAA ((De, listOf ev.toArray ke) :: Z4) (fun p hp => .tail _ hp) (.head _) (Six.app (Z := [_]) (Six.one hlD) h64) (newsSub N20 (by walk_at "q sub")))); rintro Z5 hZ5 mDe h65 N21
      clear N20 ab hlD hTD sb s1 s2 s3 s4 s5 s6
      obtain ⟨sb, s1, s2, s3, s4, s5, s6⟩ := id h65
      replace hDg := hZ5 _ hDg
      replace hmp3 := hZ5 _ hmp3
      replace mt4 := hZ5 _ mt4
      replace dt4 := dt4.mono hZ5
      replace hpp3 : All2 (RowIn Z5) us pl := hpp3.mono fun _ _ q => q.mono hZ5
      k_steps
      rename_i od5 _ _ dd5
      refine comp_mapT0 (fun v x => DatIn Z5 v (oD x)) (fun v b => v = Value.bool b) (fun x => x.isNone) rfl (by omega) ‹Fr _ _ _ _› ‹News _ _ _ _› (by k_mem) (datAll_all2 dt4) ?s2 ?e2
      case s2 =>
        rintro x v C1 D acc m' R1 h tk _ hu hs ho1 F22 N22 PZ hPZ
        cases x with
        | none =>
          cases hu
          k_steps
          exact hPZ _ _ _ _ ‹Fr _ _ _ _› ‹News _ _ _ _› rfl
        | some t =>
          cases hu
          k_steps
          exact hPZ _ _ _ _ ‹Fr _ _ _ _› ‹News _ _ _ _› rfl
      case e2 =>
        intro acc Db h14 tk14 hacc hlDb F22 N22
        replace hacc := all2_map (g := Value.bool) hacc
        subst hacc
        replace N22 : News hB L' h14 ((Db, listOf ((td.map fun x => x.isNone).map Value.bool).toArray ((td.map fun x => x.isNone).map Value.bool).length) :: led6 ps b L' o4 oa ob oc od5 oe Z5) := N22
        k_steps
        refine comp_rangeT (n := n) (mu := []) (fun xs acc mu T => mu = [] ∧ T = [] ∧ ∃ i : Nat, i + xs.length = n ∧ xs = (rangeItms n).drop i ∧ acc = ((List.range i).map fun (k : Nat) => !decide ((k : Int) ∈ endsP pl)).map Value.bool) rfl (by omega) ‹Fr _ _ _ _› N22 notIn_nil (mk_AAEAA rfl rfl 0 (by rw [rangeItms, List.length_map, List.length_range, Nat.zero_add]) rfl rfl) ?s3 ?e3
        case s3 =>
          rintro a r acc C1 D m' mu' T' R1 v h tk; refine el_AAEAA ?_; rintro rfl rfl i e1 ex rfl hv _ ab hs ho1 _ F23 N23 PZ hPZ
          have hkn : i < n := by rw [List.length_cons] at e1; omega
          have ea : a = Itm.tok fun t => .int (i : Int) t := by
            have e9 := congrArg (·[0]?) ex
            simp only [List.getElem?_cons_zero, List.getElem?_drop, Nat.add_zero, rangeItms, List.getElem?_map, List.getElem?_range hkn, Option.map_some] at e9
            exact Option.some.inj e9
          subst ea
          obtain ⟨tt, rfl⟩ : ∃ tt, v = .int (i : Int) tt := hv
          have mce : (L' + 1 + 1, od5) ∈ R1 := hs _ (.tail _ (.tail _ (.tail _ (.tail _ (.tail _ (.head _))))))
          have mDe2 : (De, listOf ev.toArray ke) ∈ R1 := hs _ (.tail _ (.tail _ (.tail _ (.tail _ (.tail _ (.tail _ (.tail _ (.tail _ mDe))))))))
          replace N23 : News hB C1 h ((D, listOf (((List.range i).map fun (k : Nat) => !decide ((k : Int) ∈ endsP pl)).map Value.bool).toArray (((List.range i).map fun (k : Nat) => !decide ((k : Int) ∈ endsP pl)).map Value.bool).length) :: R1) := N23
          clear N22
          k_steps
          refine notIn_q ‹News _ _ _ _› (.tail _ mDe2) hei (by walk_at "q ok") ?_
          k_steps
          refine hPZ _ _ ?_; refine cend0 ‹Fr _ _ _ _› ‹News _ _ _ _› (mk_AAEAA rfl rfl (i + 1) (by rw [List.length_cons] at e1; omega) ?_ ?_)
          · have := congrArg List.tail ex
            rwa [List.tail_cons, List.tail_drop] at this
          · rw [List.range_succ, List.map_append, List.map_append]; rfl
        case e3 =>
          rintro acc Dc mu' T' h15 tk15; refine el_AAEAA ?_; rintro rfl rfl i e1 ex rfl _ ab hlDc hTD F23 N23
          rw [List.length_nil, Nat.add_zero] at e1
          subst e1
          rw [← law_none gs pl i, ← htd] at N23
          replace N23 : News hB L' h15 ((Dc, listOf ((td.map fun x => x.isNone).map Value.bool).toArray _) :: (Db, listOf ((td.map fun x => x.isNone).map Value.bool).toArray ((td.map fun x => x.isNone).map Value.bool).length) :: led6 ps b L' o4 oa ob oc od5 oe Z5) := N23
          clear N22
          k_steps
          refine ne_bools_q N23 (.tail _ (.head _)) (.head _) (by walk_at "q ok") ?_
          have N24 : News hB L' h15 (led6 ps b L' o4 oa ob oc od5 oe Z5) := newsSub N23 fun q hq => .tail _ (.tail _ hq)
          clear N23
          have hev : ev.length = (endsP pl).length := IntsAre.length hei
          have hne1 := ends_ne hpl4.1 fun r hr => (hplok r hr).1
          k_steps
          rename_i h30 o30 F30 N30 d30
          refine el_EEEEEEEEEEAAAAAAA ?_ (show ∃ (o6 oa6 ob6 oc6 : Obj) (col more many : Int) (t1 t2 t3 : Tok), News hB L' h30 (led6 ps b L' o6 oa6 ob6 oc6 od5 oe Z5) ∧ BoxO o6 ∧ oa6.data = .cell (some (.int col t1)) ∧ ob6.data = .cell (some (.int many t3)) ∧ oc6.data = .cell (some (.int more t2)) ∧ col ∈ endsP pl ∧ (-9 ≤ more ∧ more ≤ 30) ∧ (2 ≤ many ∧ many ≤ 6) from (mk_EEEEEEEEEEAAAAAAA _ _ _ _ _ _ _ _ _ _ (newsSub N30 fun q hq => .tail _ hq) (by assumption) (by assumption) (by assumption) (by assumption) (getD_mem (by omega)) (by omega) (by omega))); rintro o6 oa6 ob6 oc6 col more many tcol tmore tmany N31 bo6 daa dbb dcc hcol hmore hmany
          clear N30
          have hcb5 : ∀ p ∈ (L' + 1 + 1 + 1 + 1 + 1, oa6) :: (L' + 1 + 1 + 1 + 1, ob6) :: (L' + 1 + 1 + 1, oc6) :: (L' + 1 + 1, od5) :: (L' + 1, oe) :: (509, tabObj ps) :: Z5, p.1 ≠ b := cells_ne hbL hb9.symm sb
          refine mixed0_ct X T (by walk_at "q ok") F30 N31 hcb5 bo6 (by k_mem) (hpp3.mono fun _ _ q => q.mono (by walk_at "q up")) (by omega) fun Dm um km ql tlm o7 h31 tk31 F31 N32 ab31 bo7 hmm hqq hqm hql => ?_
          clear N31
          k_steps
          refine told_ct (n := i) (pl := ql) (gs := gs) X T (by walk_at "q ok") ‹Fr _ _ _ _› N32 (.tail _ (List.mem_append_left _ hmm)) (hqq.mono fun _ _ q => q.mono fun p hp => .tail _ (List.mem_append_right _ hp)) (by k_mem) hgi hgl2 (by omega) (by omega) (fun r hr => hplok2 r ((hqm r).mp hr)) hgb2 (by omega) (by omega) fun rt tlt h32 tk32 F32 N33 ab32 in32 => ?_
          refine el_EEEAA ?_ (dat_list in32); rintro a32 v32 k32 rfl m32 d32
          clear in32 ab32
          k_steps
          refine ne_told_q N33 (List.mem_append_left _ m32) d32 (fun p hp => List.mem_append_left _ hp) (by k_mem) dt4 (by walk_at "q up") (by rw [htd]; exact law_mixed gs i hch hqm) (by walk_at "q ok") ?_
          have N34 : News hB L' h32 (led6 ps b L' o7 oa6 ob6 oc6 od5 oe Z5) := newsSub N33 fun q hq => List.mem_append_right _ ((List.mem_cons.mp hq).elim (fun h => h ▸ List.mem_cons_self ..) fun h => List.mem_cons_of_mem _ (List.mem_append_right _ h))
          clear N33 N32 m32 d32
          k_steps
          refine told_ct (n := i) (pl := pl) (gs := gs) X T (by walk_at "q ok") ‹Fr _ _ _ _› ‹News _ _ _ _› (by k_mem) (hpp3.mono fun _ _ q => q.mono (by walk_at "q up")) (by k_mem) hgi hgl2 (by omega) (by omega) hplok2 hgb2 (by omega) (by omega) fun rt tlt h33 tk33 F33 N35 ab32 in32 => ?_
          refine el_EEEAA ?_ (dat_list in32); rintro a32 v32 k32 rfl m32 d32
          clear in32 ab32 N34
          k_steps
          refine ne_told_q N35 (List.mem_append_left _ m32) d32 (fun p hp => List.mem_append_left _ hp) (by k_mem) dt4 (by walk_at "q up") (by rw [htd]) (by walk_at "q ok") ?_
          have N36 : News hB L' h33 (led6 ps b L' o7 oa6 ob6 oc6 od5 oe Z5) := newsSub N35 fun q hq => List.mem_append_right _ hq
          clear N35 m32 d32
          k_steps
          refine el_EE ?_ (show ∃ g0 gr, gs = g0 :: gr from by
            cases gs with
            | nil => simp at hgl2
            | cons a r => exact (mk_EE a r rfl)); rintro g0 gr hgs
          have hro1 : RowOk i 100000 (roomsF g0 0 td) := by
            refine el_EA ?_ (roomsF_ch g0 td 0); rintro j h1 h2
            refine ⟨(mk_EA j (by rw [htl] at h1; omega) h2), fun c hc => ?_⟩
            refine el_EEAAAA ?_ (roomsF_mem hc); rintro j t h3 _ _ h4 h5
            have := hbT t (List.mem_of_getElem? h3)
            omega
          refine rooms_ct (g0 := g0) (gr := gr) X T (by walk_at "q ok") ‹Fr _ _ _ _› ‹News _ _ _ _› (by k_mem) dt4 (by k_mem) (hgs ▸ hgi) (by omega) fun Dr ur kr tlr h34 tk34 F34 N37 ab34 hmr hrr => ?_
          clear N36 ab34
          k_steps
          rename_i h35 F35 N38
          refine If_T (led := led6 ps b L' o7 oa6 ob6 oc6 od5 oe Z5) F35 (by passes_own) ?cnd ?rst
          case cnd =>
            have hrl2 := hrr.len
            cases ur with
            | nil =>
              k_steps
              refine ne_nilD_q (r := false) ‹News _ _ _ _› (by k_mem) (by k_mem) DatAll.nil (fun _ h => h) (fun _ h => nomatch h) (by walk_at "q ok") rfl ?_
              k_steps
              exact IfPost.of ‹Fr _ _ _ _› (newsSub ‹News _ _ _ _› fun q hq => .tail _ (List.mem_append_right _ hq))
            | cons u0 us0 =>
              k_steps
              refine ne_nilD_q (r := true) ‹News _ _ _ _› (by k_mem) (by k_mem) (hrr.dat fun _ _ q => q.dat) (fun p hp => .tail _ (List.mem_append_left _ hp)) (celD_ok _) (by walk_at "q ok") rfl ?_
              k_steps
              rename_i e2 _ F40 N40 _
              have hup := hpp3.len
              refine kmk_add_lit (its := us.toArray) (its2 := [Value.ref Dr].toArray) (zs := us ++ [Value.ref Dr]) F40 N40 (mk_EAAE _ ((N40 _ (show (Dp, listOf us.toArray kp) ∈ _ from by k_mem)).1) rfl _ rfl) (mk_EAAE _ ((N40 _ (show (e2, listOf [Value.ref Dr].toArray 0) ∈ _ from .head _)).1) rfl _ rfl) (by rw [List.toList_toArray, List.toList_toArray]) (fun Dq h41 F41 N41 lq => ?_) (by
                have h2 : sizeLine = 16777216 := rfl
                rw [List.toList_toArray, List.toList_toArray, List.length_singleton]; omega)
              clear N40
              k_steps
              refine told_ct (n := i) (pl := pl ++ [roomsF g0 0 td]) (gs := gs) X T (by walk_at "q ok") ‹Fr _ _ _ _› N41 (.head _) ((hpp3.mono fun _ _ q => q.mono (by walk_at "q up")).snoc (mk_EEEAA Dr _ kr rfl (by k_mem) (hrr.mono fun _ _ q => q.mono (by walk_at "q up")))) (by k_mem) hgi hgl2 (by omega) (by rw [List.length_append, List.length_singleton]; omega) (fun r hr => (List.mem_append.mp hr).elim (hplok2 r) fun h => by rw [List.mem_singleton.mp h]; exact hro1) hgb2 (by omega) (by omega) fun rt tlt h42 tk42 F42 N42 ab42 in42 => ?_
              refine el_EEEAA ?_ (dat_list in42); rintro a42 v42 k42 rfl m42 d42
              clear in42 ab42 N41
              k_steps
              refine ne_told_q N42 (List.mem_append_left _ m42) d42 (fun p hp => List.mem_append_left _ hp) (by k_mem) dt4 (by walk_at "q up") (by rw [htd]; exact law_room gs i g0 hch) (by walk_at "q ok") ?_
              k_steps
              exact IfPost.of ‹Fr _ _ _ _› (newsSub N42 fun q hq => List.mem_append_right _ (.tail _ (.tail _ (.tail _ (List.mem_append_right _ hq)))))
          case rst =>
            intro h43 tk43 F43 N43
            clear N38 N37 F35
            k_steps
            refine comp_enumMapT (fun v x => DatIn Z5 v (oD x)) (fun v x => DatIn [] v (oD x)) (fun i0 x => if (i0 : Int) = col then x.map (· + more) else x) (dueF col more) (fun _ => rfl) (fun _ _ _ => rfl) rfl (by omega) ‹Fr _ _ _ _› ‹News _ _ _ _› (by k_mem) (datAll_all2 dt4) ?s6 ?e6
            case s6 =>
              rintro i0 x u TT t C1 D acc m' R1 h tk hxi hu hT hs ho1 F50 N50 PZ hPZ
              have mco : (L' + 1 + 1 + 1 + 1 + 1, oa6) ∈ R1 := hs _ (.tail _ (.head _))
              have mmo : (L' + 1 + 1 + 1, oc6) ∈ R1 := hs _ (.tail _ (.tail _ (.tail _ (.head _))))
              clear N43
              cases x with
              | none =>
                cases hu
                have hne : ¬ (i0 : Int) = col := fun e => by
                  obtain ⟨t, ht⟩ := law_ends (gs := gs) (p := pl) (k := i0) (by rw [e]; exact hcol)
                  have h0 : i0 < i := htl ▸ (List.getElem?_eq_some_iff.mp hxi).1
                  have h1 := tolds_get (gs := gs) (p := pl) (n := i) (k := i0) h0
                  rw [← htd, hxi, ht] at h1
                  cases h1
                k_steps
                all_goals try exact absurd (show (i0 : Int) = col by assumption) hne
                exact hPZ _ _ _ _ ‹Fr _ _ _ _› ‹News _ _ _ _› (by rw [if_neg hne]; exact .none)
              | some t =>
                cases hu
                k_steps
                · have hic : (i0 : Int) = col := by assumption
                  exact hPZ _ _ _ _ ‹Fr _ _ _ _› ‹News _ _ _ _› (by rw [if_pos hic]; exact .int _ _)
                · have hic : ¬ (i0 : Int) = col := by assumption
                  exact hPZ _ _ _ _ ‹Fr _ _ _ _› ‹News _ _ _ _› (by rw [if_neg hic]; exact .int _ _)
            case e6 =>
              intro acc Du h51 tk51 hac hlDu F51 N51
              replace hac : DatAll [] acc ((dueF col more 0 td).map oD) := hac.dat fun _ _ q => q
              obtain ⟨ku, N51⟩ : ∃ ku, News hB L' h51 ((Du, listOf acc.toArray ku) :: led6 ps b L' o7 oa6 ob6 oc6 od5 oe Z5) := ⟨_, N51⟩
              refine el_EAAA ?_ (show ∃ Z6 : Led, (∀ p ∈ Z5, p ∈ Z6) ∧ (Du, listOf acc.toArray ku) ∈ Z6 ∧ Six b L' Z6 ∧ News hB L' h51 (led6 ps b L' o7 oa6 ob6 oc6 od5 oe Z6) from (mk_EAAA ((Du, listOf acc.toArray ku) :: Z5) (fun p hp => .tail _ hp) (.head _) (Six.app (Z := [_]) (Six.one hlDu) h65) (newsSub N51 (by walk_at "q sub")))); rintro Z6 hZ6 mDu h66 N52
              clear N51 hlDu N43 sb s1 s2 s3 s4 s5 s6
              replace hDg := hZ6 _ hDg
              replace hmp3 := hZ6 _ hmp3
              replace mt4 := hZ6 _ mt4
              replace dt4 := dt4.mono hZ6
              replace hpp3 : All2 (RowIn Z6) us pl := hpp3.mono fun _ _ q => q.mono hZ6
              have hZR6 : ∀ p ∈ R, p ∈ Z6 := fun p hp => hZ6 _ (hZ5 _ (hZ4 _ (hZ3 _ (hZ2 _ (hZR p hp)))))
              have mL6 : (L, oL) ∈ Z6 := hZ6 _ (hZ5 _ (hZ4 _ (hZ3 _ (hZ2 _ hZL))))
              k_steps
              have hW : ∀ p ∈ (b, o7) :: (L' + 1 + 1 + 1 + 1 + 1, oa6) :: (L' + 1 + 1 + 1 + 1, ob6) :: (L' + 1 + 1 + 1, oc6) :: (L' + 1 + 1, od5) :: (L' + 1, oe) :: Z6, p.1 ≠ 509 := neCons hb9 (cells_ne9 hL9' h66.c6)
              have N53 : News hB L' h51 ((509, tabObj ps) :: (b, o7) :: (L' + 1 + 1 + 1 + 1 + 1, oa6) :: (L' + 1 + 1 + 1 + 1, ob6) :: (L' + 1 + 1 + 1, oc6) :: (L' + 1 + 1, od5) :: (L' + 1, oe) :: Z6) := newsSub N52 (by walk_at "q sub")
              clear N52
              refine lam_q (Z0 := R0) ‹Fr _ _ _ _› N53 hW TT C ht (fun p hp => .tail _ (.tail _ (.tail _ (.tail _ (.tail _ (.tail _ (hZR6 p (hR0 p hp)))))))) rfl (by with_unfolding_all rfl) fun f1 c1 oc1 vs1 t1 ctv1 ps1 tl1 h54 tk54 F54 N54 abl1 ltf1 ht1 hmc1 hd1 hv1 => ?_
              clear N53
              k_steps
              refine wider_ct (cov := fun f g => decide (f ≤ col ∧ col ≤ g)) X T (by walk_at "q ok") ‹Fr _ _ _ _› N54 (by k_mem) (hpp3.mono fun _ _ q => q.mono (by walk_at "q up")) (by omega) (fun r hr => by have := hrl r hr; omega) (fun _ h => h) (.head _) ?cov1 fun Dw uw kw tlw h55 tk55 F55 N55 abw hmw hpw => ?_
              case cov1 =>
                intro A2 s2 L2 m2 news2 Q2 E2 f g tf tg ok2 F2 N2 hz ret2
                obtain ⟨ah2, ad2, af2, ag2, au2⟩ := A2
                have hh2 := ok2.handled
                dsimp only at hh2
                subst hh2
                refine wpAny_call ?_
                refine enterL [(Str.ofString "first", .int f tf), (Str.ofString "last", .int g tg)] F2 N2 T (hz _ (.head _)) (codeRec_news N2 (hz _ (show (c1, oc1) ∈ _ from ?mc)) hd1 hv1) ok2.room rfl (locs rfl) rfl rfl rfl (by decide) fun L3 h3' oL3 tk3' F3 N3 nL3 hL3 off3 => ?bd
                case mc =>
                  rcases List.mem_append.mp hmc1 with h | h
                  · exact .tail _ (.tail _ (List.mem_append_left _ h))
                  · exact .tail _ (.tail _ (List.mem_append_right _ (.tail _ (.tail _ (.tail _ (.tail _ (.tail _ (.tail _ (hZR6 _ (hR0 _ h))))))))))
                case bd =>
                  have mco : (L' + 1 + 1 + 1 + 1 + 1, oa6) ∈ news2 := hz _ (.tail _ (.tail _ (List.mem_append_right _ (.tail _ (.head _)))))
                  k_steps
                  all_goals (
                    rename_i hfc
                    (try dsimp only)
                    obtain ⟨F4, N4⟩ := leave0 hL3 nL3 off3 ‹Fr _ _ _ _› ‹News _ _ _ _›
                    have r := ret2 h3' tk3' F4 N4
                    (try dsimp only at r)
                    first
                    | (rw [show decide (f ≤ col ∧ col ≤ g) = decide (col ≤ g) from by simp [hfc]] at r
                       exact r)
                    | (rw [show decide (f ≤ col ∧ col ≤ g) = decide (f ≤ col) from by simp [hfc]] at r
                       exact r))
              have hokW : ∀ (cov : Int → Int → Bool), ∀ r ∈ pl.map (fun r => r.map (widerF more cov)), RowOk i 100000 r := fun cov => rowOk_map (M := 100) (f := widerF more cov) (fun _ => rfl) (fun _ => rfl) (fun c hc => by
                show -100000 ≤ (if cov c.1 c.2.1 = true then c.2.2 + more else c.2.2) ∧ (if cov c.1 c.2.1 = true then c.2.2 + more else c.2.2) ≤ 100000
                split <;> omega) fun r hr => (hplok r hr).2
              have hplW : ∀ (cov : Int → Int → Bool), (pl.map (fun r => r.map (widerF more cov))).length = pl.length := fun cov => List.length_map ..
              k_steps
              refine told_ct (n := i) (gs := gs) X T (by walk_at "q ok") ‹Fr _ _ _ _› ‹News _ _ _ _› (List.mem_append_left _ hmw) (hpw.mono fun _ _ q => q.mono fun p hp => List.mem_append_left _ hp) (by k_mem) hgi hgl2 (by omega) (by rw [hplW]; omega) (hokW _) hgb2 (by omega) (by omega) fun rt tlt h56 tk56 F56 N56 ab56 in56 => ?_
              refine el_EEEAA ?_ (dat_list in56); rintro a56 v56 k56 rfl m56 d56
              clear in56 ab56 N55
              k_steps
              refine ne_told_q N56 (List.mem_append_left _ m56) d56 (fun p hp => List.mem_append_left _ hp) (by k_mem) hac (fun _ h => nomatch h) (by rw [htd]; exact law_due gs i col more hch hcol _ fun f l => decide_eq_true_iff) (by walk_at "q ok") ?_
              refine el_EAAAAAAA ?_ (show ∃ W1 : Led, (∀ p ∈ W1, p.1 ≠ 509) ∧ (L' + 1 + 1 + 1 + 1 + 1, oa6) ∈ W1 ∧ (L' + 1 + 1 + 1 + 1, ob6) ∈ W1 ∧ (L' + 1 + 1 + 1, oc6) ∈ W1 ∧ (∀ p ∈ Z6, p ∈ W1) ∧ (∀ p ∈ tl1, p ∈ W1) ∧ (b, o7) ∈ W1 ∧ News hB L' h56 ((509, tabObj ps1) :: W1) from (mk_EAAAAAAA (tl1 ++ (b, o7) :: (L' + 1 + 1 + 1 + 1 + 1, oa6) :: (L' + 1 + 1 + 1 + 1, ob6) :: (L' + 1 + 1 + 1, oc6) :: (L' + 1 + 1, od5) :: (L' + 1, oe) :: Z6) (neApp (fun p hp => Nat.ne_of_gt (abl1 _ (.head _) p hp)) hW) (List.mem_append_right _ (.tail _ (.head _))) (List.mem_append_right _ (.tail _ (.tail _ (.head _)))) (List.mem_append_right _ (.tail _ (.tail _ (.tail _ (.head _))))) (fun p hp => List.mem_append_right _ (.tail _ (.tail _ (.tail _ (.tail _ (.tail _ (.tail _ hp))))))) (fun p hp => List.mem_append_left _ hp) (List.mem_append_right _ (.head _)) (newsSub N56 fun q hq => List.mem_append_right _ (List.mem_append_right _ (.tail _ hq))))); rintro W1 w9 wa wb wc w6 w1 wbx N57
              clear N56 N54 m56 d56 hac mDu hpw hmw
              replace hDg := w6 _ hDg
              replace hmp3 := w6 _ hmp3
              replace mt4 := w6 _ mt4
              replace dt4 := dt4.mono w6
              replace hpp3 : All2 (RowIn W1) us pl := hpp3.mono fun _ _ q => q.mono w6
              have wR : ∀ p ∈ R, p ∈ W1 := fun p hp => w6 p (hZR6 p hp)
              have wL := w6 _ mL6
              k_steps
              have hgvl := IntsAre.length hgi
              refine comp_enumMapT IntV IntV (fun i0 g => if (i0 : Int) = col + 1 then g + more else g) (furtherF col more) (fun _ => rfl) (fun _ _ _ => rfl) rfl (by omega) ‹Fr _ _ _ _› N57 (.tail _ hDg) (ints_all2 hgi) ?s7 ?e7
              case s7 =>
                rintro i0 x u TT t C1 D acc m' R1 h tk _ hu hT hs ho1 F50 N50 PZ hPZ
                have mco : (L' + 1 + 1 + 1 + 1 + 1, oa6) ∈ R1 := hs _ (.tail _ wa)
                have mmo : (L' + 1 + 1 + 1, oc6) ∈ R1 := hs _ (.tail _ wc)
                obtain ⟨tg, rfl⟩ := hu
                clear N57
                k_steps
                · have hic : (i0 : Int) = col + 1 := by assumption
                  exact hPZ _ _ _ _ ‹Fr _ _ _ _› ‹News _ _ _ _› (by rw [if_pos hic]; exact ⟨_, rfl⟩)
                · have hic : ¬ (i0 : Int) = col + 1 := by assumption
                  exact hPZ _ _ _ _ ‹Fr _ _ _ _› ‹News _ _ _ _› (by rw [if_neg hic]; exact ⟨_, rfl⟩)
              case e7 =>
                intro acc Df h61 tk61 hac hlDf F61 N61
                replace hac : IntsAre acc (furtherF col more 0 gs) := all2_ints (fun _ _ h => h) hac
                clear N57
                obtain ⟨kf, N61⟩ : ∃ kf, News hB L' h61 ((Df, listOf acc.toArray kf) :: (509, tabObj ps1) :: W1) := ⟨_, N61⟩
                have N62 : News hB L' h61 ((509, tabObj ps1) :: (Df, listOf acc.toArray kf) :: W1) := newsSub N61 (by walk_at "q sub")
                have hDf9 : Df ≠ 509 := Nat.ne_of_gt (hlDf _ (.head _))
                clear N61
                k_steps
                refine lam_q (Z0 := tl1 ++ R0) ‹Fr _ _ _ _› N62 (neCons hDf9 w9) TT C ht1 (fun p hp => .tail _ ((List.mem_append.mp hp).elim (w1 p) fun h => wR p (hR0 p h))) rfl (by with_unfolding_all rfl) fun f2 c2 oc2 vs2 t2 ctv2 ps2 tl2 h64 tk64 F64 N64 abl2 ltf2 ht2 hmc2 hd2 hv2 => ?_
                clear N62
                k_steps
                refine wider_ct (cov := fun f g => decide (f ≤ col ∧ col < g)) X T (by walk_at "q ok") ‹Fr _ _ _ _› N64 (.tail _ (.tail _ (List.mem_append_right _ (.tail _ hmp3)))) (hpp3.mono fun _ _ q => q.mono fun p hp => .tail _ (.tail _ (List.mem_append_right _ (.tail _ hp)))) (by omega) (fun r hr => by have := hrl r hr; omega) (fun _ h => h) (.head _) ?cov2 fun Dw uw kw tlw h65 tk65 F65 N65 abw hmw hpw => ?_
                case cov2 =>
                  intro A2 s2 L2 m2 news2 Q2 E2 f g tf tg ok2 F2 N2 hz ret2
                  obtain ⟨ah2, ad2, af2, ag2, au2⟩ := A2
                  have hh2 := ok2.handled
                  dsimp only at hh2
                  subst hh2
                  refine wpAny_call ?_
                  refine enterL [(Str.ofString "first", .int f tf), (Str.ofString "last", .int g tg)] F2 N2 T (hz _ (.head _)) (codeRec_news N2 (hz _ (show (c2, oc2) ∈ _ from ?mc)) hd2 hv2) ok2.room rfl (locs rfl) rfl rfl rfl (by decide) fun L3 h3' oL3 tk3' F3 N3 nL3 hL3 off3 => ?bd
                  case mc =>
                    rcases List.mem_append.mp hmc2 with h | h
                    · exact .tail _ (.tail _ (List.mem_append_left _ h))
                    · exact .tail _ (.tail _ (List.mem_append_right _ (.tail _ ((List.mem_append.mp h).elim (w1 _) fun h => wR _ (hR0 _ h)))))
                  case bd =>
                    have mco : (L' + 1 + 1 + 1 + 1 + 1, oa6) ∈ news2 := hz _ (.tail _ (.tail _ (List.mem_append_right _ (.tail _ wa))))
                    k_steps
                    all_goals (
                      rename_i hfc
                      (try dsimp only)
                      obtain ⟨F4, N4⟩ := leave0 hL3 nL3 off3 ‹Fr _ _ _ _› ‹News _ _ _ _›
                      have r := ret2 h3' tk3' F4 N4
                      (try dsimp only at r)
                      first
                      | (rw [show decide (f ≤ col ∧ col < g) = decide (col < g) from by simp [hfc]] at r
                         exact r)
                      | (rw [show decide (f ≤ col ∧ col < g) = decide (f ≤ col) from by simp [hfc]] at r
                         exact r))
                have hfl : (furtherF col more 0 gs).length = i + 1 := by rw [furtherF_len]; exact hgl2
                have hfb : ∀ g ∈ furtherF col more 0 gs, -100000 ≤ g ∧ g ≤ 100000 := fun x hx => by
                  refine el_EA ?_ (furtherF_mem hx); rintro g h1 h2
                  have := hgb g h1
                  omega
                k_steps
                refine told_ct (n := i) (gs := furtherF col more 0 gs) X T (by walk_at "q ok") ‹Fr _ _ _ _› ‹News _ _ _ _› (List.mem_append_left _ hmw) (hpw.mono fun _ _ q => q.mono fun p hp => List.mem_append_left _ hp) (List.mem_append_right _ (.tail _ (.tail _ (List.mem_append_right _ (.head _))))) hac hfl (by omega) (by rw [hplW]; omega) (hokW _) hfb (by omega) (by omega) fun rt tlt h66 tk66 F66 N66 ab66 in66 => ?_
                refine el_EEEAA ?_ (dat_list in66); rintro a66 v66 k66 rfl m66 d66
                clear in66 ab66 N65
                k_steps
                refine ne_told_q N66 (List.mem_append_left _ m66) d66 (fun p hp => List.mem_append_left _ hp) (List.mem_append_right _ (List.mem_append_right _ (.tail _ (.tail _ (List.mem_append_right _ (.tail _ mt4)))))) dt4 (fun p hp => List.mem_append_right _ (List.mem_append_right _ (.tail _ (.tail _ (List.mem_append_right _ (.tail _ hp)))))) (by rw [htd]; exact law_further hgl2 col more hch hcol _ fun f l => decide_eq_true_iff) (by walk_at "q ok") ?_
                refine el_EAAA ?_ (show ∃ W2 : Led, (∀ p ∈ W2, p.1 ≠ 509) ∧ (∀ p ∈ W1, p ∈ W2) ∧ (∀ p ∈ tl2, p ∈ W2) ∧ News hB L' h66 ((509, tabObj ps2) :: W2) from (mk_EAAA (tl2 ++ W1) (neApp (fun p hp => Nat.ne_of_gt (abl2 _ (.head _) p hp)) w9) (fun p hp => List.mem_append_right _ hp) (fun p hp => List.mem_append_left _ hp) (newsSub N66 fun q hq => List.mem_append_right _ (List.mem_append_right _ (.tail _ ((List.mem_cons.mp hq).elim (fun h => h ▸ List.mem_cons_self ..) fun h => .tail _ ((List.mem_append.mp h).elim (fun h => List.mem_append_left _ h) fun h => List.mem_append_right _ (.tail _ h)))))))); rintro W2 x9 x1 x2 N67
                clear N66 N64 m66 d66 hac hpw hmw
                replace hDg := x1 _ hDg
                replace hmp3 := x1 _ hmp3
                replace mt4 := x1 _ mt4
                replace dt4 := dt4.mono x1
                replace hpp3 : All2 (RowIn W2) us pl := hpp3.mono fun _ _ q => q.mono x1
                have xb := x1 _ wb
                have xL := x1 _ wL
                have xR : ∀ p ∈ R, p ∈ W2 := fun p hp => x1 p (wR p hp)
                have xl1 : ∀ p ∈ tl1, p ∈ W2 := fun p hp => x1 p (w1 p hp)
                k_steps
                refine comp_mapT (RowIn W2) RowIn (fun r => r.map (timesF many)) (fun _ _ _ _ h q => q.mono h) rfl (by have := hpp3.len; omega) ‹Fr _ _ _ _› N67 (.tail _ hmp3) hpp3 ?t8 ?d8
                case t8 =>
                  rintro y v C D acc m1 R1 h2 tk2 hym hu hs ho F2 N2 PZ hPZ
                  refine el_EEEAA ?_ hu; rintro lr vr kr rfl mr hr
                  have hyl := hrl y hym
                  have upn : ∀ p ∈ W2, p ∈ R1 := fun p hp => hs p (.tail _ hp)
                  have mb6 := upn _ xb
                  clear N67
                  k_steps
                  refine comp_mapT (Z := (D, listOf acc.toArray acc.length) :: R1) (CelIn W2) CelIn (timesF many) (fun _ _ _ _ h q => q.mono h) rfl (by have := hr.len; omega) ‹Fr _ _ _ _› ‹News _ _ _ _› (.tail _ (upn _ mr)) hr ?t9 ?d9
                  case t9 =>
                    rintro cc v C2 D2 acc2 m2 R2 h3 tk3 _ hu2 hs2 ho2 F3 N3 PZ hPZ
                    obtain ⟨f, g, sz⟩ := cc
                    refine el_EEEEEA ?_ hu2; rintro x t1 t2 t3 n9 rfl mx
                    have up2 : ∀ p ∈ R1, p ∈ R2 := fun p hp => hs2 p (.tail _ hp)
                    replace mx := up2 _ (upn _ mx)
                    have mb2 := up2 _ mb6
                    dsimp only at mx
                    clear F2 N2
                    k_steps
                    rename_i d9 h9 F9 N9 d9q
                    exact hPZ [_] _ _ _ _ F9 N9 (Abv.cons (ltCons d9q.1 d9q.2) Abv.nil) (mk_EEEEEA _ _ _ _ _ rfl (.head _))
                  case d9 =>
                    intro acc2 D2 T2 h3 tk3 hT2 ab2 hlD2 hTD2 F3 N3
                    k_steps
                    exact hPZ ((D2, listOf acc2.toArray acc2.length) :: T2) _ _ _ _ F3 N3 (Abv.cons hlD2 ab2) (mk_EEEAA D2 acc2 _ rfl (.head _) (hT2.mono fun _ _ q => q.mono fun p hp => .tail _ hp))
                case d8 =>
                  intro acc Dl T1 h71 tk71 hT ab hlDl hTD F71 N71
                  replace N71 : News hB L' h71 ((Dl, listOf acc.toArray acc.length) :: (T1 ++ (509, tabObj ps2) :: W2)) := N71
                  refine el_EEAAAA ?_ (show ∃ (W3 : Led) (kl : Nat), (∀ p ∈ W3, p.1 ≠ 509) ∧ (∀ p ∈ W2, p ∈ W3) ∧ (Dl, listOf acc.toArray kl) ∈ W3 ∧ All2 (RowIn W3) acc (pl.map fun r => r.map (timesF many)) ∧ News hB L' h71 ((509, tabObj ps2) :: W3) from (mk_EEAAAA ((Dl, listOf acc.toArray _) :: (T1 ++ W2)) _ (neCons (Nat.ne_of_gt (hlDl _ (.head _))) (neApp (fun p hp => Nat.ne_of_gt (ab _ (.head _) p hp)) x9)) (fun p hp => .tail _ (List.mem_append_right _ hp)) (.head _) (hT.mono fun _ _ q => q.mono fun p hp => .tail _ (List.mem_append_left _ hp)) (newsSub N71 fun q hq => by
                        rcases List.mem_cons.mp hq with rfl | h
                        · exact .tail _ (List.mem_append_right _ (.head _))
                        · rcases List.mem_cons.mp h with rfl | h
                          · exact .head _
                          · exact .tail _ ((List.mem_append.mp h).elim (fun h => List.mem_append_left _ h) fun h => List.mem_append_right _ (.tail _ h))))); rintro W3 kl y9 y2 yl yT N72
                  clear N71 N67 ab hlDl hTD hT
                  replace hDg := y2 _ hDg
                  replace hmp3 := y2 _ hmp3
                  replace mt4 := y2 _ mt4
                  replace dt4 := dt4.mono y2
                  replace hpp3 : All2 (RowIn W3) us pl := hpp3.mono fun _ _ q => q.mono y2
                  have yb := y2 _ xb
                  have yL := y2 _ xL
                  have yR : ∀ p ∈ R, p ∈ W3 := fun p hp => y2 p (xR p hp)
                  have yl1 : ∀ p ∈ tl1, p ∈ W3 := fun p hp => y2 p (xl1 p hp)
                  have yl2 : ∀ p ∈ tl2, p ∈ W3 := fun p hp => y2 p (x2 p hp)
                  k_steps
                  refine comp_mapT0 IntV IntV (many * ·) rfl (by omega) ‹Fr _ _ _ _› N72 (.tail _ hDg) (ints_all2 hgi) ?s10 ?e10
                  case s10 =>
                    rintro x v C D acc2 m' R1 h tk _ hu hs ho1 F80 N80 PZ hPZ
                    have mb6 : (L' + 1 + 1 + 1 + 1, ob6) ∈ R1 := hs _ (.tail _ yb)
                    obtain ⟨tg, rfl⟩ := hu
                    clear N72
                    k_steps
                    exact hPZ _ _ _ _ ‹Fr _ _ _ _› ‹News _ _ _ _› ⟨_, rfl⟩
                  case e10 =>
                    intro acc2 Dn h73 tk73 hac hlDn F73 N73
                    replace hac : IntsAre acc2 (gs.map (many * ·)) := all2_ints (fun _ _ h => h) hac
                    obtain ⟨kn, N73⟩ : ∃ kn, News hB L' h73 ((Dn, listOf acc2.toArray kn) :: (509, tabObj ps2) :: W3) := ⟨_, N73⟩
                    clear N72
                    have hokT : ∀ r ∈ pl.map (fun r => r.map (timesF many)), RowOk i 100000 r := rowOk_map (M := 100) (f := timesF many) (fun _ => rfl) (fun _ => rfl) (fun c hc => by
                      show -100000 ≤ many * c.2.2 ∧ many * c.2.2 ≤ 100000
                      have h1 : many * (c.2.2 + 100) ≤ 6 * (c.2.2 + 100) := Int.mul_le_mul_of_nonneg_right hmany.2 (by omega)
                      have h2 : 0 ≤ many * (c.2.2 + 100) := Int.mul_nonneg (by omega) (by omega)
                      have h3 := Int.mul_add many c.2.2 100
                      omega) fun r hr => (hplok r hr).2
                    have hgT : ∀ g ∈ gs.map (many * ·), -100000 ≤ g ∧ g ≤ 100000 := fun x hx => by
                      refine el_EA ?_ (List.mem_map.mp hx); rintro g h0 rfl
                      have hg := hgb g h0
                      show -100000 ≤ many * g ∧ many * g ≤ 100000
                      have h1 : many * (g + 100) ≤ 6 * (g + 100) := Int.mul_le_mul_of_nonneg_right hmany.2 (by omega)
                      have h2 : 0 ≤ many * (g + 100) := Int.mul_nonneg (by omega) (by omega)
                      have h3 := Int.mul_add many g 100
                      omega
                    k_steps
                    refine told_ct (n := i) (gs := gs.map (many * ·)) X T (by walk_at "q ok") ‹Fr _ _ _ _› N73 (.tail _ (.tail _ yl)) (yT.mono fun _ _ q => q.mono fun p hp => .tail _ (.tail _ hp)) (.head _) hac (by rw [List.length_map]; exact hgl2) (by omega) (by rw [List.length_map]; omega) hokT hgT (by omega) (by omega) fun rt tlt h74 tk74 F74 N74 ab74 in74 => ?_
                    refine el_EEEAA ?_ (dat_list in74); rintro a74 v74 k74 rfl m74 d74
                    clear in74 ab74
                    have N75 : News hB L' h74 ((509, tabObj ps2) :: (tlt ++ W3)) := newsSub N74 fun q hq => (List.mem_cons.mp hq).elim (fun h => List.mem_append_right _ (.tail _ (h ▸ List.mem_cons_self ..))) fun h => (List.mem_append.mp h).elim (fun h => List.mem_append_left _ h) fun h => List.mem_append_right _ (.tail _ (.tail _ h))
                    clear N74 N73
                    have z9 : (a74, listOf v74.toArray k74) ∈ tlt ++ W3 := List.mem_append_left _ m74
                    have zt : ∀ p ∈ tlt, p ∈ tlt ++ W3 := fun p hp => List.mem_append_left _ hp
                    have z3 : ∀ p ∈ W3, p ∈ tlt ++ W3 := fun p hp => List.mem_append_right _ hp
                    generalize tlt ++ W3 = W4 at N75 z9 zt z3
                    k_steps
                    refine comp_mapT0 (fun v x => DatIn W3 v (oD x)) (fun v x => DatIn [] v (oD x)) (fun x => x.map (many * ·)) rfl (by omega) ‹Fr _ _ _ _› N75 (.tail _ (z3 _ mt4)) (datAll_all2 dt4) ?s11 ?e11
                    case s11 =>
                      rintro x v C D acc3 m' R1 h tk _ hu hs ho1 F81 N81 PZ hPZ
                      have mb6 : (L' + 1 + 1 + 1 + 1, ob6) ∈ R1 := hs _ (.tail _ (z3 _ yb))
                      clear N75
                      cases x with
                      | none =>
                        cases hu
                        k_steps
                        exact hPZ _ _ _ _ ‹Fr _ _ _ _› ‹News _ _ _ _› .none
                      | some t =>
                        cases hu
                        k_steps
                        exact hPZ _ _ _ _ ‹Fr _ _ _ _› ‹News _ _ _ _› (.int _ _)
                    case e11 =>
                      intro acc3 De2 h76 tk76 hac3 hlDe F76 N76
                      replace hac3 : DatAll [] acc3 ((td.map fun x => x.map (many * ·)).map oD) := hac3.dat fun _ _ q => q
                      clear N75
                      obtain ⟨kq, N76⟩ : ∃ kq, News hB L' h76 ((De2, listOf acc3.toArray kq) :: (509, tabObj ps2) :: W4) := ⟨_, N76⟩
                      k_steps
                      refine ne_told_q N76 (.tail _ (.tail _ z9)) d74 (fun p hp => .tail _ (.tail _ (zt p hp))) (.head _) hac3 (fun _ h => nomatch h) (by rw [htd]; exact law_times (by omega) hch) (by walk_at "q ok") ?_
                      have N79 : News hB L' h76 ((509, tabObj ps2) :: W3) := newsSub N76 fun q hq => .tail _ ((List.mem_cons.mp hq).elim (fun h => h ▸ List.mem_cons_self ..) fun h => .tail _ (z3 q h))
                      clear N76 z9 zt z3 d74 m74 hac hac3
                      k_steps
                      rename_i e12 _ F82 N82 _
                      obtain ⟨t5, N82⟩ : ∃ t5, News hB L' _ ((e12, listOf [Value.int 5 t5].toArray 0) :: (509, tabObj ps2) :: W3) := ⟨_, N82⟩
                      refine kmk_add_lit (its := gv.toArray) (its2 := [Value.int 5 t5].toArray) (zs := gv ++ [Value.int 5 t5]) F82 N82 (mk_EAAE _ ((N82 _ (show (Dg, listOf gv.toArray kg) ∈ _ from .tail _ (.tail _ hDg))).1) rfl _ rfl) (mk_EAAE _ ((N82 _ (.head _)).1) rfl _ rfl) (by rw [List.toList_toArray, List.toList_toArray]) (fun Dq h91 F91 N91 lq => ?_) (by
                        have h2 : sizeLine = 16777216 := rfl
                        rw [List.toList_toArray, List.toList_toArray, List.length_singleton]; omega)
                      clear N82 N79
                      k_steps
                      refine told_ct (n := i + 1) (gs := gs ++ [5]) X T (by walk_at "q ok") ‹Fr _ _ _ _› N91 (.tail _ (.tail _ (.tail _ hmp3))) (hpp3.mono fun _ _ q => q.mono fun p hp => .tail _ (.tail _ (.tail _ hp))) (.head _) (IntsAre.append hgi (.cons _ _ .nil)) (by rw [List.length_append, List.length_singleton, hgl2]) (by omega) (by omega) (fun r hr => let ⟨⟨j, h1, h2⟩, h3⟩ := hplok2 r hr; ⟨(mk_EA j (by omega) h2), h3⟩) (fun g hg => by
                        rcases List.mem_append.mp hg with hg | hg
                        · exact hgb2 g hg
                        · rw [List.mem_singleton.mp hg]; omega) (by omega) (by omega) fun rt tlt h92 tk92 F92 N92 ab92 in92 => ?_
                      refine el_EEEAA ?_ (dat_list in92); rintro a92 v92 k92 rfl m92 d92
                      clear in92 ab92 N91
                      have N93 : News hB L' h92 (tlt ++ (509, tabObj ps2) :: W3) := newsSub N92 fun q hq => (List.mem_append.mp hq).elim (fun h => List.mem_append_left _ h) fun h => List.mem_append_right _ (.tail _ (.tail _ h))
                      clear N92
                      k_steps
                      rename_i e13 _ F94 N94 _
                      have htv3 : tv.length ≤ 4 := by omega
                      refine kmk_add_lit (its := tv.toArray) (its2 := [Value.none].toArray) (zs := tv ++ [Value.none]) F94 N94 (mk_EAAE _ ((N94 _ (show (at0, listOf tv.toArray kt) ∈ _ from .tail _ (List.mem_append_right _ (.tail _ mt4)))).1) rfl _ rfl) (mk_EAAE _ ((N94 _ (show (e13, listOf [Value.none].toArray 0) ∈ _ from .head _)).1) rfl _ rfl) (by rw [List.toList_toArray, List.toList_toArray]) (fun Ds h95 F95 N95 ls => ?_) (by
                        have h2 : sizeLine = 16777216 := rfl
                        rw [List.toList_toArray, List.toList_toArray, List.length_singleton]; omega)
                      clear N94 N93
                      k_steps
                      refine eq_told_q (td := tolds (gs ++ [5]) pl (i + 1)) (td' := td ++ [none]) N95 (.tail _ (.tail _ (List.mem_append_left _ m92))) d92 (fun p hp => .tail _ (.tail _ (List.mem_append_left _ hp))) (.head _) (n₂ := W3) (by rw [List.map_append]; exact dt4.append (.cons .none .nil)) (fun p hp => .tail _ (.tail _ (List.mem_append_right _ (.tail _ hp)))) (by rw [htd]; exact law_extra 5 hgl2 fun r hr => let ⟨⟨j, h1, h2⟩, h3⟩ := hplok2 r hr; (mk_EA j h1 h2)) (by walk_at "q ok") ?_
                      k_steps
                      try dsimp only
                      have N96 : News hB L' h95 ((509, tabObj ps2) :: W3) := newsSub N95 fun q hq => .tail _ (.tail _ (List.mem_append_right _ hq))
                      refine leaveR (news := (509, tabObj ps2) :: ((tl2 ++ tl1) ++ R)) [] hL nL ‹Fr _ _ _ _› N96 (.tail _ yL) (fun q hq => ?_) (fun q hq => ?_) (fun F2 N2 => ?_)
                      · rw [List.nil_append] at hq
                        rcases List.mem_cons.mp hq with rfl | h
                        · exact .head _
                        · exact .tail _ ((List.mem_append.mp h).elim (fun h => (List.mem_append.mp h).elim (yl2 q) (yl1 q)) (yR q))
                      · rw [List.nil_append] at hq
                        rcases List.mem_cons.mp hq with rfl | h
                        · exact Nat.ne_of_lt hL9
                        · rcases List.mem_append.mp h with h | h
                          · rcases List.mem_append.mp h with h | h
                            · exact Nat.ne_of_gt (abl2 _ (.tail _ (.tail _ wL)) q h)
                            · exact Nat.ne_of_gt (abl1 _ (.tail _ (.tail _ (.tail _ (.tail _ (.tail _ (.tail _ (.tail _ mL6))))))) q h)
                          · exact off _ (.tail _ (.tail _ h))
                      · exact ret ps2 (tl2 ++ tl1) _ _ F2 N2 (Abv.app (fun q hq p hp => (List.mem_cons.mp hq).elim (fun h => by rw [h]; exact abl2 _ (.head _) p hp) fun h => abl2 q (.tail _ (.tail _ (wR q h))) p hp) fun q hq p hp => (List.mem_cons.mp hq).elim (fun h => by rw [h]; exact abl1 _ (.head _) p hp) fun h => abl1 q (.tail _ (.tail _ (.tail _ (.tail _ (.tail _ (.tail _ (.tail _ (hZR6 q h)))))))) p hp) (by rw [List.append_assoc]; exact ht2)

end
theorem reads_ints9 {h : Heap} : ∀ {vs : List Value} {ns : List Int}, IntsAre vs ns → ∃ as, ReadsAll h vs (ns.map PyData.int) as
  | _, _, .nil => ⟨_, ReadsAll.nil⟩
  | _, _, .cons n t r => let ⟨_, q⟩ := reads_ints9 (h := h) r; ⟨_, ReadsAll.cons (Reads.int n t) q⟩
theorem lay_ints9 : ∀ ns : List Int, PyData.canLayAll0 (ns.map PyData.int) = true ∧ PyData.depthAll (ns.map PyData.int) = 0
  | [] => ⟨rfl, rfl⟩
  | b :: r => by
    have := lay_ints9 r
    simp only [List.map_cons, PyData.canLayAll0, PyData.canLay0, PyData.depthAll, PyData.depth, this.1, this.2, Bool.and_self, true_and]
    rfl
theorem shaped_ints9 (ns : List Int) : SeqAt.shaped (.list (ns.map PyData.int)) = true := by
  have hl := lay_ints9 ns
  unfold SeqAt.shaped
  simp only [PyData.canLay0, PyData.depth, hl.1, hl.2, Bool.true_and]
  exact decide_eq_true (by decide)
theorem ne_ints_nil {l b : Addr} {vs : List Value} {ns : List Int} {nb : Nat} (hl : s.heap.IsList l vs.toArray) (hi : IntsAre vs ns) (N : News hB L s.heap news) (mb : (b, listOf [].toArray nb) ∈ news) (hu : A.units + 64 < cLine)
    (h : Q (.bool (!ns.isEmpty)) s) : wpAny (model prog w) A (compareOp .NotEq (.ref l) (.ref b)) Q E s := by
  obtain ⟨as, ra⟩ := reads_ints9 (h := s.heap) hi
  obtain ⟨o, ho, hc, k, hd⟩ := hl
  refine ne_dataH (reads_list_at ho hc hd (by simpa using ra)) (reads_list_at (N.get mb) rfl rfl ReadsAll.nil) (shaped_ints9 ns) (shaped_ints9 []) hu ?_
  have e : (!PyData.eqv (.list (ns.map PyData.int)) (.list [])) = !ns.isEmpty := by cases ns <;> rfl
  rw [e]; exact h
theorem nameIt {h : Heap} {l : Addr} {vs : List Value} {ns : List Int} {G : Prop} (_h : h.IsList l vs.toArray) (_i : IntsAre vs ns) (k : ∀ l0 vs0 ns0, l0 = l → vs0 = vs → ns0 = ns → G) : G := k l vs ns rfl rfl rfl
local macro_rules | `(tactic| walk_at "pyIter ref") => `(tactic| (k_here; refine of_hold ?_))
def CellsP (hB : Heap) (L : Addr) (m : Str → Option Value) (s : Shared) (v : Value) (s₂ : Shared) : Prop :=
  ∃ (D : Addr) (ws : List Value) (ys : List Int) (h : Heap) (tk : Nat), v = .ref D ∧ s₂ = { s with heap := h, toks := tk } ∧ Fr hB L h m ∧ News hB L h [(D, listOf ws.toArray 0), (509, tabObj #[])] ∧ IntsAre ws ys ∧ D ≠ 509
theorem CellsP.of {D : Addr} {ws : List Value} {ys : List Int} {h : Heap} {tk : Nat} {led : Led} (F : Fr hB L h m) (N : News hB L h led) (h1 : (D, listOf ws.toArray 0) ∈ led) (h2 : (509, tabObj #[]) ∈ led) (hi : IntsAre ws ys) (h9 : D ≠ 509) :
    CellsP hB L m s (.ref D) { s with heap := h, toks := tk } :=
  ⟨D, ws, ys, h, tk, rfl, rfl, F, newsSub N (subCons h1 (subCons h2 fun _ h => nomatch h)), hi, h9⟩
theorem useCells {M : Model} {x : Sem Value} {Q : Value → Shared → Prop} (F : Fr hB L s.heap m) (h1 : wpAny M A x (CellsP hB L m s) (fun _ _ => False) s) (h2 : ∀ v s₂, CellsP hB L m s v s₂ → Q v s₂) : wpAny M A x Q (fun _ _ => False) s := wpAny_mono h1 h2 fun _ _ h => h
local macro_rules | `(tactic| walk_at "eval IfExp") => `(tactic| (k_here; refine of_hold ?_))
def finAs : List Addr := [2, 3, 15, 17, 18, 20, 21, 22, 29, 30, 32, 33, 35, 36, 37, 38, 39, 40, 43, 50, 51, 52, 55, 62, 63, 64, 67, 74, 75, 76, 79, 86, 87, 88, 95, 97, 98, 100, 101, 102, 104, 105, 107, 108, 109, 111, 112, 114, 115, 116, 118, 119, 121, 122, 123, 125, 126, 128, 129, 130, 132, 133, 135, 136, 137, 139, 140, 142, 143, 144, 146, 147, 149, 150, 151, 153, 154, 156, 157, 158, 160, 161, 163, 164, 172, 173, 175, 176, 178, 179, 180, 182, 183, 185, 186, 187, 189, 190, 192, 193, 194, 196, 197, 199, 200, 201, 203, 204, 206, 207, 208, 210, 211, 213, 214, 215, 217, 218, 220, 221, 222, 223, 225, 226, 228, 229, 230, 231, 232, 233, 234, 244, 246, 247, 249, 250, 251, 253, 254, 256, 257, 258, 260, 261, 263, 264, 265, 267, 268, 270, 271, 272, 274, 275, 277, 278, 279, 281, 282, 284, 285, 286, 287, 288, 289, 290, 316, 318, 319, 321, 322, 323, 324, 325, 326, 327, 337, 339, 340, 342, 343, 344, 345, 346, 347, 348, 358, 360, 361, 363, 364, 365, 366, 367, 368, 369, 379, 380, 382, 383, 385, 386, 387, 388, 389, 390, 391, 394, 396, 397, 399, 400, 401, 404, 405, 406, 408, 409, 411, 412, 413, 414, 417, 418, 419, 420, 423, 424, 425, 427, 428, 430, 431, 432, 434, 435, 437, 438, 439, 441, 442, 444, 445, 446, 449, 450, 451, 453, 454, 456, 457, 458, 460, 461, 463, 464, 465, 467, 468, 470, 471, 472, 474, 475, 477, 478, 479, 482, 483, 484, 487, 488, 489, 492, 493, 494, 496, 497, 499, 500, 501, 503, 504, 506, 507, 508, 511, 512, 513, 515, 516, 518, 519]
theorem fin.tw10007411396671696613 : True := trivial
theorem fin.tw10070804522480449196 : True := trivial
theorem fin.tw10098057777631523497 : True := trivial
theorem fin.tw10147658903529517814 : True := trivial
theorem fin.tw10196768644732416780 : True := trivial
theorem fin.tw10234915967203826555 : True := trivial
theorem fin.tw10242451874928486539 : True := trivial
theorem fin.tw10279692637995926009 : True := trivial
theorem fin.tw10383673109516279431 : True := trivial
theorem fin.tw10391319463526535247 : True := trivial
theorem fin.tw10429149229420230397 : True := trivial
theorem fin.tw10580198807604790814 : True := trivial
theorem fin.tw10599938827571368224 : True := trivial
theorem fin.tw10671828304227620169 : True := trivial
theorem fin.tw10699407837109476802 : True := trivial
theorem fin.tw10708223146118651492 : True := trivial
theorem fin.tw10751089155417173751 : True := trivial
theorem fin.tw10782327089294195420 : True := trivial
theorem fin.tw1080700006314346644 : True := trivial
theorem fin.tw10807920368746810246 : True := trivial
theorem fin.tw10818889477481085253 : True := trivial
theorem fin.tw10829458402184033698 : True := trivial
theorem fin.tw10852849658779182186 : True := trivial
theorem fin.tw10874316729293906858 : True := trivial
theorem fin.tw1088692219920020602 : True := trivial
theorem fin.tw10891054232620793217 : True := trivial
theorem fin.tw10895054467252067526 : True := trivial
theorem fin.tw10907057394859099429 : True := trivial
theorem fin.tw10907391636593693970 : True := trivial
theorem fin.tw10925335251469727208 : True := trivial
theorem fin.tw10936777179133785780 : True := trivial
theorem fin.tw10939691994893167182 : True := trivial
theorem fin.tw11040825799340251285 : True := trivial
theorem fin.tw1105837973531982728 : True := trivial
theorem fin.tw11061592194353771069 : True := trivial
theorem fin.tw11079828417688620724 : True := trivial
theorem fin.tw11112386831996348380 : True := trivial
theorem fin.tw111200028466390044 : True := trivial
theorem fin.tw11151619158091525091 : True := trivial
theorem fin.tw11192643925408225281 : True := trivial
theorem fin.tw11209750170652599755 : True := trivial
theorem fin.tw11273041486466551846 : True := trivial
theorem fin.tw11277574374343807151 : True := trivial
theorem fin.tw1128348596072947701 : True := trivial
theorem fin.tw11293339424137598113 : True := trivial
theorem fin.tw11298980531735778240 : True := trivial
theorem fin.tw11336253725339858928 : True := trivial
theorem fin.tw11414674201277728305 : True := trivial
theorem fin.tw11454252539852477091 : True := trivial
theorem fin.tw11575174756993882273 : True := trivial
theorem fin.tw11587955951900863698 : True := trivial
theorem fin.tw11615019562542576733 : True := trivial
theorem fin.tw11936995450923721628 : True := trivial
theorem fin.tw11953781441336167498 : True := trivial
theorem fin.tw1202912048536075021 : True := trivial
theorem fin.tw12118000046449163591 : True := trivial
theorem fin.tw12135189313929291683 : True := trivial
theorem fin.tw12141802397888321627 : True := trivial
theorem fin.tw12212933522069011988 : True := trivial
theorem fin.tw12221555665107904926 : True := trivial
theorem fin.tw12284014389350100970 : True := trivial
theorem fin.tw12291753297600562012 : True := trivial
theorem fin.tw12292906935544458286 : True := trivial
theorem fin.tw12355744275394475900 : True := trivial
theorem fin.tw12356021495744459628 : True := trivial
theorem fin.tw12409915417874342407 : True := trivial
theorem fin.tw12480679962508375977 : True := trivial
theorem fin.tw1249118550022496774 : True := trivial
theorem fin.tw12494888245299231016 : True := trivial
theorem fin.tw1252854909445205041 : True := trivial
theorem fin.tw12550770813317053977 : True := trivial
theorem fin.tw12557769604369416430 : True := trivial
theorem fin.tw12567809125941998234 : True := trivial
theorem fin.tw12612204703400128841 : True := trivial
theorem fin.tw12629903358213643309 : True := trivial
theorem fin.tw12649782002744950493 : True := trivial
theorem fin.tw12669758225909598566 : True := trivial
theorem fin.tw12696600883282566439 : True := trivial
theorem fin.tw12718612220689870738 : True := trivial
theorem fin.tw12740692763255036000 : True := trivial
theorem fin.tw12780881840741157306 : True := trivial
theorem fin.tw12803619828955415952 : True := trivial
theorem fin.tw12809788781938459499 : True := trivial
theorem fin.tw12829507556594621215 : True := trivial
theorem fin.tw12833947400113492166 : True := trivial
theorem fin.tw12847644182280273618 : True := trivial
theorem fin.tw12868640280835112553 : True := trivial
theorem fin.tw12869217540446652890 : True := trivial
theorem fin.tw12876064707754696378 : True := trivial
theorem fin.tw12876116671307685997 : True := trivial
theorem fin.tw12932903420030652473 : True := trivial
theorem fin.tw12962497063298326498 : True := trivial
theorem fin.tw12996517811204074000 : True := trivial
theorem fin.tw13021059552284102479 : True := trivial
theorem fin.tw1306319669024162852 : True := trivial
theorem fin.tw13066358836101814915 : True := trivial
theorem fin.tw13158425560686309300 : True := trivial
theorem fin.tw13162651487661262736 : True := trivial
theorem fin.tw13177410634674063896 : True := trivial
theorem fin.tw13295704053362595847 : True := trivial
theorem fin.tw13326868189938593150 : True := trivial
theorem fin.tw13337293482115323266 : True := trivial
theorem fin.tw13360279666012451719 : True := trivial
theorem fin.tw13364244924374117066 : True := trivial
theorem fin.tw13383306551100868464 : True := trivial
theorem fin.tw13423622936843584764 : True := trivial
theorem fin.tw13574545013463194659 : True := trivial
theorem fin.tw13700621096757390547 : True := trivial
theorem fin.tw13724452099449386491 : True := trivial
theorem fin.tw13790858721211988464 : True := trivial
theorem fin.tw13815853411582834384 : True := trivial
theorem fin.tw13870153662132920491 : True := trivial
theorem fin.tw13925877587632400325 : True := trivial
theorem fin.tw13929302177132474383 : True := trivial
theorem fin.tw1397303283331804279 : True := trivial
theorem fin.tw14075178694198228753 : True := trivial
theorem fin.tw14109310954907245088 : True := trivial
theorem fin.tw14111491100615862519 : True := trivial
theorem fin.tw14134379338385194387 : True := trivial
theorem fin.tw14139026862911339306 : True := trivial
theorem fin.tw14166196953294261902 : True := trivial
theorem fin.tw14210890002308233579 : True := trivial
theorem fin.tw1422313219903470601 : True := trivial
theorem fin.tw14239432107786713131 : True := trivial
theorem fin.tw14279960228734115912 : True := trivial
theorem fin.tw14333544728242365436 : True := trivial
theorem fin.tw14345562132136545540 : True := trivial
theorem fin.tw14431720936831517352 : True := trivial
theorem fin.tw1450881378762983150 : True := trivial
theorem fin.tw14517287926952318261 : True := trivial
theorem fin.tw14541005305830221311 : True := trivial
theorem fin.tw14560573928864763818 : True := trivial
theorem fin.tw14568449535678555946 : True := trivial
theorem fin.tw14786503066443513839 : True := trivial
theorem fin.tw14793013804824869981 : True := trivial
theorem fin.tw14814673180317915700 : True := trivial
theorem fin.tw14838103818555229697 : True := trivial
theorem fin.tw14856888987745899463 : True := trivial
theorem fin.tw15094949803261831281 : True := trivial
theorem fin.tw15144710454662140524 : True := trivial
theorem fin.tw15149952090015108872 : True := trivial
theorem fin.tw15201286185872193147 : True := trivial
theorem fin.tw15205425988870721313 : True := trivial
theorem fin.tw15225332579556243176 : True := trivial
theorem fin.tw15234240111613058569 : True := trivial
theorem fin.tw15344004072050561172 : True := trivial
theorem fin.tw1535588207084551279 : True := trivial
theorem fin.tw15369051711259467746 : True := trivial
theorem fin.tw15373703851562958014 : True := trivial
theorem fin.tw1544503264643628384 : True := trivial
theorem fin.tw1545086475593560577 : True := trivial
theorem fin.tw15459455144867644326 : True := trivial
theorem fin.tw15533503492667675913 : True := trivial
theorem fin.tw15566928917628492161 : True := trivial
theorem fin.tw15590172107835277464 : True := trivial
theorem fin.tw1560641971993327685 : True := trivial
theorem fin.tw15621619335703214680 : True := trivial
theorem fin.tw15688172546075569117 : True := trivial
theorem fin.tw1581765525528360354 : True := trivial
theorem fin.tw15841300982521233304 : True := trivial
theorem fin.tw15942684835789789487 : True := trivial
theorem fin.tw15989303212955285315 : True := trivial
theorem fin.tw16103849850496634939 : True := trivial
theorem fin.tw16109372258727991565 : True := trivial
theorem fin.tw16115155874713506467 : True := trivial
theorem fin.tw1613116972386908190 : True := trivial
theorem fin.tw16175276709679454751 : True := trivial
theorem fin.tw16196181902256332553 : True := trivial
theorem fin.tw16229209127682248589 : True := trivial
theorem fin.tw16237762584071213788 : True := trivial
theorem fin.tw1625080806587739848 : True := trivial
theorem fin.tw16252508478716706905 : True := trivial
theorem fin.tw16256441300576474876 : True := trivial
theorem fin.tw16269368082590959529 : True := trivial
theorem fin.tw16275787546110486726 : True := trivial
theorem fin.tw16285329926789087883 : True := trivial
theorem fin.tw16307707646766795581 : True := trivial
theorem fin.tw16315924578195358838 : True := trivial
theorem fin.tw16328414832103592811 : True := trivial
theorem fin.tw1635022588487117616 : True := trivial
theorem fin.tw16401934584784274106 : True := trivial
theorem fin.tw16407147864228438881 : True := trivial
theorem fin.tw16448676403291746579 : True := trivial
theorem fin.tw16488607150827929282 : True := trivial
theorem fin.tw16496857829328116044 : True := trivial
theorem fin.tw16503470079419688546 : True := trivial
theorem fin.tw16510490156224867327 : True := trivial
theorem fin.tw16530489862217454893 : True := trivial
theorem fin.tw16584127079891442865 : True := trivial
theorem fin.tw16656299143469825513 : True := trivial
theorem fin.tw16733070596992610153 : True := trivial
theorem fin.tw16798467561266328274 : True := trivial
theorem fin.tw16867096813858660809 : True := trivial
theorem fin.tw16889484823980962733 : True := trivial
theorem fin.tw16906536467411238026 : True := trivial
theorem fin.tw16934629359412608497 : True := trivial
theorem fin.tw170242057164969149 : True := trivial
theorem fin.tw17041991840579044601 : True := trivial
theorem fin.tw17067295170570645592 : True := trivial
theorem fin.tw17090520950648628573 : True := trivial
theorem fin.tw17108682257543074861 : True := trivial
theorem fin.tw17123178472405020103 : True := trivial
theorem fin.tw17130245016438642246 : True := trivial
theorem fin.tw1713156846745171867 : True := trivial
theorem fin.tw17132207802985990308 : True := trivial
theorem fin.tw17149882997012438147 : True := trivial
theorem fin.tw17164383140453370395 : True := trivial
theorem fin.tw17194895744400863824 : True := trivial
theorem fin.tw17197158672614542318 : True := trivial
theorem fin.tw17204297501091165112 : True := trivial
theorem fin.tw17311274769643918242 : True := trivial
theorem fin.tw17347454772498655404 : True := trivial
theorem fin.tw17362494058136835672 : True := trivial
theorem fin.tw17416127249078093707 : True := trivial
theorem fin.tw17425937995043322649 : True := trivial
theorem fin.tw17430205856086898164 : True := trivial
theorem fin.tw17449020081951674710 : True := trivial
theorem fin.tw17512474026176034454 : True := trivial
theorem fin.tw17570709534508481193 : True := trivial
theorem fin.tw17662344363894024548 : True := trivial
theorem fin.tw17698704350827878285 : True := trivial
theorem fin.tw17701328389417463424 : True := trivial
theorem fin.tw17717364068325071970 : True := trivial
theorem fin.tw17719728818120068181 : True := trivial
theorem fin.tw17743408960866722510 : True := trivial
theorem fin.tw17801579834951734752 : True := trivial
theorem fin.tw17861066769153400444 : True := trivial
theorem fin.tw17869975865946814897 : True := trivial
theorem fin.tw17933470926392208243 : True := trivial
theorem fin.tw17963964198891936676 : True := trivial
theorem fin.tw17971676594858020690 : True := trivial
theorem fin.tw17974384156558142227 : True := trivial
theorem fin.tw18082680734076937219 : True := trivial
theorem fin.tw18105285910621931680 : True := trivial
theorem fin.tw18105942590061964161 : True := trivial
theorem fin.tw18164189302063226315 : True := trivial
theorem fin.tw1819255440876223710 : True := trivial
theorem fin.tw18195182924450695511 : True := trivial
theorem fin.tw18230178534529381785 : True := trivial
theorem fin.tw18255404467826089762 : True := trivial
theorem fin.tw18295790063311454060 : True := trivial
theorem fin.tw18373065035072037172 : True := trivial
theorem fin.tw1887099378405440850 : True := trivial
theorem fin.tw1921391257341544841 : True := trivial
theorem fin.tw1951045429614898598 : True := trivial
theorem fin.tw1976505206021243879 : True := trivial
theorem fin.tw1982079694162106894 : True := trivial
theorem fin.tw2037802850271918198 : True := trivial
theorem fin.tw2051409578822353534 : True := trivial
theorem fin.tw2063516282011729924 : True := trivial
theorem fin.tw2086631506510373192 : True := trivial
theorem fin.tw2090205506522743130 : True := trivial
theorem fin.tw216489041496292469 : True := trivial
theorem fin.tw220677088936066577 : True := trivial
theorem fin.tw2236755162388048479 : True := trivial
theorem fin.tw2305881189932309285 : True := trivial
theorem fin.tw2321816554428607280 : True := trivial
theorem fin.tw2415902012162501839 : True := trivial
theorem fin.tw2462912638960843985 : True := trivial
theorem fin.tw2503846163805864124 : True := trivial
theorem fin.tw251868834278440796 : True := trivial
theorem fin.tw2537931557510868981 : True := trivial
theorem fin.tw2565351972500760935 : True := trivial
theorem fin.tw2608567993692976607 : True := trivial
theorem fin.tw2671655128345628175 : True := trivial
theorem fin.tw2775396313129547428 : True := trivial
theorem fin.tw2789213428527533208 : True := trivial
theorem fin.tw2910385600587045654 : True := trivial
theorem fin.tw2976117146107443816 : True := trivial
theorem fin.tw3004984022683251337 : True := trivial
theorem fin.tw3028926083550364057 : True := trivial
theorem fin.tw3105451386036433885 : True := trivial
theorem fin.tw3112429581023547943 : True := trivial
theorem fin.tw3125960719983571848 : True := trivial
theorem fin.tw3173534031939492945 : True := trivial
theorem fin.tw3199103547748192838 : True := trivial
theorem fin.tw3211687289105081006 : True := trivial
theorem fin.tw3222278782482380304 : True := trivial
theorem fin.tw3263211703599914710 : True := trivial
theorem fin.tw3268265519342814607 : True := trivial
theorem fin.tw3302319216010004292 : True := trivial
theorem fin.tw3314143786362844604 : True := trivial
theorem fin.tw3343445320678177929 : True := trivial
theorem fin.tw3404873503106905745 : True := trivial
theorem fin.tw3456623496861543869 : True := trivial
theorem fin.tw3459265974087741279 : True := trivial
theorem fin.tw3506512066687448480 : True := trivial
theorem fin.tw357486453476387696 : True := trivial
theorem fin.tw3599858809825778643 : True := trivial
theorem fin.tw3683778510129048087 : True := trivial
theorem fin.tw373065315874586923 : True := trivial
theorem fin.tw3762306804915933987 : True := trivial
theorem fin.tw3767311804947220896 : True := trivial
theorem fin.tw3788772014149755174 : True := trivial
theorem fin.tw3794220679723124481 : True := trivial
theorem fin.tw380778119907437045 : True := trivial
theorem fin.tw3810338749695602999 : True := trivial
theorem fin.tw3810570522144960214 : True := trivial
theorem fin.tw3812028171767442716 : True := trivial
theorem fin.tw3837020019201816242 : True := trivial
theorem fin.tw3857263333814641470 : True := trivial
theorem fin.tw3885313090954376144 : True := trivial
theorem fin.tw3906754673857718949 : True := trivial
theorem fin.tw3955986520655104412 : True := trivial
theorem fin.tw3998398428148030388 : True := trivial
theorem fin.tw4013537778516871869 : True := trivial
theorem fin.tw4040260094072895976 : True := trivial
theorem fin.tw4100293265295638779 : True := trivial
theorem fin.tw4144819383078699286 : True := trivial
theorem fin.tw4162185377826839926 : True := trivial
theorem fin.tw4209717502836232480 : True := trivial
theorem fin.tw4218790737952374519 : True := trivial
theorem fin.tw4265850918314828415 : True := trivial
theorem fin.tw428092273266315144 : True := trivial
theorem fin.tw4312942655851389009 : True := trivial
theorem fin.tw4326780796455107134 : True := trivial
theorem fin.tw4329306826757983850 : True := trivial
theorem fin.tw4364739922812499138 : True := trivial
theorem fin.tw4395496475954998127 : True := trivial
theorem fin.tw442791263610627237 : True := trivial
theorem fin.tw4443050520305737185 : True := trivial
theorem fin.tw452842511749404161 : True := trivial
theorem fin.tw4570111826955561243 : True := trivial
theorem fin.tw4588413851689716618 : True := trivial
theorem fin.tw4640724917100965312 : True := trivial
theorem fin.tw4684940682943077961 : True := trivial
theorem fin.tw4719063310657182621 : True := trivial
theorem fin.tw4723787954990577340 : True := trivial
theorem fin.tw4759752924163587094 : True := trivial
theorem fin.tw4768634762848416435 : True := trivial
theorem fin.tw4769821431679368130 : True := trivial
theorem fin.tw4788878847521262168 : True := trivial
theorem fin.tw480829909506669009 : True := trivial
theorem fin.tw4868334931027891882 : True := trivial
theorem fin.tw4878226113927451544 : True := trivial
theorem fin.tw4879674094562380441 : True := trivial
theorem fin.tw4898026214463823928 : True := trivial
theorem fin.tw4924110625330727750 : True := trivial
theorem fin.tw4950403968356008110 : True := trivial
theorem fin.tw500868675978126160 : True := trivial
theorem fin.tw5011121235533021005 : True := trivial
theorem fin.tw5071919506433949198 : True := trivial
theorem fin.tw5073790198343104882 : True := trivial
theorem fin.tw5098551885099359569 : True := trivial
theorem fin.tw5102460946473063141 : True := trivial
theorem fin.tw5106123347721008290 : True := trivial
theorem fin.tw5115476493328737885 : True := trivial
theorem fin.tw5152106690913108900 : True := trivial
theorem fin.tw5196160543931855155 : True := trivial
theorem fin.tw5227809002895711924 : True := trivial
theorem fin.tw5250828734511838712 : True := trivial
theorem fin.tw5266742908149448401 : True := trivial
theorem fin.tw5320702786494000081 : True := trivial
theorem fin.tw5402249366112354979 : True := trivial
theorem fin.tw544173102793226557 : True := trivial
theorem fin.tw5486226609284752418 : True := trivial
theorem fin.tw5555312102172926907 : True := trivial
theorem fin.tw5634151482396758240 : True := trivial
theorem fin.tw5678346346211369953 : True := trivial
theorem fin.tw5734618986648460908 : True := trivial
theorem fin.tw5796354222422608987 : True := trivial
theorem fin.tw5897612983314593646 : True := trivial
theorem fin.tw5901363791540438844 : True := trivial
theorem fin.tw5943015340162610155 : True := trivial
theorem fin.tw6068950659093879613 : True := trivial
theorem fin.tw6078386956361619328 : True := trivial
theorem fin.tw6081921254191324426 : True := trivial
theorem fin.tw6127190174262240918 : True := trivial
theorem fin.tw612862322836996645 : True := trivial
theorem fin.tw6144012678527597917 : True := trivial
theorem fin.tw6207176494656529804 : True := trivial
theorem fin.tw6232080684201472732 : True := trivial
theorem fin.tw6289197191216398940 : True := trivial
theorem fin.tw6295955727852119378 : True := trivial
theorem fin.tw6323506392446703087 : True := trivial
theorem fin.tw6341822008880759003 : True := trivial
theorem fin.tw6385529401280152062 : True := trivial
theorem fin.tw6388184931127306564 : True := trivial
theorem fin.tw6435670951450185984 : True := trivial
theorem fin.tw6449190631224713292 : True := trivial
theorem fin.tw6455845175183424153 : True := trivial
theorem fin.tw6474043946942992101 : True := trivial
theorem fin.tw6485783843944922600 : True := trivial
theorem fin.tw6498334528663615478 : True := trivial
theorem fin.tw6566618420281934 : True := trivial
theorem fin.tw6567050819087999508 : True := trivial
theorem fin.tw6577878126316647860 : True := trivial
theorem fin.tw6634307039904815820 : True := trivial
theorem fin.tw6650461044873433052 : True := trivial
theorem fin.tw6667815254911646788 : True := trivial
theorem fin.tw670465573061467203 : True := trivial
theorem fin.tw6707113841082798463 : True := trivial
theorem fin.tw6712194924023145494 : True := trivial
theorem fin.tw6718411051458867188 : True := trivial
theorem fin.tw6766378078585498003 : True := trivial
theorem fin.tw6766580051018981234 : True := trivial
theorem fin.tw6815667921103612162 : True := trivial
theorem fin.tw6846200578177281708 : True := trivial
theorem fin.tw6878024787957991413 : True := trivial
theorem fin.tw6956187926921108005 : True := trivial
theorem fin.tw6968583824967984638 : True := trivial
theorem fin.tw7000300075881102575 : True := trivial
theorem fin.tw7028063314416541132 : True := trivial
theorem fin.tw7047351209531925555 : True := trivial
theorem fin.tw7055459427971326715 : True := trivial
theorem fin.tw7070210977369740762 : True := trivial
theorem fin.tw7177338460636591580 : True := trivial
theorem fin.tw7249652514872940865 : True := trivial
theorem fin.tw7261552068004848535 : True := trivial
theorem fin.tw7278507554335971580 : True := trivial
theorem fin.tw7282745182861764756 : True := trivial
theorem fin.tw7334248845499685764 : True := trivial
theorem fin.tw7380833856163905736 : True := trivial
theorem fin.tw7439575562449295702 : True := trivial
theorem fin.tw744865244796547220 : True := trivial
theorem fin.tw7468727024169554154 : True := trivial
theorem fin.tw7472291436863326401 : True := trivial
theorem fin.tw7522001649326652513 : True := trivial
theorem fin.tw7552710137455990303 : True := trivial
theorem fin.tw757079261281740938 : True := trivial
theorem fin.tw7598215487636239735 : True := trivial
theorem fin.tw7613857476909055813 : True := trivial
theorem fin.tw7613945582906998725 : True := trivial
theorem fin.tw7661832156752021035 : True := trivial
theorem fin.tw7675655780812522254 : True := trivial
theorem fin.tw7684487725183542926 : True := trivial
theorem fin.tw7716820226725407877 : True := trivial
theorem fin.tw7773504467932542270 : True := trivial
theorem fin.tw7779959011674639804 : True := trivial
theorem fin.tw7786677914034681988 : True := trivial
theorem fin.tw7803649310394182010 : True := trivial
theorem fin.tw7822013112032934038 : True := trivial
theorem fin.tw7830602891274557492 : True := trivial
theorem fin.tw7830629276484211593 : True := trivial
theorem fin.tw783483362715066742 : True := trivial
theorem fin.tw7844069586390513008 : True := trivial
theorem fin.tw7845872953664198349 : True := trivial
theorem fin.tw7890596953891613788 : True := trivial
theorem fin.tw7929640520542984453 : True := trivial
theorem fin.tw7930893340574950883 : True := trivial
theorem fin.tw799341379326975648 : True := trivial
theorem fin.tw8025084765662995669 : True := trivial
theorem fin.tw803859442106103436 : True := trivial
theorem fin.tw807531904560671035 : True := trivial
theorem fin.tw8088732932480780420 : True := trivial
theorem fin.tw8119881530291889089 : True := trivial
theorem fin.tw8126443298418566877 : True := trivial
theorem fin.tw8135384322697869596 : True := trivial
theorem fin.tw8269367382603917829 : True := trivial
theorem fin.tw8272817396058243321 : True := trivial
theorem fin.tw828056024939588000 : True := trivial
theorem fin.tw8281523328739849912 : True := trivial
theorem fin.tw8288733244629462318 : True := trivial
theorem fin.tw8289400949097046189 : True := trivial
theorem fin.tw8330952907988395303 : True := trivial
theorem fin.tw8331973007464152698 : True := trivial
theorem fin.tw8352470293576582857 : True := trivial
theorem fin.tw8408514402456403777 : True := trivial
theorem fin.tw8416529770105884409 : True := trivial
theorem fin.tw846297522682114974 : True := trivial
theorem fin.tw8472697214298850164 : True := trivial
theorem fin.tw848606289541702500 : True := trivial
theorem fin.tw8492243078308758245 : True := trivial
theorem fin.tw8559517257967667466 : True := trivial
theorem fin.tw857469055436470443 : True := trivial
theorem fin.tw8590288500278120515 : True := trivial
theorem fin.tw8643116662766533202 : True := trivial
theorem fin.tw8776770756819070316 : True := trivial
theorem fin.tw8793901588540234292 : True := trivial
theorem fin.tw884059145510264010 : True := trivial
theorem fin.tw888132650186811988 : True := trivial
theorem fin.tw8896352889252549814 : True := trivial
theorem fin.tw8915204878667863452 : True := trivial
theorem fin.tw891787732878383699 : True := trivial
theorem fin.tw8919302590299486024 : True := trivial
theorem fin.tw8942474457413960924 : True := trivial
theorem fin.tw8947099994592609211 : True := trivial
theorem fin.tw895571856199123645 : True := trivial
theorem fin.tw9001875181463519149 : True := trivial
theorem fin.tw9058219571114814801 : True := trivial
theorem fin.tw9059937348426287209 : True := trivial
theorem fin.tw9218923581257491847 : True := trivial
theorem fin.tw9221430085559818832 : True := trivial
theorem fin.tw9247658263007524724 : True := trivial
theorem fin.tw9260378047223084069 : True := trivial
theorem fin.tw9297318355482256503 : True := trivial
theorem fin.tw9357874355931990178 : True := trivial
theorem fin.tw9363291351745731410 : True := trivial
theorem fin.tw9387745189664136937 : True := trivial
theorem fin.tw9445451236469955387 : True := trivial
theorem fin.tw9509447333196811905 : True := trivial
theorem fin.tw9524518906428321964 : True := trivial
theorem fin.tw9544026089342320630 : True := trivial
theorem fin.tw9610726530385051774 : True := trivial
theorem fin.tw9712136527352899355 : True := trivial
theorem fin.tw9725021084223525626 : True := trivial
theorem fin.tw9746214513668125432 : True := trivial
theorem fin.tw9746901515087519452 : True := trivial
theorem fin.tw9757074474933493440 : True := trivial
theorem fin.tw9806666330580929782 : True := trivial
theorem fin.tw9825859731914700964 : True := trivial
theorem fin.tw9839346839192117915 : True := trivial
theorem fin.tw9913140749668108558 : True := trivial
theorem fin.tw9917203430921899224 : True := trivial
theorem fin.tw9962418760945406050 : True := trivial
theorem fin.tw9997704412844104603 : True := trivial
theorem fin.tw999798209818781672 : True := trivial
section
local macro_rules | `(tactic| k_head) => `(tactic| o_head (kmHook Mine.hd.heap_1 Mine.finAs (fun _ => by kernel_rfl) [509]))
set_option maxHeartbeats 8000000
set_option Elab.async true
theorem fin : PySem.Challenge.rw_sq0036_01.Holds := by
  w_on
  o_law
  k_head
  case hw => w_witness2
  w_strict (
  k_go0
  replace codeHd : CodeQ _ := codeHd
  refine nameIt lifted (by assumption) fun l0 vs0 ns0 e1 e2 e3 => ?_
  subst e1 e2 e3
  refine wpAny_mono (E := fun _ _ => False) ?_ (fun _ _ h => h) (fun _ _ h => h.elim)
  k_steps
  have ok0 : Ok 20 callerA := ⟨rfl, by decide, by decide⟩
  change wpAny _ _ _ _ _ _
  refine useCells ‹Fr _ _ _ _› ?first ?second
  case first =>
    refine IfExp_ ?_
    k_steps
    refine ne_ints_nil (let ⟨o, a, b⟩ := lifted; ⟨o, Fr.keep (by assumption) _ _ a, b⟩) (by assumption) ‹News _ _ _ _› (.head _) (show callerA.units + 3 + 64 < cLine from by decide) ?_
    k_steps
    · rename_i lt2
      exact CellsP.of (ws := [.int _ _]) ‹Fr _ _ _ _› ‹News _ _ _ _› (.head _) (.tail _ (.tail _ (.head _))) (.cons _ _ .nil) (Nat.ne_of_gt lt2.2.1)
    · rename_i hi2 _ _ lt2
      exact CellsP.of ‹Fr _ _ _ _› ‹News _ _ _ _› (.head _) (.tail _ (.tail _ (.head _))) hi2 (Nat.ne_of_gt lt2.2.1)
  rintro _ _ ⟨D2, ws2, ys2, h9, tk9, rfl, rfl, F9, N9, hi2, hD9⟩
  k_steps
  clear N9
  rename_i h8 F8 N9
  refine for_listT (vs := ws2) (nn := 0) (mu := [(509, tabObj #[])]) (Z := [(D2, listOf (ws2).toArray 0)]) (fun xs m mu T => ∃ (us : List Value) (ys : List Int) (ps : Array Value), xs = us.map Itm.val ∧ IntsAre us ys ∧ mu = [(509, tabObj ps)] ∧ TabOk lamQ T ps ∧ m (Str.ofString "script") = some (.ref l0)) rfl ‹Fr _ _ _ _› (newsSub N9 ?subb) (.head _) (ne1 ?ninb) ⟨ws2, _, #[], rfl, hi2, rfl, TabOk.nil, by exact rfl⟩ ?turnb ?doneb
  case subb =>
    intro q hq
    rcases List.mem_cons.mp hq with rfl | hq
    · exact .tail _ (.head _)
    · rw [List.mem_singleton.mp hq]; exact .head _
  case ninb =>
    intro p hp
    rw [List.mem_singleton.mp hp]
    exact hD9
  case turnb =>
    rintro a r m' mu' T' R v h tk ⟨us, ys, ps, e, hA, rfl, hT, hm⟩ hv _ ab hs ho F4 N4 PZ hPZ
    cases hA with
    | nil => cases e
    | @cons y ty us ys hA =>
      rw [List.map_cons] at e
      injection e with e1 e2
      subst e1 e2
      obtain rfl : v = .int y ty := hv
      replace N4 : News _ _ h ((509, tabObj ps) :: R) := N4
      replace F4 := pin1 F4 hm
      clear N9
      k_steps
      refine box_ct ‹Frag.In _ _› (topRead_of ‹Top _ _ _ _ _ _›) (by walk_at "q ok") ‹Fr _ _ _ _› ‹News _ _ _ _› fun b o h1 tk1 F1 N1 lb bo => ?_
      have hb9 : b ≠ 509 := Nat.ne_of_gt (lb (509, tabObj ps) (by k_mem))
      k_steps
      refine round_ct (ps := ps) (R := R) (R0 := T') ‹Frag.In _ _› ‹Top _ _ _ _ _ _› codeHd (by walk_at "q ok") F1 (newsSub N1 fun q hq => ?_) (fun p hp => Nat.ne_of_lt (lb p (by k_mem))) (fun p hp e => ho p hp (e ▸ List.mem_cons_self ..)) hb9 bo (fun p hp => hs p (List.mem_append_left _ hp)) hT fun ps2 tl2 h2 tk2 F2 N2 ab2 ht2 => ?_
      · rcases List.mem_cons.mp hq with rfl | hq
        · exact .head _
        · rcases List.mem_cons.mp hq with rfl | hq
          · k_mem
          · k_mem
      clear N1
      k_steps
      refine hPZ _ _ ?_; refine tendG tl2 [(509, tabObj ps2)] ‹Fr _ _ _ _› N2 (fun q hq => hq) rfl ab2 ⟨us, ys, ps2, rfl, hA, rfl, ht2, rfl⟩
  case doneb =>
    rintro m' mu' T' h tk ⟨us, ys, ps, e, hA, rfl, hT, hm⟩ _ ab F4 N4
    clear N9
    k_steps)
end
end
end Mine
theorem PySem.Challenge.cw_sq0036_01_holds : PySem.Challenge.rw_sq0036_01.Holds :=
  Mine.fin
