import PyProof.Rows.All
import Wide.All
import OpenK.AllK
import Wide.FinOn
import PySem.Challenge.RW_nu0235_01
set_option Elab.async false
set_option maxRecDepth 100000
set_option linter.all false
set_option bootstrap.genMatcherCode false
set_option tactic.hygienic false
set_option genSizeOf false
namespace Mine
theorem x_ns {T : Type _} {a : T} {P : Prop} (h : Option.none = some a) : P := nomatch h
theorem x_sn {T : Type _} {a : T} {P : Prop} (h : some a = Option.none) : P := nomatch h
theorem x_ft {P : Prop} (h : false = true) : P := nomatch h
theorem x_tf {P : Prop} (h : true = false) : P := nomatch h
theorem o_AA {P0 : Prop} {P1 : Prop} {P2 : Prop} {G : Prop} (h : (P0) ∧ (P1) ∧ P2) (k : P0 → P1 → P2 → G) : G := by rcases h with ⟨h0, h1, h2⟩; exact k h0 h1 h2
theorem o_EA {T0 : Sort _} {P0 : T0 → Prop} {P1 : T0 → Prop} {G : Prop} (h : ∃ x0 : T0, (P0 x0) ∧ P1 x0) (k : ∀ x0, P0 x0 → P1 x0 → G) : G := by rcases h with ⟨x0, h0, h1⟩; exact k x0 h0 h1
theorem o_EE {T0 : Sort _} {T1 : Sort _} {P0 : T0 → T1 → Prop} {G : Prop} (h : ∃ x0 : T0, ∃ x1 : T1, P0 x0 x1) (k : ∀ x0, ∀ x1, P0 x0 x1 → G) : G := by rcases h with ⟨x0, x1, h0⟩; exact k x0 x1 h0
theorem o_AAA {P0 : Prop} {P1 : Prop} {P2 : Prop} {P3 : Prop} {G : Prop} (h : (P0) ∧ (P1) ∧ (P2) ∧ P3) (k : P0 → P1 → P2 → P3 → G) : G := by rcases h with ⟨h0, h1, h2, h3⟩; exact k h0 h1 h2 h3
theorem o_AEA {T0 : Sort _} {P0 : Prop} {P1 : T0 → Prop} {P2 : T0 → Prop} {G : Prop} (h : (P0) ∧ ∃ x0 : T0, (P1 x0) ∧ P2 x0) (k : P0 → ∀ x0, P1 x0 → P2 x0 → G) : G := by rcases h with ⟨h0, x0, h1, h2⟩; exact k h0 x0 h1 h2
theorem o_AEE {T0 : Sort _} {T1 : Sort _} {P0 : Prop} {P1 : T0 → T1 → Prop} {G : Prop} (h : (P0) ∧ ∃ x0 : T0, ∃ x1 : T1, P1 x0 x1) (k : P0 → ∀ x0, ∀ x1, P1 x0 x1 → G) : G := by rcases h with ⟨h0, x0, x1, h1⟩; exact k h0 x0 x1 h1
theorem o_EAA {T0 : Sort _} {P0 : T0 → Prop} {P1 : T0 → Prop} {P2 : T0 → Prop} {G : Prop} (h : ∃ x0 : T0, (P0 x0) ∧ (P1 x0) ∧ P2 x0) (k : ∀ x0, P0 x0 → P1 x0 → P2 x0 → G) : G := by rcases h with ⟨x0, h0, h1, h2⟩; exact k x0 h0 h1 h2
theorem o_EEA {T0 : Sort _} {T1 : Sort _} {P0 : T0 → T1 → Prop} {P1 : T0 → T1 → Prop} {G : Prop} (h : ∃ x0 : T0, ∃ x1 : T1, (P0 x0 x1) ∧ P1 x0 x1) (k : ∀ x0, ∀ x1, P0 x0 x1 → P1 x0 x1 → G) : G := by rcases h with ⟨x0, x1, h0, h1⟩; exact k x0 x1 h0 h1
theorem o_EEE {T0 : Sort _} {T1 : Sort _} {T2 : Sort _} {P0 : T0 → T1 → T2 → Prop} {G : Prop} (h : ∃ x0 : T0, ∃ x1 : T1, ∃ x2 : T2, P0 x0 x1 x2) (k : ∀ x0, ∀ x1, ∀ x2, P0 x0 x1 x2 → G) : G := by rcases h with ⟨x0, x1, x2, h0⟩; exact k x0 x1 x2 h0
theorem o_AAAA {P0 : Prop} {P1 : Prop} {P2 : Prop} {P3 : Prop} {P4 : Prop} {G : Prop} (h : (P0) ∧ (P1) ∧ (P2) ∧ (P3) ∧ P4) (k : P0 → P1 → P2 → P3 → P4 → G) : G := by rcases h with ⟨h0, h1, h2, h3, h4⟩; exact k h0 h1 h2 h3 h4
theorem o_AAEA {T0 : Sort _} {P0 : Prop} {P1 : Prop} {P2 : T0 → Prop} {P3 : T0 → Prop} {G : Prop} (h : (P0) ∧ (P1) ∧ ∃ x0 : T0, (P2 x0) ∧ P3 x0) (k : P0 → P1 → ∀ x0, P2 x0 → P3 x0 → G) : G := by rcases h with ⟨h0, h1, x0, h2, h3⟩; exact k h0 h1 x0 h2 h3
theorem o_AAEE {T0 : Sort _} {T1 : Sort _} {P0 : Prop} {P1 : Prop} {P2 : T0 → T1 → Prop} {G : Prop} (h : (P0) ∧ (P1) ∧ ∃ x0 : T0, ∃ x1 : T1, P2 x0 x1) (k : P0 → P1 → ∀ x0, ∀ x1, P2 x0 x1 → G) : G := by rcases h with ⟨h0, h1, x0, x1, h2⟩; exact k h0 h1 x0 x1 h2
theorem o_AEAA {T0 : Sort _} {P0 : Prop} {P1 : T0 → Prop} {P2 : T0 → Prop} {P3 : T0 → Prop} {G : Prop} (h : (P0) ∧ ∃ x0 : T0, (P1 x0) ∧ (P2 x0) ∧ P3 x0) (k : P0 → ∀ x0, P1 x0 → P2 x0 → P3 x0 → G) : G := by rcases h with ⟨h0, x0, h1, h2, h3⟩; exact k h0 x0 h1 h2 h3
theorem o_AEEA {T0 : Sort _} {T1 : Sort _} {P0 : Prop} {P1 : T0 → T1 → Prop} {P2 : T0 → T1 → Prop} {G : Prop} (h : (P0) ∧ ∃ x0 : T0, ∃ x1 : T1, (P1 x0 x1) ∧ P2 x0 x1) (k : P0 → ∀ x0, ∀ x1, P1 x0 x1 → P2 x0 x1 → G) : G := by rcases h with ⟨h0, x0, x1, h1, h2⟩; exact k h0 x0 x1 h1 h2
theorem o_AEEE {T0 : Sort _} {T1 : Sort _} {T2 : Sort _} {P0 : Prop} {P1 : T0 → T1 → T2 → Prop} {G : Prop} (h : (P0) ∧ ∃ x0 : T0, ∃ x1 : T1, ∃ x2 : T2, P1 x0 x1 x2) (k : P0 → ∀ x0, ∀ x1, ∀ x2, P1 x0 x1 x2 → G) : G := by rcases h with ⟨h0, x0, x1, x2, h1⟩; exact k h0 x0 x1 x2 h1
theorem o_EAAA {T0 : Sort _} {P0 : T0 → Prop} {P1 : T0 → Prop} {P2 : T0 → Prop} {P3 : T0 → Prop} {G : Prop} (h : ∃ x0 : T0, (P0 x0) ∧ (P1 x0) ∧ (P2 x0) ∧ P3 x0) (k : ∀ x0, P0 x0 → P1 x0 → P2 x0 → P3 x0 → G) : G := by rcases h with ⟨x0, h0, h1, h2, h3⟩; exact k x0 h0 h1 h2 h3
theorem o_EAEA {T0 : Sort _} {T1 : Sort _} {P0 : T0 → Prop} {P1 : T0 → T1 → Prop} {P2 : T0 → T1 → Prop} {G : Prop} (h : ∃ x0 : T0, (P0 x0) ∧ ∃ x1 : T1, (P1 x0 x1) ∧ P2 x0 x1) (k : ∀ x0, P0 x0 → ∀ x1, P1 x0 x1 → P2 x0 x1 → G) : G := by rcases h with ⟨x0, h0, x1, h1, h2⟩; exact k x0 h0 x1 h1 h2
theorem o_EEAA {T0 : Sort _} {T1 : Sort _} {P0 : T0 → T1 → Prop} {P1 : T0 → T1 → Prop} {P2 : T0 → T1 → Prop} {G : Prop} (h : ∃ x0 : T0, ∃ x1 : T1, (P0 x0 x1) ∧ (P1 x0 x1) ∧ P2 x0 x1) (k : ∀ x0, ∀ x1, P0 x0 x1 → P1 x0 x1 → P2 x0 x1 → G) : G := by rcases h with ⟨x0, x1, h0, h1, h2⟩; exact k x0 x1 h0 h1 h2
theorem o_EEEA {T0 : Sort _} {T1 : Sort _} {T2 : Sort _} {P0 : T0 → T1 → T2 → Prop} {P1 : T0 → T1 → T2 → Prop} {G : Prop} (h : ∃ x0 : T0, ∃ x1 : T1, ∃ x2 : T2, (P0 x0 x1 x2) ∧ P1 x0 x1 x2) (k : ∀ x0, ∀ x1, ∀ x2, P0 x0 x1 x2 → P1 x0 x1 x2 → G) : G := by rcases h with ⟨x0, x1, x2, h0, h1⟩; exact k x0 x1 x2 h0 h1
theorem o_EEEE {T0 : Sort _} {T1 : Sort _} {T2 : Sort _} {T3 : Sort _} {P0 : T0 → T1 → T2 → T3 → Prop} {G : Prop} (h : ∃ x0 : T0, ∃ x1 : T1, ∃ x2 : T2, ∃ x3 : T3, P0 x0 x1 x2 x3) (k : ∀ x0, ∀ x1, ∀ x2, ∀ x3, P0 x0 x1 x2 x3 → G) : G := by rcases h with ⟨x0, x1, x2, x3, h0⟩; exact k x0 x1 x2 x3 h0
theorem o_AEAAA {T0 : Sort _} {P0 : Prop} {P1 : T0 → Prop} {P2 : T0 → Prop} {P3 : T0 → Prop} {P4 : T0 → Prop} {G : Prop} (h : (P0) ∧ ∃ x0 : T0, (P1 x0) ∧ (P2 x0) ∧ (P3 x0) ∧ P4 x0) (k : P0 → ∀ x0, P1 x0 → P2 x0 → P3 x0 → P4 x0 → G) : G := o_AEA h fun h0 x0 h1 h => o_AA h fun h2 h3 h4 => k h0 x0 h1 h2 h3 h4
theorem o_AEEAA {T0 : Sort _} {T1 : Sort _} {P0 : Prop} {P1 : T0 → T1 → Prop} {P2 : T0 → T1 → Prop} {P3 : T0 → T1 → Prop} {G : Prop} (h : (P0) ∧ ∃ x0 : T0, ∃ x1 : T1, (P1 x0 x1) ∧ (P2 x0 x1) ∧ P3 x0 x1) (k : P0 → ∀ x0, ∀ x1, P1 x0 x1 → P2 x0 x1 → P3 x0 x1 → G) : G := o_AEE h fun h0 x0 x1 h => o_AA h fun h1 h2 h3 => k h0 x0 x1 h1 h2 h3
theorem o_EAAAA {T0 : Sort _} {P0 : T0 → Prop} {P1 : T0 → Prop} {P2 : T0 → Prop} {P3 : T0 → Prop} {P4 : T0 → Prop} {G : Prop} (h : ∃ x0 : T0, (P0 x0) ∧ (P1 x0) ∧ (P2 x0) ∧ (P3 x0) ∧ P4 x0) (k : ∀ x0, P0 x0 → P1 x0 → P2 x0 → P3 x0 → P4 x0 → G) : G := o_EAA h fun x0 h0 h1 h => o_AA h fun h2 h3 h4 => k x0 h0 h1 h2 h3 h4
theorem o_EAAEA {T0 : Sort _} {T1 : Sort _} {P0 : T0 → Prop} {P1 : T0 → Prop} {P2 : T0 → T1 → Prop} {P3 : T0 → T1 → Prop} {G : Prop} (h : ∃ x0 : T0, (P0 x0) ∧ (P1 x0) ∧ ∃ x1 : T1, (P2 x0 x1) ∧ P3 x0 x1) (k : ∀ x0, P0 x0 → P1 x0 → ∀ x1, P2 x0 x1 → P3 x0 x1 → G) : G := o_EAA h fun x0 h0 h1 h => o_EA h fun x1 h2 h3 => k x0 h0 h1 x1 h2 h3
theorem o_EEAAA {T0 : Sort _} {T1 : Sort _} {P0 : T0 → T1 → Prop} {P1 : T0 → T1 → Prop} {P2 : T0 → T1 → Prop} {P3 : T0 → T1 → Prop} {G : Prop} (h : ∃ x0 : T0, ∃ x1 : T1, (P0 x0 x1) ∧ (P1 x0 x1) ∧ (P2 x0 x1) ∧ P3 x0 x1) (k : ∀ x0, ∀ x1, P0 x0 x1 → P1 x0 x1 → P2 x0 x1 → P3 x0 x1 → G) : G := o_EEA h fun x0 x1 h0 h => o_AA h fun h1 h2 h3 => k x0 x1 h0 h1 h2 h3
theorem o_EEEAA {T0 : Sort _} {T1 : Sort _} {T2 : Sort _} {P0 : T0 → T1 → T2 → Prop} {P1 : T0 → T1 → T2 → Prop} {P2 : T0 → T1 → T2 → Prop} {G : Prop} (h : ∃ x0 : T0, ∃ x1 : T1, ∃ x2 : T2, (P0 x0 x1 x2) ∧ (P1 x0 x1 x2) ∧ P2 x0 x1 x2) (k : ∀ x0, ∀ x1, ∀ x2, P0 x0 x1 x2 → P1 x0 x1 x2 → P2 x0 x1 x2 → G) : G := o_EEE h fun x0 x1 x2 h => o_AA h fun h0 h1 h2 => k x0 x1 x2 h0 h1 h2
theorem o_EEEEE {T0 : Sort _} {T1 : Sort _} {T2 : Sort _} {T3 : Sort _} {T4 : Sort _} {P0 : T0 → T1 → T2 → T3 → T4 → Prop} {G : Prop} (h : ∃ x0 : T0, ∃ x1 : T1, ∃ x2 : T2, ∃ x3 : T3, ∃ x4 : T4, P0 x0 x1 x2 x3 x4) (k : ∀ x0, ∀ x1, ∀ x2, ∀ x3, ∀ x4, P0 x0 x1 x2 x3 x4 → G) : G := o_EEE h fun x0 x1 x2 h => o_EE h fun x3 x4 h0 => k x0 x1 x2 x3 x4 h0
theorem o_AAAAAA {P0 : Prop} {P1 : Prop} {P2 : Prop} {P3 : Prop} {P4 : Prop} {P5 : Prop} {P6 : Prop} {G : Prop} (h : (P0) ∧ (P1) ∧ (P2) ∧ (P3) ∧ (P4) ∧ (P5) ∧ P6) (k : P0 → P1 → P2 → P3 → P4 → P5 → P6 → G) : G := o_AAA h fun h0 h1 h2 h => o_AAA h fun h3 h4 h5 h6 => k h0 h1 h2 h3 h4 h5 h6
theorem o_AEEAAA {T0 : Sort _} {T1 : Sort _} {P0 : Prop} {P1 : T0 → T1 → Prop} {P2 : T0 → T1 → Prop} {P3 : T0 → T1 → Prop} {P4 : T0 → T1 → Prop} {G : Prop} (h : (P0) ∧ ∃ x0 : T0, ∃ x1 : T1, (P1 x0 x1) ∧ (P2 x0 x1) ∧ (P3 x0 x1) ∧ P4 x0 x1) (k : P0 → ∀ x0, ∀ x1, P1 x0 x1 → P2 x0 x1 → P3 x0 x1 → P4 x0 x1 → G) : G := o_AEE h fun h0 x0 x1 h => o_AAA h fun h1 h2 h3 h4 => k h0 x0 x1 h1 h2 h3 h4
theorem o_AEEEEA {T0 : Sort _} {T1 : Sort _} {T2 : Sort _} {T3 : Sort _} {P0 : Prop} {P1 : T0 → T1 → T2 → T3 → Prop} {P2 : T0 → T1 → T2 → T3 → Prop} {G : Prop} (h : (P0) ∧ ∃ x0 : T0, ∃ x1 : T1, ∃ x2 : T2, ∃ x3 : T3, (P1 x0 x1 x2 x3) ∧ P2 x0 x1 x2 x3) (k : P0 → ∀ x0, ∀ x1, ∀ x2, ∀ x3, P1 x0 x1 x2 x3 → P2 x0 x1 x2 x3 → G) : G := o_AEE h fun h0 x0 x1 h => o_EEA h fun x2 x3 h1 h2 => k h0 x0 x1 x2 x3 h1 h2
theorem o_EAAEAA {T0 : Sort _} {T1 : Sort _} {P0 : T0 → Prop} {P1 : T0 → Prop} {P2 : T0 → T1 → Prop} {P3 : T0 → T1 → Prop} {P4 : T0 → T1 → Prop} {G : Prop} (h : ∃ x0 : T0, (P0 x0) ∧ (P1 x0) ∧ ∃ x1 : T1, (P2 x0 x1) ∧ (P3 x0 x1) ∧ P4 x0 x1) (k : ∀ x0, P0 x0 → P1 x0 → ∀ x1, P2 x0 x1 → P3 x0 x1 → P4 x0 x1 → G) : G := o_EAA h fun x0 h0 h1 h => o_EAA h fun x1 h2 h3 h4 => k x0 h0 h1 x1 h2 h3 h4
theorem o_EEAAAA {T0 : Sort _} {T1 : Sort _} {P0 : T0 → T1 → Prop} {P1 : T0 → T1 → Prop} {P2 : T0 → T1 → Prop} {P3 : T0 → T1 → Prop} {P4 : T0 → T1 → Prop} {G : Prop} (h : ∃ x0 : T0, ∃ x1 : T1, (P0 x0 x1) ∧ (P1 x0 x1) ∧ (P2 x0 x1) ∧ (P3 x0 x1) ∧ P4 x0 x1) (k : ∀ x0, ∀ x1, P0 x0 x1 → P1 x0 x1 → P2 x0 x1 → P3 x0 x1 → P4 x0 x1 → G) : G := o_EEA h fun x0 x1 h0 h => o_AAA h fun h1 h2 h3 h4 => k x0 x1 h0 h1 h2 h3 h4
theorem o_EEEAAA {T0 : Sort _} {T1 : Sort _} {T2 : Sort _} {P0 : T0 → T1 → T2 → Prop} {P1 : T0 → T1 → T2 → Prop} {P2 : T0 → T1 → T2 → Prop} {P3 : T0 → T1 → T2 → Prop} {G : Prop} (h : ∃ x0 : T0, ∃ x1 : T1, ∃ x2 : T2, (P0 x0 x1 x2) ∧ (P1 x0 x1 x2) ∧ (P2 x0 x1 x2) ∧ P3 x0 x1 x2) (k : ∀ x0, ∀ x1, ∀ x2, P0 x0 x1 x2 → P1 x0 x1 x2 → P2 x0 x1 x2 → P3 x0 x1 x2 → G) : G := o_EEE h fun x0 x1 x2 h => o_AAA h fun h0 h1 h2 h3 => k x0 x1 x2 h0 h1 h2 h3
theorem o_EEEEEA {T0 : Sort _} {T1 : Sort _} {T2 : Sort _} {T3 : Sort _} {T4 : Sort _} {P0 : T0 → T1 → T2 → T3 → T4 → Prop} {P1 : T0 → T1 → T2 → T3 → T4 → Prop} {G : Prop} (h : ∃ x0 : T0, ∃ x1 : T1, ∃ x2 : T2, ∃ x3 : T3, ∃ x4 : T4, (P0 x0 x1 x2 x3 x4) ∧ P1 x0 x1 x2 x3 x4) (k : ∀ x0, ∀ x1, ∀ x2, ∀ x3, ∀ x4, P0 x0 x1 x2 x3 x4 → P1 x0 x1 x2 x3 x4 → G) : G := o_EEE h fun x0 x1 x2 h => o_EEA h fun x3 x4 h0 h1 => k x0 x1 x2 x3 x4 h0 h1
theorem o_EEAAAAA {T0 : Sort _} {T1 : Sort _} {P0 : T0 → T1 → Prop} {P1 : T0 → T1 → Prop} {P2 : T0 → T1 → Prop} {P3 : T0 → T1 → Prop} {P4 : T0 → T1 → Prop} {P5 : T0 → T1 → Prop} {G : Prop} (h : ∃ x0 : T0, ∃ x1 : T1, (P0 x0 x1) ∧ (P1 x0 x1) ∧ (P2 x0 x1) ∧ (P3 x0 x1) ∧ (P4 x0 x1) ∧ P5 x0 x1) (k : ∀ x0, ∀ x1, P0 x0 x1 → P1 x0 x1 → P2 x0 x1 → P3 x0 x1 → P4 x0 x1 → P5 x0 x1 → G) : G := o_EEAA h fun x0 x1 h0 h1 h => o_AAA h fun h2 h3 h4 h5 => k x0 x1 h0 h1 h2 h3 h4 h5
theorem o_EEEAAAA {T0 : Sort _} {T1 : Sort _} {T2 : Sort _} {P0 : T0 → T1 → T2 → Prop} {P1 : T0 → T1 → T2 → Prop} {P2 : T0 → T1 → T2 → Prop} {P3 : T0 → T1 → T2 → Prop} {P4 : T0 → T1 → T2 → Prop} {G : Prop} (h : ∃ x0 : T0, ∃ x1 : T1, ∃ x2 : T2, (P0 x0 x1 x2) ∧ (P1 x0 x1 x2) ∧ (P2 x0 x1 x2) ∧ (P3 x0 x1 x2) ∧ P4 x0 x1 x2) (k : ∀ x0, ∀ x1, ∀ x2, P0 x0 x1 x2 → P1 x0 x1 x2 → P2 x0 x1 x2 → P3 x0 x1 x2 → P4 x0 x1 x2 → G) : G := o_EEEA h fun x0 x1 x2 h0 h => o_AAA h fun h1 h2 h3 h4 => k x0 x1 x2 h0 h1 h2 h3 h4
theorem o_EEEEAAA {T0 : Sort _} {T1 : Sort _} {T2 : Sort _} {T3 : Sort _} {P0 : T0 → T1 → T2 → T3 → Prop} {P1 : T0 → T1 → T2 → T3 → Prop} {P2 : T0 → T1 → T2 → T3 → Prop} {P3 : T0 → T1 → T2 → T3 → Prop} {G : Prop} (h : ∃ x0 : T0, ∃ x1 : T1, ∃ x2 : T2, ∃ x3 : T3, (P0 x0 x1 x2 x3) ∧ (P1 x0 x1 x2 x3) ∧ (P2 x0 x1 x2 x3) ∧ P3 x0 x1 x2 x3) (k : ∀ x0, ∀ x1, ∀ x2, ∀ x3, P0 x0 x1 x2 x3 → P1 x0 x1 x2 x3 → P2 x0 x1 x2 x3 → P3 x0 x1 x2 x3 → G) : G := o_EEEE h fun x0 x1 x2 x3 h => o_AAA h fun h0 h1 h2 h3 => k x0 x1 x2 x3 h0 h1 h2 h3
theorem o_EEEAAAAA {T0 : Sort _} {T1 : Sort _} {T2 : Sort _} {P0 : T0 → T1 → T2 → Prop} {P1 : T0 → T1 → T2 → Prop} {P2 : T0 → T1 → T2 → Prop} {P3 : T0 → T1 → T2 → Prop} {P4 : T0 → T1 → T2 → Prop} {P5 : T0 → T1 → T2 → Prop} {G : Prop} (h : ∃ x0 : T0, ∃ x1 : T1, ∃ x2 : T2, (P0 x0 x1 x2) ∧ (P1 x0 x1 x2) ∧ (P2 x0 x1 x2) ∧ (P3 x0 x1 x2) ∧ (P4 x0 x1 x2) ∧ P5 x0 x1 x2) (k : ∀ x0, ∀ x1, ∀ x2, P0 x0 x1 x2 → P1 x0 x1 x2 → P2 x0 x1 x2 → P3 x0 x1 x2 → P4 x0 x1 x2 → P5 x0 x1 x2 → G) : G := o_EEEA h fun x0 x1 x2 h0 h => o_AAAA h fun h1 h2 h3 h4 h5 => k x0 x1 x2 h0 h1 h2 h3 h4 h5
theorem o_EEEAAAEA {T0 : Sort _} {T1 : Sort _} {T2 : Sort _} {T3 : Sort _} {P0 : T0 → T1 → T2 → Prop} {P1 : T0 → T1 → T2 → Prop} {P2 : T0 → T1 → T2 → Prop} {P3 : T0 → T1 → T2 → T3 → Prop} {P4 : T0 → T1 → T2 → T3 → Prop} {G : Prop} (h : ∃ x0 : T0, ∃ x1 : T1, ∃ x2 : T2, (P0 x0 x1 x2) ∧ (P1 x0 x1 x2) ∧ (P2 x0 x1 x2) ∧ ∃ x3 : T3, (P3 x0 x1 x2 x3) ∧ P4 x0 x1 x2 x3) (k : ∀ x0, ∀ x1, ∀ x2, P0 x0 x1 x2 → P1 x0 x1 x2 → P2 x0 x1 x2 → ∀ x3, P3 x0 x1 x2 x3 → P4 x0 x1 x2 x3 → G) : G := o_EEEA h fun x0 x1 x2 h0 h => o_AAEA h fun h1 h2 x3 h3 h4 => k x0 x1 x2 h0 h1 h2 x3 h3 h4
theorem o_EEEEAAAA {T0 : Sort _} {T1 : Sort _} {T2 : Sort _} {T3 : Sort _} {P0 : T0 → T1 → T2 → T3 → Prop} {P1 : T0 → T1 → T2 → T3 → Prop} {P2 : T0 → T1 → T2 → T3 → Prop} {P3 : T0 → T1 → T2 → T3 → Prop} {P4 : T0 → T1 → T2 → T3 → Prop} {G : Prop} (h : ∃ x0 : T0, ∃ x1 : T1, ∃ x2 : T2, ∃ x3 : T3, (P0 x0 x1 x2 x3) ∧ (P1 x0 x1 x2 x3) ∧ (P2 x0 x1 x2 x3) ∧ (P3 x0 x1 x2 x3) ∧ P4 x0 x1 x2 x3) (k : ∀ x0, ∀ x1, ∀ x2, ∀ x3, P0 x0 x1 x2 x3 → P1 x0 x1 x2 x3 → P2 x0 x1 x2 x3 → P3 x0 x1 x2 x3 → P4 x0 x1 x2 x3 → G) : G := o_EEEE h fun x0 x1 x2 x3 h => o_AAAA h fun h0 h1 h2 h3 h4 => k x0 x1 x2 x3 h0 h1 h2 h3 h4
theorem o_AAAAAAAAA {P0 : Prop} {P1 : Prop} {P2 : Prop} {P3 : Prop} {P4 : Prop} {P5 : Prop} {P6 : Prop} {P7 : Prop} {P8 : Prop} {P9 : Prop} {G : Prop} (h : (P0) ∧ (P1) ∧ (P2) ∧ (P3) ∧ (P4) ∧ (P5) ∧ (P6) ∧ (P7) ∧ (P8) ∧ P9) (k : P0 → P1 → P2 → P3 → P4 → P5 → P6 → P7 → P8 → P9 → G) : G := o_AAA h fun h0 h1 h2 h => o_AAA h fun h3 h4 h5 h => o_AAA h fun h6 h7 h8 h9 => k h0 h1 h2 h3 h4 h5 h6 h7 h8 h9
theorem o_AEEEAAAAA {T0 : Sort _} {T1 : Sort _} {T2 : Sort _} {P0 : Prop} {P1 : T0 → T1 → T2 → Prop} {P2 : T0 → T1 → T2 → Prop} {P3 : T0 → T1 → T2 → Prop} {P4 : T0 → T1 → T2 → Prop} {P5 : T0 → T1 → T2 → Prop} {P6 : T0 → T1 → T2 → Prop} {G : Prop} (h : (P0) ∧ ∃ x0 : T0, ∃ x1 : T1, ∃ x2 : T2, (P1 x0 x1 x2) ∧ (P2 x0 x1 x2) ∧ (P3 x0 x1 x2) ∧ (P4 x0 x1 x2) ∧ (P5 x0 x1 x2) ∧ P6 x0 x1 x2) (k : P0 → ∀ x0, ∀ x1, ∀ x2, P1 x0 x1 x2 → P2 x0 x1 x2 → P3 x0 x1 x2 → P4 x0 x1 x2 → P5 x0 x1 x2 → P6 x0 x1 x2 → G) : G := o_AEE h fun h0 x0 x1 h => o_EAA h fun x2 h1 h2 h => o_AAA h fun h3 h4 h5 h6 => k h0 x0 x1 x2 h1 h2 h3 h4 h5 h6
theorem o_AEEEEAAAA {T0 : Sort _} {T1 : Sort _} {T2 : Sort _} {T3 : Sort _} {P0 : Prop} {P1 : T0 → T1 → T2 → T3 → Prop} {P2 : T0 → T1 → T2 → T3 → Prop} {P3 : T0 → T1 → T2 → T3 → Prop} {P4 : T0 → T1 → T2 → T3 → Prop} {P5 : T0 → T1 → T2 → T3 → Prop} {G : Prop} (h : (P0) ∧ ∃ x0 : T0, ∃ x1 : T1, ∃ x2 : T2, ∃ x3 : T3, (P1 x0 x1 x2 x3) ∧ (P2 x0 x1 x2 x3) ∧ (P3 x0 x1 x2 x3) ∧ (P4 x0 x1 x2 x3) ∧ P5 x0 x1 x2 x3) (k : P0 → ∀ x0, ∀ x1, ∀ x2, ∀ x3, P1 x0 x1 x2 x3 → P2 x0 x1 x2 x3 → P3 x0 x1 x2 x3 → P4 x0 x1 x2 x3 → P5 x0 x1 x2 x3 → G) : G := o_AEE h fun h0 x0 x1 h => o_EEA h fun x2 x3 h1 h => o_AAA h fun h2 h3 h4 h5 => k h0 x0 x1 x2 x3 h1 h2 h3 h4 h5
theorem o_EEEAAAAAA {T0 : Sort _} {T1 : Sort _} {T2 : Sort _} {P0 : T0 → T1 → T2 → Prop} {P1 : T0 → T1 → T2 → Prop} {P2 : T0 → T1 → T2 → Prop} {P3 : T0 → T1 → T2 → Prop} {P4 : T0 → T1 → T2 → Prop} {P5 : T0 → T1 → T2 → Prop} {P6 : T0 → T1 → T2 → Prop} {G : Prop} (h : ∃ x0 : T0, ∃ x1 : T1, ∃ x2 : T2, (P0 x0 x1 x2) ∧ (P1 x0 x1 x2) ∧ (P2 x0 x1 x2) ∧ (P3 x0 x1 x2) ∧ (P4 x0 x1 x2) ∧ (P5 x0 x1 x2) ∧ P6 x0 x1 x2) (k : ∀ x0, ∀ x1, ∀ x2, P0 x0 x1 x2 → P1 x0 x1 x2 → P2 x0 x1 x2 → P3 x0 x1 x2 → P4 x0 x1 x2 → P5 x0 x1 x2 → P6 x0 x1 x2 → G) : G := o_EEE h fun x0 x1 x2 h => o_AAA h fun h0 h1 h2 h => o_AAA h fun h3 h4 h5 h6 => k x0 x1 x2 h0 h1 h2 h3 h4 h5 h6
theorem o_EEEEEAAAA {T0 : Sort _} {T1 : Sort _} {T2 : Sort _} {T3 : Sort _} {T4 : Sort _} {P0 : T0 → T1 → T2 → T3 → T4 → Prop} {P1 : T0 → T1 → T2 → T3 → T4 → Prop} {P2 : T0 → T1 → T2 → T3 → T4 → Prop} {P3 : T0 → T1 → T2 → T3 → T4 → Prop} {P4 : T0 → T1 → T2 → T3 → T4 → Prop} {G : Prop} (h : ∃ x0 : T0, ∃ x1 : T1, ∃ x2 : T2, ∃ x3 : T3, ∃ x4 : T4, (P0 x0 x1 x2 x3 x4) ∧ (P1 x0 x1 x2 x3 x4) ∧ (P2 x0 x1 x2 x3 x4) ∧ (P3 x0 x1 x2 x3 x4) ∧ P4 x0 x1 x2 x3 x4) (k : ∀ x0, ∀ x1, ∀ x2, ∀ x3, ∀ x4, P0 x0 x1 x2 x3 x4 → P1 x0 x1 x2 x3 x4 → P2 x0 x1 x2 x3 x4 → P3 x0 x1 x2 x3 x4 → P4 x0 x1 x2 x3 x4 → G) : G := o_EEE h fun x0 x1 x2 h => o_EEA h fun x3 x4 h0 h => o_AAA h fun h1 h2 h3 h4 => k x0 x1 x2 x3 x4 h0 h1 h2 h3 h4
theorem o_AEEEEAAAAA {T0 : Sort _} {T1 : Sort _} {T2 : Sort _} {T3 : Sort _} {P0 : Prop} {P1 : T0 → T1 → T2 → T3 → Prop} {P2 : T0 → T1 → T2 → T3 → Prop} {P3 : T0 → T1 → T2 → T3 → Prop} {P4 : T0 → T1 → T2 → T3 → Prop} {P5 : T0 → T1 → T2 → T3 → Prop} {P6 : T0 → T1 → T2 → T3 → Prop} {G : Prop} (h : (P0) ∧ ∃ x0 : T0, ∃ x1 : T1, ∃ x2 : T2, ∃ x3 : T3, (P1 x0 x1 x2 x3) ∧ (P2 x0 x1 x2 x3) ∧ (P3 x0 x1 x2 x3) ∧ (P4 x0 x1 x2 x3) ∧ (P5 x0 x1 x2 x3) ∧ P6 x0 x1 x2 x3) (k : P0 → ∀ x0, ∀ x1, ∀ x2, ∀ x3, P1 x0 x1 x2 x3 → P2 x0 x1 x2 x3 → P3 x0 x1 x2 x3 → P4 x0 x1 x2 x3 → P5 x0 x1 x2 x3 → P6 x0 x1 x2 x3 → G) : G := o_AEEE h fun h0 x0 x1 x2 h => o_EAA h fun x3 h1 h2 h => o_AAA h fun h3 h4 h5 h6 => k h0 x0 x1 x2 x3 h1 h2 h3 h4 h5 h6
theorem o_EEAAAAAAAA {T0 : Sort _} {T1 : Sort _} {P0 : T0 → T1 → Prop} {P1 : T0 → T1 → Prop} {P2 : T0 → T1 → Prop} {P3 : T0 → T1 → Prop} {P4 : T0 → T1 → Prop} {P5 : T0 → T1 → Prop} {P6 : T0 → T1 → Prop} {P7 : T0 → T1 → Prop} {P8 : T0 → T1 → Prop} {G : Prop} (h : ∃ x0 : T0, ∃ x1 : T1, (P0 x0 x1) ∧ (P1 x0 x1) ∧ (P2 x0 x1) ∧ (P3 x0 x1) ∧ (P4 x0 x1) ∧ (P5 x0 x1) ∧ (P6 x0 x1) ∧ (P7 x0 x1) ∧ P8 x0 x1) (k : ∀ x0, ∀ x1, P0 x0 x1 → P1 x0 x1 → P2 x0 x1 → P3 x0 x1 → P4 x0 x1 → P5 x0 x1 → P6 x0 x1 → P7 x0 x1 → P8 x0 x1 → G) : G := o_EEAA h fun x0 x1 h0 h1 h => o_AAA h fun h2 h3 h4 h => o_AAA h fun h5 h6 h7 h8 => k x0 x1 h0 h1 h2 h3 h4 h5 h6 h7 h8
theorem o_EEEEAAAAAA {T0 : Sort _} {T1 : Sort _} {T2 : Sort _} {T3 : Sort _} {P0 : T0 → T1 → T2 → T3 → Prop} {P1 : T0 → T1 → T2 → T3 → Prop} {P2 : T0 → T1 → T2 → T3 → Prop} {P3 : T0 → T1 → T2 → T3 → Prop} {P4 : T0 → T1 → T2 → T3 → Prop} {P5 : T0 → T1 → T2 → T3 → Prop} {P6 : T0 → T1 → T2 → T3 → Prop} {G : Prop} (h : ∃ x0 : T0, ∃ x1 : T1, ∃ x2 : T2, ∃ x3 : T3, (P0 x0 x1 x2 x3) ∧ (P1 x0 x1 x2 x3) ∧ (P2 x0 x1 x2 x3) ∧ (P3 x0 x1 x2 x3) ∧ (P4 x0 x1 x2 x3) ∧ (P5 x0 x1 x2 x3) ∧ P6 x0 x1 x2 x3) (k : ∀ x0, ∀ x1, ∀ x2, ∀ x3, P0 x0 x1 x2 x3 → P1 x0 x1 x2 x3 → P2 x0 x1 x2 x3 → P3 x0 x1 x2 x3 → P4 x0 x1 x2 x3 → P5 x0 x1 x2 x3 → P6 x0 x1 x2 x3 → G) : G := o_EEEE h fun x0 x1 x2 x3 h => o_AAA h fun h0 h1 h2 h => o_AAA h fun h3 h4 h5 h6 => k x0 x1 x2 x3 h0 h1 h2 h3 h4 h5 h6
theorem o_EEEEEAAAAA {T0 : Sort _} {T1 : Sort _} {T2 : Sort _} {T3 : Sort _} {T4 : Sort _} {P0 : T0 → T1 → T2 → T3 → T4 → Prop} {P1 : T0 → T1 → T2 → T3 → T4 → Prop} {P2 : T0 → T1 → T2 → T3 → T4 → Prop} {P3 : T0 → T1 → T2 → T3 → T4 → Prop} {P4 : T0 → T1 → T2 → T3 → T4 → Prop} {P5 : T0 → T1 → T2 → T3 → T4 → Prop} {G : Prop} (h : ∃ x0 : T0, ∃ x1 : T1, ∃ x2 : T2, ∃ x3 : T3, ∃ x4 : T4, (P0 x0 x1 x2 x3 x4) ∧ (P1 x0 x1 x2 x3 x4) ∧ (P2 x0 x1 x2 x3 x4) ∧ (P3 x0 x1 x2 x3 x4) ∧ (P4 x0 x1 x2 x3 x4) ∧ P5 x0 x1 x2 x3 x4) (k : ∀ x0, ∀ x1, ∀ x2, ∀ x3, ∀ x4, P0 x0 x1 x2 x3 x4 → P1 x0 x1 x2 x3 x4 → P2 x0 x1 x2 x3 x4 → P3 x0 x1 x2 x3 x4 → P4 x0 x1 x2 x3 x4 → P5 x0 x1 x2 x3 x4 → G) : G := o_EEEE h fun x0 x1 x2 x3 h => o_EAA h fun x4 h0 h1 h => o_AAA h fun h2 h3 h4 h5 => k x0 x1 x2 x3 x4 h0 h1 h2 h3 h4 h5
theorem o_EEEEAAAAAAA {T0 : Sort _} {T1 : Sort _} {T2 : Sort _} {T3 : Sort _} {P0 : T0 → T1 → T2 → T3 → Prop} {P1 : T0 → T1 → T2 → T3 → Prop} {P2 : T0 → T1 → T2 → T3 → Prop} {P3 : T0 → T1 → T2 → T3 → Prop} {P4 : T0 → T1 → T2 → T3 → Prop} {P5 : T0 → T1 → T2 → T3 → Prop} {P6 : T0 → T1 → T2 → T3 → Prop} {P7 : T0 → T1 → T2 → T3 → Prop} {G : Prop} (h : ∃ x0 : T0, ∃ x1 : T1, ∃ x2 : T2, ∃ x3 : T3, (P0 x0 x1 x2 x3) ∧ (P1 x0 x1 x2 x3) ∧ (P2 x0 x1 x2 x3) ∧ (P3 x0 x1 x2 x3) ∧ (P4 x0 x1 x2 x3) ∧ (P5 x0 x1 x2 x3) ∧ (P6 x0 x1 x2 x3) ∧ P7 x0 x1 x2 x3) (k : ∀ x0, ∀ x1, ∀ x2, ∀ x3, P0 x0 x1 x2 x3 → P1 x0 x1 x2 x3 → P2 x0 x1 x2 x3 → P3 x0 x1 x2 x3 → P4 x0 x1 x2 x3 → P5 x0 x1 x2 x3 → P6 x0 x1 x2 x3 → P7 x0 x1 x2 x3 → G) : G := o_EEEE h fun x0 x1 x2 x3 h => o_AAAA h fun h0 h1 h2 h3 h => o_AAA h fun h4 h5 h6 h7 => k x0 x1 x2 x3 h0 h1 h2 h3 h4 h5 h6 h7
theorem o_EEEEEAAAAAA {T0 : Sort _} {T1 : Sort _} {T2 : Sort _} {T3 : Sort _} {T4 : Sort _} {P0 : T0 → T1 → T2 → T3 → T4 → Prop} {P1 : T0 → T1 → T2 → T3 → T4 → Prop} {P2 : T0 → T1 → T2 → T3 → T4 → Prop} {P3 : T0 → T1 → T2 → T3 → T4 → Prop} {P4 : T0 → T1 → T2 → T3 → T4 → Prop} {P5 : T0 → T1 → T2 → T3 → T4 → Prop} {P6 : T0 → T1 → T2 → T3 → T4 → Prop} {G : Prop} (h : ∃ x0 : T0, ∃ x1 : T1, ∃ x2 : T2, ∃ x3 : T3, ∃ x4 : T4, (P0 x0 x1 x2 x3 x4) ∧ (P1 x0 x1 x2 x3 x4) ∧ (P2 x0 x1 x2 x3 x4) ∧ (P3 x0 x1 x2 x3 x4) ∧ (P4 x0 x1 x2 x3 x4) ∧ (P5 x0 x1 x2 x3 x4) ∧ P6 x0 x1 x2 x3 x4) (k : ∀ x0, ∀ x1, ∀ x2, ∀ x3, ∀ x4, P0 x0 x1 x2 x3 x4 → P1 x0 x1 x2 x3 x4 → P2 x0 x1 x2 x3 x4 → P3 x0 x1 x2 x3 x4 → P4 x0 x1 x2 x3 x4 → P5 x0 x1 x2 x3 x4 → P6 x0 x1 x2 x3 x4 → G) : G := o_EEEE h fun x0 x1 x2 x3 h => o_EAAA h fun x4 h0 h1 h2 h => o_AAA h fun h3 h4 h5 h6 => k x0 x1 x2 x3 x4 h0 h1 h2 h3 h4 h5 h6
theorem o_EEEEEEEEAAAA {T0 : Sort _} {T1 : Sort _} {T2 : Sort _} {T3 : Sort _} {T4 : Sort _} {T5 : Sort _} {T6 : Sort _} {T7 : Sort _} {P0 : T0 → T1 → T2 → T3 → T4 → T5 → T6 → T7 → Prop} {P1 : T0 → T1 → T2 → T3 → T4 → T5 → T6 → T7 → Prop} {P2 : T0 → T1 → T2 → T3 → T4 → T5 → T6 → T7 → Prop} {P3 : T0 → T1 → T2 → T3 → T4 → T5 → T6 → T7 → Prop} {P4 : T0 → T1 → T2 → T3 → T4 → T5 → T6 → T7 → Prop} {G : Prop} (h : ∃ x0 : T0, ∃ x1 : T1, ∃ x2 : T2, ∃ x3 : T3, ∃ x4 : T4, ∃ x5 : T5, ∃ x6 : T6, ∃ x7 : T7, (P0 x0 x1 x2 x3 x4 x5 x6 x7) ∧ (P1 x0 x1 x2 x3 x4 x5 x6 x7) ∧ (P2 x0 x1 x2 x3 x4 x5 x6 x7) ∧ (P3 x0 x1 x2 x3 x4 x5 x6 x7) ∧ P4 x0 x1 x2 x3 x4 x5 x6 x7) (k : ∀ x0, ∀ x1, ∀ x2, ∀ x3, ∀ x4, ∀ x5, ∀ x6, ∀ x7, P0 x0 x1 x2 x3 x4 x5 x6 x7 → P1 x0 x1 x2 x3 x4 x5 x6 x7 → P2 x0 x1 x2 x3 x4 x5 x6 x7 → P3 x0 x1 x2 x3 x4 x5 x6 x7 → P4 x0 x1 x2 x3 x4 x5 x6 x7 → G) : G := o_EEEE h fun x0 x1 x2 x3 h => o_EEEE h fun x4 x5 x6 x7 h => o_AAAA h fun h0 h1 h2 h3 h4 => k x0 x1 x2 x3 x4 x5 x6 x7 h0 h1 h2 h3 h4
theorem o_EEEEEAAAAAAAAA {T0 : Sort _} {T1 : Sort _} {T2 : Sort _} {T3 : Sort _} {T4 : Sort _} {P0 : T0 → T1 → T2 → T3 → T4 → Prop} {P1 : T0 → T1 → T2 → T3 → T4 → Prop} {P2 : T0 → T1 → T2 → T3 → T4 → Prop} {P3 : T0 → T1 → T2 → T3 → T4 → Prop} {P4 : T0 → T1 → T2 → T3 → T4 → Prop} {P5 : T0 → T1 → T2 → T3 → T4 → Prop} {P6 : T0 → T1 → T2 → T3 → T4 → Prop} {P7 : T0 → T1 → T2 → T3 → T4 → Prop} {P8 : T0 → T1 → T2 → T3 → T4 → Prop} {P9 : T0 → T1 → T2 → T3 → T4 → Prop} {G : Prop} (h : ∃ x0 : T0, ∃ x1 : T1, ∃ x2 : T2, ∃ x3 : T3, ∃ x4 : T4, (P0 x0 x1 x2 x3 x4) ∧ (P1 x0 x1 x2 x3 x4) ∧ (P2 x0 x1 x2 x3 x4) ∧ (P3 x0 x1 x2 x3 x4) ∧ (P4 x0 x1 x2 x3 x4) ∧ (P5 x0 x1 x2 x3 x4) ∧ (P6 x0 x1 x2 x3 x4) ∧ (P7 x0 x1 x2 x3 x4) ∧ (P8 x0 x1 x2 x3 x4) ∧ P9 x0 x1 x2 x3 x4) (k : ∀ x0, ∀ x1, ∀ x2, ∀ x3, ∀ x4, P0 x0 x1 x2 x3 x4 → P1 x0 x1 x2 x3 x4 → P2 x0 x1 x2 x3 x4 → P3 x0 x1 x2 x3 x4 → P4 x0 x1 x2 x3 x4 → P5 x0 x1 x2 x3 x4 → P6 x0 x1 x2 x3 x4 → P7 x0 x1 x2 x3 x4 → P8 x0 x1 x2 x3 x4 → P9 x0 x1 x2 x3 x4 → G) : G := o_EEEE h fun x0 x1 x2 x3 h => o_EAAA h fun x4 h0 h1 h2 h => o_AAA h fun h3 h4 h5 h => o_AAA h fun h6 h7 h8 h9 => k x0 x1 x2 x3 x4 h0 h1 h2 h3 h4 h5 h6 h7 h8 h9
theorem o_AAEEEEEEAAAAAAAA {T0 : Sort _} {T1 : Sort _} {T2 : Sort _} {T3 : Sort _} {T4 : Sort _} {T5 : Sort _} {P0 : Prop} {P1 : Prop} {P2 : T0 → T1 → T2 → T3 → T4 → T5 → Prop} {P3 : T0 → T1 → T2 → T3 → T4 → T5 → Prop} {P4 : T0 → T1 → T2 → T3 → T4 → T5 → Prop} {P5 : T0 → T1 → T2 → T3 → T4 → T5 → Prop} {P6 : T0 → T1 → T2 → T3 → T4 → T5 → Prop} {P7 : T0 → T1 → T2 → T3 → T4 → T5 → Prop} {P8 : T0 → T1 → T2 → T3 → T4 → T5 → Prop} {P9 : T0 → T1 → T2 → T3 → T4 → T5 → Prop} {P10 : T0 → T1 → T2 → T3 → T4 → T5 → Prop} {G : Prop} (h : (P0) ∧ (P1) ∧ ∃ x0 : T0, ∃ x1 : T1, ∃ x2 : T2, ∃ x3 : T3, ∃ x4 : T4, ∃ x5 : T5, (P2 x0 x1 x2 x3 x4 x5) ∧ (P3 x0 x1 x2 x3 x4 x5) ∧ (P4 x0 x1 x2 x3 x4 x5) ∧ (P5 x0 x1 x2 x3 x4 x5) ∧ (P6 x0 x1 x2 x3 x4 x5) ∧ (P7 x0 x1 x2 x3 x4 x5) ∧ (P8 x0 x1 x2 x3 x4 x5) ∧ (P9 x0 x1 x2 x3 x4 x5) ∧ P10 x0 x1 x2 x3 x4 x5) (k : P0 → P1 → ∀ x0, ∀ x1, ∀ x2, ∀ x3, ∀ x4, ∀ x5, P2 x0 x1 x2 x3 x4 x5 → P3 x0 x1 x2 x3 x4 x5 → P4 x0 x1 x2 x3 x4 x5 → P5 x0 x1 x2 x3 x4 x5 → P6 x0 x1 x2 x3 x4 x5 → P7 x0 x1 x2 x3 x4 x5 → P8 x0 x1 x2 x3 x4 x5 → P9 x0 x1 x2 x3 x4 x5 → P10 x0 x1 x2 x3 x4 x5 → G) : G := o_AAEE h fun h0 h1 x0 x1 h => o_EEEE h fun x2 x3 x4 x5 h => o_AAAA h fun h2 h3 h4 h5 h => o_AAAA h fun h6 h7 h8 h9 h10 => k h0 h1 x0 x1 x2 x3 x4 x5 h2 h3 h4 h5 h6 h7 h8 h9 h10
theorem o_EEEEEEEEEAAAAAAAA {T0 : Sort _} {T1 : Sort _} {T2 : Sort _} {T3 : Sort _} {T4 : Sort _} {T5 : Sort _} {T6 : Sort _} {T7 : Sort _} {T8 : Sort _} {P0 : T0 → T1 → T2 → T3 → T4 → T5 → T6 → T7 → T8 → Prop} {P1 : T0 → T1 → T2 → T3 → T4 → T5 → T6 → T7 → T8 → Prop} {P2 : T0 → T1 → T2 → T3 → T4 → T5 → T6 → T7 → T8 → Prop} {P3 : T0 → T1 → T2 → T3 → T4 → T5 → T6 → T7 → T8 → Prop} {P4 : T0 → T1 → T2 → T3 → T4 → T5 → T6 → T7 → T8 → Prop} {P5 : T0 → T1 → T2 → T3 → T4 → T5 → T6 → T7 → T8 → Prop} {P6 : T0 → T1 → T2 → T3 → T4 → T5 → T6 → T7 → T8 → Prop} {P7 : T0 → T1 → T2 → T3 → T4 → T5 → T6 → T7 → T8 → Prop} {P8 : T0 → T1 → T2 → T3 → T4 → T5 → T6 → T7 → T8 → Prop} {G : Prop} (h : ∃ x0 : T0, ∃ x1 : T1, ∃ x2 : T2, ∃ x3 : T3, ∃ x4 : T4, ∃ x5 : T5, ∃ x6 : T6, ∃ x7 : T7, ∃ x8 : T8, (P0 x0 x1 x2 x3 x4 x5 x6 x7 x8) ∧ (P1 x0 x1 x2 x3 x4 x5 x6 x7 x8) ∧ (P2 x0 x1 x2 x3 x4 x5 x6 x7 x8) ∧ (P3 x0 x1 x2 x3 x4 x5 x6 x7 x8) ∧ (P4 x0 x1 x2 x3 x4 x5 x6 x7 x8) ∧ (P5 x0 x1 x2 x3 x4 x5 x6 x7 x8) ∧ (P6 x0 x1 x2 x3 x4 x5 x6 x7 x8) ∧ (P7 x0 x1 x2 x3 x4 x5 x6 x7 x8) ∧ P8 x0 x1 x2 x3 x4 x5 x6 x7 x8) (k : ∀ x0, ∀ x1, ∀ x2, ∀ x3, ∀ x4, ∀ x5, ∀ x6, ∀ x7, ∀ x8, P0 x0 x1 x2 x3 x4 x5 x6 x7 x8 → P1 x0 x1 x2 x3 x4 x5 x6 x7 x8 → P2 x0 x1 x2 x3 x4 x5 x6 x7 x8 → P3 x0 x1 x2 x3 x4 x5 x6 x7 x8 → P4 x0 x1 x2 x3 x4 x5 x6 x7 x8 → P5 x0 x1 x2 x3 x4 x5 x6 x7 x8 → P6 x0 x1 x2 x3 x4 x5 x6 x7 x8 → P7 x0 x1 x2 x3 x4 x5 x6 x7 x8 → P8 x0 x1 x2 x3 x4 x5 x6 x7 x8 → G) : G := o_EEEE h fun x0 x1 x2 x3 h => o_EEEE h fun x4 x5 x6 x7 h => o_EAA h fun x8 h0 h1 h => o_AAA h fun h2 h3 h4 h => o_AAA h fun h5 h6 h7 h8 => k x0 x1 x2 x3 x4 x5 x6 x7 x8 h0 h1 h2 h3 h4 h5 h6 h7 h8
theorem o_EEEEEAAAAAAAAAAAAAA {T0 : Sort _} {T1 : Sort _} {T2 : Sort _} {T3 : Sort _} {T4 : Sort _} {P0 : T0 → T1 → T2 → T3 → T4 → Prop} {P1 : T0 → T1 → T2 → T3 → T4 → Prop} {P2 : T0 → T1 → T2 → T3 → T4 → Prop} {P3 : T0 → T1 → T2 → T3 → T4 → Prop} {P4 : T0 → T1 → T2 → T3 → T4 → Prop} {P5 : T0 → T1 → T2 → T3 → T4 → Prop} {P6 : T0 → T1 → T2 → T3 → T4 → Prop} {P7 : T0 → T1 → T2 → T3 → T4 → Prop} {P8 : T0 → T1 → T2 → T3 → T4 → Prop} {P9 : T0 → T1 → T2 → T3 → T4 → Prop} {P10 : T0 → T1 → T2 → T3 → T4 → Prop} {P11 : T0 → T1 → T2 → T3 → T4 → Prop} {P12 : T0 → T1 → T2 → T3 → T4 → Prop} {P13 : T0 → T1 → T2 → T3 → T4 → Prop} {P14 : T0 → T1 → T2 → T3 → T4 → Prop} {G : Prop} (h : ∃ x0 : T0, ∃ x1 : T1, ∃ x2 : T2, ∃ x3 : T3, ∃ x4 : T4, (P0 x0 x1 x2 x3 x4) ∧ (P1 x0 x1 x2 x3 x4) ∧ (P2 x0 x1 x2 x3 x4) ∧ (P3 x0 x1 x2 x3 x4) ∧ (P4 x0 x1 x2 x3 x4) ∧ (P5 x0 x1 x2 x3 x4) ∧ (P6 x0 x1 x2 x3 x4) ∧ (P7 x0 x1 x2 x3 x4) ∧ (P8 x0 x1 x2 x3 x4) ∧ (P9 x0 x1 x2 x3 x4) ∧ (P10 x0 x1 x2 x3 x4) ∧ (P11 x0 x1 x2 x3 x4) ∧ (P12 x0 x1 x2 x3 x4) ∧ (P13 x0 x1 x2 x3 x4) ∧ P14 x0 x1 x2 x3 x4) (k : ∀ x0, ∀ x1, ∀ x2, ∀ x3, ∀ x4, P0 x0 x1 x2 x3 x4 → P1 x0 x1 x2 x3 x4 → P2 x0 x1 x2 x3 x4 → P3 x0 x1 x2 x3 x4 → P4 x0 x1 x2 x3 x4 → P5 x0 x1 x2 x3 x4 → P6 x0 x1 x2 x3 x4 → P7 x0 x1 x2 x3 x4 → P8 x0 x1 x2 x3 x4 → P9 x0 x1 x2 x3 x4 → P10 x0 x1 x2 x3 x4 → P11 x0 x1 x2 x3 x4 → P12 x0 x1 x2 x3 x4 → P13 x0 x1 x2 x3 x4 → P14 x0 x1 x2 x3 x4 → G) : G := o_EEEE h fun x0 x1 x2 x3 h => o_EAAA h fun x4 h0 h1 h2 h => o_AAAA h fun h3 h4 h5 h6 h => o_AAAA h fun h7 h8 h9 h10 h => o_AAA h fun h11 h12 h13 h14 => k x0 x1 x2 x3 x4 h0 h1 h2 h3 h4 h5 h6 h7 h8 h9 h10 h11 h12 h13 h14
theorem o_AEEEEAAAAAAAAAAAAAAAA {T0 : Sort _} {T1 : Sort _} {T2 : Sort _} {T3 : Sort _} {P0 : Prop} {P1 : T0 → T1 → T2 → T3 → Prop} {P2 : T0 → T1 → T2 → T3 → Prop} {P3 : T0 → T1 → T2 → T3 → Prop} {P4 : T0 → T1 → T2 → T3 → Prop} {P5 : T0 → T1 → T2 → T3 → Prop} {P6 : T0 → T1 → T2 → T3 → Prop} {P7 : T0 → T1 → T2 → T3 → Prop} {P8 : T0 → T1 → T2 → T3 → Prop} {P9 : T0 → T1 → T2 → T3 → Prop} {P10 : T0 → T1 → T2 → T3 → Prop} {P11 : T0 → T1 → T2 → T3 → Prop} {P12 : T0 → T1 → T2 → T3 → Prop} {P13 : T0 → T1 → T2 → T3 → Prop} {P14 : T0 → T1 → T2 → T3 → Prop} {P15 : T0 → T1 → T2 → T3 → Prop} {P16 : T0 → T1 → T2 → T3 → Prop} {P17 : T0 → T1 → T2 → T3 → Prop} {G : Prop} (h : (P0) ∧ ∃ x0 : T0, ∃ x1 : T1, ∃ x2 : T2, ∃ x3 : T3, (P1 x0 x1 x2 x3) ∧ (P2 x0 x1 x2 x3) ∧ (P3 x0 x1 x2 x3) ∧ (P4 x0 x1 x2 x3) ∧ (P5 x0 x1 x2 x3) ∧ (P6 x0 x1 x2 x3) ∧ (P7 x0 x1 x2 x3) ∧ (P8 x0 x1 x2 x3) ∧ (P9 x0 x1 x2 x3) ∧ (P10 x0 x1 x2 x3) ∧ (P11 x0 x1 x2 x3) ∧ (P12 x0 x1 x2 x3) ∧ (P13 x0 x1 x2 x3) ∧ (P14 x0 x1 x2 x3) ∧ (P15 x0 x1 x2 x3) ∧ (P16 x0 x1 x2 x3) ∧ P17 x0 x1 x2 x3) (k : P0 → ∀ x0, ∀ x1, ∀ x2, ∀ x3, P1 x0 x1 x2 x3 → P2 x0 x1 x2 x3 → P3 x0 x1 x2 x3 → P4 x0 x1 x2 x3 → P5 x0 x1 x2 x3 → P6 x0 x1 x2 x3 → P7 x0 x1 x2 x3 → P8 x0 x1 x2 x3 → P9 x0 x1 x2 x3 → P10 x0 x1 x2 x3 → P11 x0 x1 x2 x3 → P12 x0 x1 x2 x3 → P13 x0 x1 x2 x3 → P14 x0 x1 x2 x3 → P15 x0 x1 x2 x3 → P16 x0 x1 x2 x3 → P17 x0 x1 x2 x3 → G) : G := o_AEEE h fun h0 x0 x1 x2 h => o_EAAA h fun x3 h1 h2 h3 h => o_AAAA h fun h4 h5 h6 h7 h => o_AAA h fun h8 h9 h10 h => o_AAA h fun h11 h12 h13 h => o_AAA h fun h14 h15 h16 h17 => k h0 x0 x1 x2 x3 h1 h2 h3 h4 h5 h6 h7 h8 h9 h10 h11 h12 h13 h14 h15 h16 h17
theorem o_AEEEEEEEEEEEAAAAAAAAAAAAAAA {T0 : Sort _} {T1 : Sort _} {T2 : Sort _} {T3 : Sort _} {T4 : Sort _} {T5 : Sort _} {T6 : Sort _} {T7 : Sort _} {T8 : Sort _} {T9 : Sort _} {T10 : Sort _} {P0 : Prop} {P1 : T0 → T1 → T2 → T3 → T4 → T5 → T6 → T7 → T8 → T9 → T10 → Prop} {P2 : T0 → T1 → T2 → T3 → T4 → T5 → T6 → T7 → T8 → T9 → T10 → Prop} {P3 : T0 → T1 → T2 → T3 → T4 → T5 → T6 → T7 → T8 → T9 → T10 → Prop} {P4 : T0 → T1 → T2 → T3 → T4 → T5 → T6 → T7 → T8 → T9 → T10 → Prop} {P5 : T0 → T1 → T2 → T3 → T4 → T5 → T6 → T7 → T8 → T9 → T10 → Prop} {P6 : T0 → T1 → T2 → T3 → T4 → T5 → T6 → T7 → T8 → T9 → T10 → Prop} {P7 : T0 → T1 → T2 → T3 → T4 → T5 → T6 → T7 → T8 → T9 → T10 → Prop} {P8 : T0 → T1 → T2 → T3 → T4 → T5 → T6 → T7 → T8 → T9 → T10 → Prop} {P9 : T0 → T1 → T2 → T3 → T4 → T5 → T6 → T7 → T8 → T9 → T10 → Prop} {P10 : T0 → T1 → T2 → T3 → T4 → T5 → T6 → T7 → T8 → T9 → T10 → Prop} {P11 : T0 → T1 → T2 → T3 → T4 → T5 → T6 → T7 → T8 → T9 → T10 → Prop} {P12 : T0 → T1 → T2 → T3 → T4 → T5 → T6 → T7 → T8 → T9 → T10 → Prop} {P13 : T0 → T1 → T2 → T3 → T4 → T5 → T6 → T7 → T8 → T9 → T10 → Prop} {P14 : T0 → T1 → T2 → T3 → T4 → T5 → T6 → T7 → T8 → T9 → T10 → Prop} {P15 : T0 → T1 → T2 → T3 → T4 → T5 → T6 → T7 → T8 → T9 → T10 → Prop} {P16 : T0 → T1 → T2 → T3 → T4 → T5 → T6 → T7 → T8 → T9 → T10 → Prop} {G : Prop} (h : (P0) ∧ ∃ x0 : T0, ∃ x1 : T1, ∃ x2 : T2, ∃ x3 : T3, ∃ x4 : T4, ∃ x5 : T5, ∃ x6 : T6, ∃ x7 : T7, ∃ x8 : T8, ∃ x9 : T9, ∃ x10 : T10, (P1 x0 x1 x2 x3 x4 x5 x6 x7 x8 x9 x10) ∧ (P2 x0 x1 x2 x3 x4 x5 x6 x7 x8 x9 x10) ∧ (P3 x0 x1 x2 x3 x4 x5 x6 x7 x8 x9 x10) ∧ (P4 x0 x1 x2 x3 x4 x5 x6 x7 x8 x9 x10) ∧ (P5 x0 x1 x2 x3 x4 x5 x6 x7 x8 x9 x10) ∧ (P6 x0 x1 x2 x3 x4 x5 x6 x7 x8 x9 x10) ∧ (P7 x0 x1 x2 x3 x4 x5 x6 x7 x8 x9 x10) ∧ (P8 x0 x1 x2 x3 x4 x5 x6 x7 x8 x9 x10) ∧ (P9 x0 x1 x2 x3 x4 x5 x6 x7 x8 x9 x10) ∧ (P10 x0 x1 x2 x3 x4 x5 x6 x7 x8 x9 x10) ∧ (P11 x0 x1 x2 x3 x4 x5 x6 x7 x8 x9 x10) ∧ (P12 x0 x1 x2 x3 x4 x5 x6 x7 x8 x9 x10) ∧ (P13 x0 x1 x2 x3 x4 x5 x6 x7 x8 x9 x10) ∧ (P14 x0 x1 x2 x3 x4 x5 x6 x7 x8 x9 x10) ∧ (P15 x0 x1 x2 x3 x4 x5 x6 x7 x8 x9 x10) ∧ P16 x0 x1 x2 x3 x4 x5 x6 x7 x8 x9 x10) (k : P0 → ∀ x0, ∀ x1, ∀ x2, ∀ x3, ∀ x4, ∀ x5, ∀ x6, ∀ x7, ∀ x8, ∀ x9, ∀ x10, P1 x0 x1 x2 x3 x4 x5 x6 x7 x8 x9 x10 → P2 x0 x1 x2 x3 x4 x5 x6 x7 x8 x9 x10 → P3 x0 x1 x2 x3 x4 x5 x6 x7 x8 x9 x10 → P4 x0 x1 x2 x3 x4 x5 x6 x7 x8 x9 x10 → P5 x0 x1 x2 x3 x4 x5 x6 x7 x8 x9 x10 → P6 x0 x1 x2 x3 x4 x5 x6 x7 x8 x9 x10 → P7 x0 x1 x2 x3 x4 x5 x6 x7 x8 x9 x10 → P8 x0 x1 x2 x3 x4 x5 x6 x7 x8 x9 x10 → P9 x0 x1 x2 x3 x4 x5 x6 x7 x8 x9 x10 → P10 x0 x1 x2 x3 x4 x5 x6 x7 x8 x9 x10 → P11 x0 x1 x2 x3 x4 x5 x6 x7 x8 x9 x10 → P12 x0 x1 x2 x3 x4 x5 x6 x7 x8 x9 x10 → P13 x0 x1 x2 x3 x4 x5 x6 x7 x8 x9 x10 → P14 x0 x1 x2 x3 x4 x5 x6 x7 x8 x9 x10 → P15 x0 x1 x2 x3 x4 x5 x6 x7 x8 x9 x10 → P16 x0 x1 x2 x3 x4 x5 x6 x7 x8 x9 x10 → G) : G := o_AEEE h fun h0 x0 x1 x2 h => o_EEEE h fun x3 x4 x5 x6 h => o_EEEE h fun x7 x8 x9 x10 h => o_AAAA h fun h1 h2 h3 h4 h => o_AAAA h fun h5 h6 h7 h8 h => o_AAAA h fun h9 h10 h11 h12 h => o_AAA h fun h13 h14 h15 h16 => k h0 x0 x1 x2 x3 x4 x5 x6 x7 x8 x9 x10 h1 h2 h3 h4 h5 h6 h7 h8 h9 h10 h11 h12 h13 h14 h15 h16
theorem i_AA {P0 : Prop} {P1 : Prop} {P2 : Prop} (h0 : P0) (h1 : P1) (h2 : P2) : (P0) ∧ (P1) ∧ P2 := ⟨h0, h1, h2⟩
theorem i_AE {T0 : Sort _} {P0 : Prop} {P1 : T0 → Prop} (h0 : P0) (x0 : T0) (h1 : P1 x0) : (P0) ∧ ∃ x0 : T0, P1 x0 := ⟨h0, x0, h1⟩
theorem i_EA {T0 : Sort _} {P0 : T0 → Prop} {P1 : T0 → Prop} (x0 : T0) (h0 : P0 x0) (h1 : P1 x0) : ∃ x0 : T0, (P0 x0) ∧ P1 x0 := ⟨x0, h0, h1⟩
theorem i_EE {T0 : Sort _} {T1 : Sort _} {P0 : T0 → T1 → Prop} (x0 : T0) (x1 : T1) (h0 : P0 x0 x1) : ∃ x0 : T0, ∃ x1 : T1, P0 x0 x1 := ⟨x0, x1, h0⟩
theorem i_AAA {P0 : Prop} {P1 : Prop} {P2 : Prop} {P3 : Prop} (h0 : P0) (h1 : P1) (h2 : P2) (h3 : P3) : (P0) ∧ (P1) ∧ (P2) ∧ P3 := ⟨h0, h1, h2, h3⟩
theorem i_AEA {T0 : Sort _} {P0 : Prop} {P1 : T0 → Prop} {P2 : T0 → Prop} (h0 : P0) (x0 : T0) (h1 : P1 x0) (h2 : P2 x0) : (P0) ∧ ∃ x0 : T0, (P1 x0) ∧ P2 x0 := ⟨h0, x0, h1, h2⟩
theorem i_AEE {T0 : Sort _} {T1 : Sort _} {P0 : Prop} {P1 : T0 → T1 → Prop} (h0 : P0) (x0 : T0) (x1 : T1) (h1 : P1 x0 x1) : (P0) ∧ ∃ x0 : T0, ∃ x1 : T1, P1 x0 x1 := ⟨h0, x0, x1, h1⟩
theorem i_EAA {T0 : Sort _} {P0 : T0 → Prop} {P1 : T0 → Prop} {P2 : T0 → Prop} (x0 : T0) (h0 : P0 x0) (h1 : P1 x0) (h2 : P2 x0) : ∃ x0 : T0, (P0 x0) ∧ (P1 x0) ∧ P2 x0 := ⟨x0, h0, h1, h2⟩
theorem i_EAE {T0 : Sort _} {T1 : Sort _} {P0 : T0 → Prop} {P1 : T0 → T1 → Prop} (x0 : T0) (h0 : P0 x0) (x1 : T1) (h1 : P1 x0 x1) : ∃ x0 : T0, (P0 x0) ∧ ∃ x1 : T1, P1 x0 x1 := ⟨x0, h0, x1, h1⟩
theorem i_EEA {T0 : Sort _} {T1 : Sort _} {P0 : T0 → T1 → Prop} {P1 : T0 → T1 → Prop} (x0 : T0) (x1 : T1) (h0 : P0 x0 x1) (h1 : P1 x0 x1) : ∃ x0 : T0, ∃ x1 : T1, (P0 x0 x1) ∧ P1 x0 x1 := ⟨x0, x1, h0, h1⟩
theorem i_EEE {T0 : Sort _} {T1 : Sort _} {T2 : Sort _} {P0 : T0 → T1 → T2 → Prop} (x0 : T0) (x1 : T1) (x2 : T2) (h0 : P0 x0 x1 x2) : ∃ x0 : T0, ∃ x1 : T1, ∃ x2 : T2, P0 x0 x1 x2 := ⟨x0, x1, x2, h0⟩
theorem i_AAAA {P0 : Prop} {P1 : Prop} {P2 : Prop} {P3 : Prop} {P4 : Prop} (h0 : P0) (h1 : P1) (h2 : P2) (h3 : P3) (h4 : P4) : (P0) ∧ (P1) ∧ (P2) ∧ (P3) ∧ P4 := ⟨h0, h1, h2, h3, h4⟩
theorem i_AAEA {T0 : Sort _} {P0 : Prop} {P1 : Prop} {P2 : T0 → Prop} {P3 : T0 → Prop} (h0 : P0) (h1 : P1) (x0 : T0) (h2 : P2 x0) (h3 : P3 x0) : (P0) ∧ (P1) ∧ ∃ x0 : T0, (P2 x0) ∧ P3 x0 := ⟨h0, h1, x0, h2, h3⟩
theorem i_AAEE {T0 : Sort _} {T1 : Sort _} {P0 : Prop} {P1 : Prop} {P2 : T0 → T1 → Prop} (h0 : P0) (h1 : P1) (x0 : T0) (x1 : T1) (h2 : P2 x0 x1) : (P0) ∧ (P1) ∧ ∃ x0 : T0, ∃ x1 : T1, P2 x0 x1 := ⟨h0, h1, x0, x1, h2⟩
theorem i_AEAA {T0 : Sort _} {P0 : Prop} {P1 : T0 → Prop} {P2 : T0 → Prop} {P3 : T0 → Prop} (h0 : P0) (x0 : T0) (h1 : P1 x0) (h2 : P2 x0) (h3 : P3 x0) : (P0) ∧ ∃ x0 : T0, (P1 x0) ∧ (P2 x0) ∧ P3 x0 := ⟨h0, x0, h1, h2, h3⟩
theorem i_AEAE {T0 : Sort _} {T1 : Sort _} {P0 : Prop} {P1 : T0 → Prop} {P2 : T0 → T1 → Prop} (h0 : P0) (x0 : T0) (h1 : P1 x0) (x1 : T1) (h2 : P2 x0 x1) : (P0) ∧ ∃ x0 : T0, (P1 x0) ∧ ∃ x1 : T1, P2 x0 x1 := ⟨h0, x0, h1, x1, h2⟩
theorem i_AEEA {T0 : Sort _} {T1 : Sort _} {P0 : Prop} {P1 : T0 → T1 → Prop} {P2 : T0 → T1 → Prop} (h0 : P0) (x0 : T0) (x1 : T1) (h1 : P1 x0 x1) (h2 : P2 x0 x1) : (P0) ∧ ∃ x0 : T0, ∃ x1 : T1, (P1 x0 x1) ∧ P2 x0 x1 := ⟨h0, x0, x1, h1, h2⟩
theorem i_AEEE {T0 : Sort _} {T1 : Sort _} {T2 : Sort _} {P0 : Prop} {P1 : T0 → T1 → T2 → Prop} (h0 : P0) (x0 : T0) (x1 : T1) (x2 : T2) (h1 : P1 x0 x1 x2) : (P0) ∧ ∃ x0 : T0, ∃ x1 : T1, ∃ x2 : T2, P1 x0 x1 x2 := ⟨h0, x0, x1, x2, h1⟩
theorem i_EAAA {T0 : Sort _} {P0 : T0 → Prop} {P1 : T0 → Prop} {P2 : T0 → Prop} {P3 : T0 → Prop} (x0 : T0) (h0 : P0 x0) (h1 : P1 x0) (h2 : P2 x0) (h3 : P3 x0) : ∃ x0 : T0, (P0 x0) ∧ (P1 x0) ∧ (P2 x0) ∧ P3 x0 := ⟨x0, h0, h1, h2, h3⟩
theorem i_EAAE {T0 : Sort _} {T1 : Sort _} {P0 : T0 → Prop} {P1 : T0 → Prop} {P2 : T0 → T1 → Prop} (x0 : T0) (h0 : P0 x0) (h1 : P1 x0) (x1 : T1) (h2 : P2 x0 x1) : ∃ x0 : T0, (P0 x0) ∧ (P1 x0) ∧ ∃ x1 : T1, P2 x0 x1 := ⟨x0, h0, h1, x1, h2⟩
theorem i_EAEE {T0 : Sort _} {T1 : Sort _} {T2 : Sort _} {P0 : T0 → Prop} {P1 : T0 → T1 → T2 → Prop} (x0 : T0) (h0 : P0 x0) (x1 : T1) (x2 : T2) (h1 : P1 x0 x1 x2) : ∃ x0 : T0, (P0 x0) ∧ ∃ x1 : T1, ∃ x2 : T2, P1 x0 x1 x2 := ⟨x0, h0, x1, x2, h1⟩
theorem i_EEAA {T0 : Sort _} {T1 : Sort _} {P0 : T0 → T1 → Prop} {P1 : T0 → T1 → Prop} {P2 : T0 → T1 → Prop} (x0 : T0) (x1 : T1) (h0 : P0 x0 x1) (h1 : P1 x0 x1) (h2 : P2 x0 x1) : ∃ x0 : T0, ∃ x1 : T1, (P0 x0 x1) ∧ (P1 x0 x1) ∧ P2 x0 x1 := ⟨x0, x1, h0, h1, h2⟩
theorem i_EEEA {T0 : Sort _} {T1 : Sort _} {T2 : Sort _} {P0 : T0 → T1 → T2 → Prop} {P1 : T0 → T1 → T2 → Prop} (x0 : T0) (x1 : T1) (x2 : T2) (h0 : P0 x0 x1 x2) (h1 : P1 x0 x1 x2) : ∃ x0 : T0, ∃ x1 : T1, ∃ x2 : T2, (P0 x0 x1 x2) ∧ P1 x0 x1 x2 := ⟨x0, x1, x2, h0, h1⟩
theorem i_EEEE {T0 : Sort _} {T1 : Sort _} {T2 : Sort _} {T3 : Sort _} {P0 : T0 → T1 → T2 → T3 → Prop} (x0 : T0) (x1 : T1) (x2 : T2) (x3 : T3) (h0 : P0 x0 x1 x2 x3) : ∃ x0 : T0, ∃ x1 : T1, ∃ x2 : T2, ∃ x3 : T3, P0 x0 x1 x2 x3 := ⟨x0, x1, x2, x3, h0⟩
theorem i_AAAEA {T0 : Sort _} {P0 : Prop} {P1 : Prop} {P2 : Prop} {P3 : T0 → Prop} {P4 : T0 → Prop} (h0 : P0) (h1 : P1) (h2 : P2) (x0 : T0) (h3 : P3 x0) (h4 : P4 x0) : (P0) ∧ (P1) ∧ (P2) ∧ ∃ x0 : T0, (P3 x0) ∧ P4 x0 := (i_AAA h0 h1 h2 (i_EA x0 h3 h4))
theorem i_AEEAA {T0 : Sort _} {T1 : Sort _} {P0 : Prop} {P1 : T0 → T1 → Prop} {P2 : T0 → T1 → Prop} {P3 : T0 → T1 → Prop} (h0 : P0) (x0 : T0) (x1 : T1) (h1 : P1 x0 x1) (h2 : P2 x0 x1) (h3 : P3 x0 x1) : (P0) ∧ ∃ x0 : T0, ∃ x1 : T1, (P1 x0 x1) ∧ (P2 x0 x1) ∧ P3 x0 x1 := (i_AEE h0 x0 x1 (i_AA h1 h2 h3))
theorem i_EAAAA {T0 : Sort _} {P0 : T0 → Prop} {P1 : T0 → Prop} {P2 : T0 → Prop} {P3 : T0 → Prop} {P4 : T0 → Prop} (x0 : T0) (h0 : P0 x0) (h1 : P1 x0) (h2 : P2 x0) (h3 : P3 x0) (h4 : P4 x0) : ∃ x0 : T0, (P0 x0) ∧ (P1 x0) ∧ (P2 x0) ∧ (P3 x0) ∧ P4 x0 := (i_EAA x0 h0 h1 (i_AA h2 h3 h4))
theorem i_EAAEA {T0 : Sort _} {T1 : Sort _} {P0 : T0 → Prop} {P1 : T0 → Prop} {P2 : T0 → T1 → Prop} {P3 : T0 → T1 → Prop} (x0 : T0) (h0 : P0 x0) (h1 : P1 x0) (x1 : T1) (h2 : P2 x0 x1) (h3 : P3 x0 x1) : ∃ x0 : T0, (P0 x0) ∧ (P1 x0) ∧ ∃ x1 : T1, (P2 x0 x1) ∧ P3 x0 x1 := (i_EAA x0 h0 h1 (i_EA x1 h2 h3))
theorem i_EEAAA {T0 : Sort _} {T1 : Sort _} {P0 : T0 → T1 → Prop} {P1 : T0 → T1 → Prop} {P2 : T0 → T1 → Prop} {P3 : T0 → T1 → Prop} (x0 : T0) (x1 : T1) (h0 : P0 x0 x1) (h1 : P1 x0 x1) (h2 : P2 x0 x1) (h3 : P3 x0 x1) : ∃ x0 : T0, ∃ x1 : T1, (P0 x0 x1) ∧ (P1 x0 x1) ∧ (P2 x0 x1) ∧ P3 x0 x1 := (i_EEA x0 x1 h0 (i_AA h1 h2 h3))
theorem i_EEEAA {T0 : Sort _} {T1 : Sort _} {T2 : Sort _} {P0 : T0 → T1 → T2 → Prop} {P1 : T0 → T1 → T2 → Prop} {P2 : T0 → T1 → T2 → Prop} (x0 : T0) (x1 : T1) (x2 : T2) (h0 : P0 x0 x1 x2) (h1 : P1 x0 x1 x2) (h2 : P2 x0 x1 x2) : ∃ x0 : T0, ∃ x1 : T1, ∃ x2 : T2, (P0 x0 x1 x2) ∧ (P1 x0 x1 x2) ∧ P2 x0 x1 x2 := (i_EEE x0 x1 x2 (i_AA h0 h1 h2))
theorem i_EEEEE {T0 : Sort _} {T1 : Sort _} {T2 : Sort _} {T3 : Sort _} {T4 : Sort _} {P0 : T0 → T1 → T2 → T3 → T4 → Prop} (x0 : T0) (x1 : T1) (x2 : T2) (x3 : T3) (x4 : T4) (h0 : P0 x0 x1 x2 x3 x4) : ∃ x0 : T0, ∃ x1 : T1, ∃ x2 : T2, ∃ x3 : T3, ∃ x4 : T4, P0 x0 x1 x2 x3 x4 := (i_EEE x0 x1 x2 (i_EE x3 x4 h0))
theorem i_AAAAAA {P0 : Prop} {P1 : Prop} {P2 : Prop} {P3 : Prop} {P4 : Prop} {P5 : Prop} {P6 : Prop} (h0 : P0) (h1 : P1) (h2 : P2) (h3 : P3) (h4 : P4) (h5 : P5) (h6 : P6) : (P0) ∧ (P1) ∧ (P2) ∧ (P3) ∧ (P4) ∧ (P5) ∧ P6 := (i_AAA h0 h1 h2 (i_AAA h3 h4 h5 h6))
theorem i_AEEAAA {T0 : Sort _} {T1 : Sort _} {P0 : Prop} {P1 : T0 → T1 → Prop} {P2 : T0 → T1 → Prop} {P3 : T0 → T1 → Prop} {P4 : T0 → T1 → Prop} (h0 : P0) (x0 : T0) (x1 : T1) (h1 : P1 x0 x1) (h2 : P2 x0 x1) (h3 : P3 x0 x1) (h4 : P4 x0 x1) : (P0) ∧ ∃ x0 : T0, ∃ x1 : T1, (P1 x0 x1) ∧ (P2 x0 x1) ∧ (P3 x0 x1) ∧ P4 x0 x1 := (i_AEE h0 x0 x1 (i_AAA h1 h2 h3 h4))
theorem i_EAAEAA {T0 : Sort _} {T1 : Sort _} {P0 : T0 → Prop} {P1 : T0 → Prop} {P2 : T0 → T1 → Prop} {P3 : T0 → T1 → Prop} {P4 : T0 → T1 → Prop} (x0 : T0) (h0 : P0 x0) (h1 : P1 x0) (x1 : T1) (h2 : P2 x0 x1) (h3 : P3 x0 x1) (h4 : P4 x0 x1) : ∃ x0 : T0, (P0 x0) ∧ (P1 x0) ∧ ∃ x1 : T1, (P2 x0 x1) ∧ (P3 x0 x1) ∧ P4 x0 x1 := (i_EAA x0 h0 h1 (i_EAA x1 h2 h3 h4))
theorem i_EAEEAA {T0 : Sort _} {T1 : Sort _} {T2 : Sort _} {P0 : T0 → Prop} {P1 : T0 → T1 → T2 → Prop} {P2 : T0 → T1 → T2 → Prop} {P3 : T0 → T1 → T2 → Prop} (x0 : T0) (h0 : P0 x0) (x1 : T1) (x2 : T2) (h1 : P1 x0 x1 x2) (h2 : P2 x0 x1 x2) (h3 : P3 x0 x1 x2) : ∃ x0 : T0, (P0 x0) ∧ ∃ x1 : T1, ∃ x2 : T2, (P1 x0 x1 x2) ∧ (P2 x0 x1 x2) ∧ P3 x0 x1 x2 := (i_EAE x0 h0 x1 (i_EAA x2 h1 h2 h3))
theorem i_EEAAAA {T0 : Sort _} {T1 : Sort _} {P0 : T0 → T1 → Prop} {P1 : T0 → T1 → Prop} {P2 : T0 → T1 → Prop} {P3 : T0 → T1 → Prop} {P4 : T0 → T1 → Prop} (x0 : T0) (x1 : T1) (h0 : P0 x0 x1) (h1 : P1 x0 x1) (h2 : P2 x0 x1) (h3 : P3 x0 x1) (h4 : P4 x0 x1) : ∃ x0 : T0, ∃ x1 : T1, (P0 x0 x1) ∧ (P1 x0 x1) ∧ (P2 x0 x1) ∧ (P3 x0 x1) ∧ P4 x0 x1 := (i_EEA x0 x1 h0 (i_AAA h1 h2 h3 h4))
theorem i_EEEAAA {T0 : Sort _} {T1 : Sort _} {T2 : Sort _} {P0 : T0 → T1 → T2 → Prop} {P1 : T0 → T1 → T2 → Prop} {P2 : T0 → T1 → T2 → Prop} {P3 : T0 → T1 → T2 → Prop} (x0 : T0) (x1 : T1) (x2 : T2) (h0 : P0 x0 x1 x2) (h1 : P1 x0 x1 x2) (h2 : P2 x0 x1 x2) (h3 : P3 x0 x1 x2) : ∃ x0 : T0, ∃ x1 : T1, ∃ x2 : T2, (P0 x0 x1 x2) ∧ (P1 x0 x1 x2) ∧ (P2 x0 x1 x2) ∧ P3 x0 x1 x2 := (i_EEE x0 x1 x2 (i_AAA h0 h1 h2 h3))
theorem i_EEEEEA {T0 : Sort _} {T1 : Sort _} {T2 : Sort _} {T3 : Sort _} {T4 : Sort _} {P0 : T0 → T1 → T2 → T3 → T4 → Prop} {P1 : T0 → T1 → T2 → T3 → T4 → Prop} (x0 : T0) (x1 : T1) (x2 : T2) (x3 : T3) (x4 : T4) (h0 : P0 x0 x1 x2 x3 x4) (h1 : P1 x0 x1 x2 x3 x4) : ∃ x0 : T0, ∃ x1 : T1, ∃ x2 : T2, ∃ x3 : T3, ∃ x4 : T4, (P0 x0 x1 x2 x3 x4) ∧ P1 x0 x1 x2 x3 x4 := (i_EEE x0 x1 x2 (i_EEA x3 x4 h0 h1))
theorem i_AAAAAAA {P0 : Prop} {P1 : Prop} {P2 : Prop} {P3 : Prop} {P4 : Prop} {P5 : Prop} {P6 : Prop} {P7 : Prop} (h0 : P0) (h1 : P1) (h2 : P2) (h3 : P3) (h4 : P4) (h5 : P5) (h6 : P6) (h7 : P7) : (P0) ∧ (P1) ∧ (P2) ∧ (P3) ∧ (P4) ∧ (P5) ∧ (P6) ∧ P7 := (i_AAAA h0 h1 h2 h3 (i_AAA h4 h5 h6 h7))
theorem i_EAAEEAA {T0 : Sort _} {T1 : Sort _} {T2 : Sort _} {P0 : T0 → Prop} {P1 : T0 → Prop} {P2 : T0 → T1 → T2 → Prop} {P3 : T0 → T1 → T2 → Prop} {P4 : T0 → T1 → T2 → Prop} (x0 : T0) (h0 : P0 x0) (h1 : P1 x0) (x1 : T1) (x2 : T2) (h2 : P2 x0 x1 x2) (h3 : P3 x0 x1 x2) (h4 : P4 x0 x1 x2) : ∃ x0 : T0, (P0 x0) ∧ (P1 x0) ∧ ∃ x1 : T1, ∃ x2 : T2, (P2 x0 x1 x2) ∧ (P3 x0 x1 x2) ∧ P4 x0 x1 x2 := (i_EAAE x0 h0 h1 x1 (i_EAA x2 h2 h3 h4))
theorem i_EEAAAAA {T0 : Sort _} {T1 : Sort _} {P0 : T0 → T1 → Prop} {P1 : T0 → T1 → Prop} {P2 : T0 → T1 → Prop} {P3 : T0 → T1 → Prop} {P4 : T0 → T1 → Prop} {P5 : T0 → T1 → Prop} (x0 : T0) (x1 : T1) (h0 : P0 x0 x1) (h1 : P1 x0 x1) (h2 : P2 x0 x1) (h3 : P3 x0 x1) (h4 : P4 x0 x1) (h5 : P5 x0 x1) : ∃ x0 : T0, ∃ x1 : T1, (P0 x0 x1) ∧ (P1 x0 x1) ∧ (P2 x0 x1) ∧ (P3 x0 x1) ∧ (P4 x0 x1) ∧ P5 x0 x1 := (i_EEAA x0 x1 h0 h1 (i_AAA h2 h3 h4 h5))
theorem i_EEEEAAA {T0 : Sort _} {T1 : Sort _} {T2 : Sort _} {T3 : Sort _} {P0 : T0 → T1 → T2 → T3 → Prop} {P1 : T0 → T1 → T2 → T3 → Prop} {P2 : T0 → T1 → T2 → T3 → Prop} {P3 : T0 → T1 → T2 → T3 → Prop} (x0 : T0) (x1 : T1) (x2 : T2) (x3 : T3) (h0 : P0 x0 x1 x2 x3) (h1 : P1 x0 x1 x2 x3) (h2 : P2 x0 x1 x2 x3) (h3 : P3 x0 x1 x2 x3) : ∃ x0 : T0, ∃ x1 : T1, ∃ x2 : T2, ∃ x3 : T3, (P0 x0 x1 x2 x3) ∧ (P1 x0 x1 x2 x3) ∧ (P2 x0 x1 x2 x3) ∧ P3 x0 x1 x2 x3 := (i_EEEE x0 x1 x2 x3 (i_AAA h0 h1 h2 h3))
theorem i_EAEEEAAA {T0 : Sort _} {T1 : Sort _} {T2 : Sort _} {T3 : Sort _} {P0 : T0 → Prop} {P1 : T0 → T1 → T2 → T3 → Prop} {P2 : T0 → T1 → T2 → T3 → Prop} {P3 : T0 → T1 → T2 → T3 → Prop} {P4 : T0 → T1 → T2 → T3 → Prop} (x0 : T0) (h0 : P0 x0) (x1 : T1) (x2 : T2) (x3 : T3) (h1 : P1 x0 x1 x2 x3) (h2 : P2 x0 x1 x2 x3) (h3 : P3 x0 x1 x2 x3) (h4 : P4 x0 x1 x2 x3) : ∃ x0 : T0, (P0 x0) ∧ ∃ x1 : T1, ∃ x2 : T2, ∃ x3 : T3, (P1 x0 x1 x2 x3) ∧ (P2 x0 x1 x2 x3) ∧ (P3 x0 x1 x2 x3) ∧ P4 x0 x1 x2 x3 := (i_EAEE x0 h0 x1 x2 (i_EAAA x3 h1 h2 h3 h4))
theorem i_EEEAAAAA {T0 : Sort _} {T1 : Sort _} {T2 : Sort _} {P0 : T0 → T1 → T2 → Prop} {P1 : T0 → T1 → T2 → Prop} {P2 : T0 → T1 → T2 → Prop} {P3 : T0 → T1 → T2 → Prop} {P4 : T0 → T1 → T2 → Prop} {P5 : T0 → T1 → T2 → Prop} (x0 : T0) (x1 : T1) (x2 : T2) (h0 : P0 x0 x1 x2) (h1 : P1 x0 x1 x2) (h2 : P2 x0 x1 x2) (h3 : P3 x0 x1 x2) (h4 : P4 x0 x1 x2) (h5 : P5 x0 x1 x2) : ∃ x0 : T0, ∃ x1 : T1, ∃ x2 : T2, (P0 x0 x1 x2) ∧ (P1 x0 x1 x2) ∧ (P2 x0 x1 x2) ∧ (P3 x0 x1 x2) ∧ (P4 x0 x1 x2) ∧ P5 x0 x1 x2 := (i_EEEA x0 x1 x2 h0 (i_AAAA h1 h2 h3 h4 h5))
theorem i_EEEEAAAA {T0 : Sort _} {T1 : Sort _} {T2 : Sort _} {T3 : Sort _} {P0 : T0 → T1 → T2 → T3 → Prop} {P1 : T0 → T1 → T2 → T3 → Prop} {P2 : T0 → T1 → T2 → T3 → Prop} {P3 : T0 → T1 → T2 → T3 → Prop} {P4 : T0 → T1 → T2 → T3 → Prop} (x0 : T0) (x1 : T1) (x2 : T2) (x3 : T3) (h0 : P0 x0 x1 x2 x3) (h1 : P1 x0 x1 x2 x3) (h2 : P2 x0 x1 x2 x3) (h3 : P3 x0 x1 x2 x3) (h4 : P4 x0 x1 x2 x3) : ∃ x0 : T0, ∃ x1 : T1, ∃ x2 : T2, ∃ x3 : T3, (P0 x0 x1 x2 x3) ∧ (P1 x0 x1 x2 x3) ∧ (P2 x0 x1 x2 x3) ∧ (P3 x0 x1 x2 x3) ∧ P4 x0 x1 x2 x3 := (i_EEEE x0 x1 x2 x3 (i_AAAA h0 h1 h2 h3 h4))
theorem i_AAAAAAAAA {P0 : Prop} {P1 : Prop} {P2 : Prop} {P3 : Prop} {P4 : Prop} {P5 : Prop} {P6 : Prop} {P7 : Prop} {P8 : Prop} {P9 : Prop} (h0 : P0) (h1 : P1) (h2 : P2) (h3 : P3) (h4 : P4) (h5 : P5) (h6 : P6) (h7 : P7) (h8 : P8) (h9 : P9) : (P0) ∧ (P1) ∧ (P2) ∧ (P3) ∧ (P4) ∧ (P5) ∧ (P6) ∧ (P7) ∧ (P8) ∧ P9 := (i_AAA h0 h1 h2 (i_AAA h3 h4 h5 (i_AAA h6 h7 h8 h9)))
theorem i_AEEEAAAAA {T0 : Sort _} {T1 : Sort _} {T2 : Sort _} {P0 : Prop} {P1 : T0 → T1 → T2 → Prop} {P2 : T0 → T1 → T2 → Prop} {P3 : T0 → T1 → T2 → Prop} {P4 : T0 → T1 → T2 → Prop} {P5 : T0 → T1 → T2 → Prop} {P6 : T0 → T1 → T2 → Prop} (h0 : P0) (x0 : T0) (x1 : T1) (x2 : T2) (h1 : P1 x0 x1 x2) (h2 : P2 x0 x1 x2) (h3 : P3 x0 x1 x2) (h4 : P4 x0 x1 x2) (h5 : P5 x0 x1 x2) (h6 : P6 x0 x1 x2) : (P0) ∧ ∃ x0 : T0, ∃ x1 : T1, ∃ x2 : T2, (P1 x0 x1 x2) ∧ (P2 x0 x1 x2) ∧ (P3 x0 x1 x2) ∧ (P4 x0 x1 x2) ∧ (P5 x0 x1 x2) ∧ P6 x0 x1 x2 := (i_AEE h0 x0 x1 (i_EAA x2 h1 h2 (i_AAA h3 h4 h5 h6)))
theorem i_AEEEEAAAA {T0 : Sort _} {T1 : Sort _} {T2 : Sort _} {T3 : Sort _} {P0 : Prop} {P1 : T0 → T1 → T2 → T3 → Prop} {P2 : T0 → T1 → T2 → T3 → Prop} {P3 : T0 → T1 → T2 → T3 → Prop} {P4 : T0 → T1 → T2 → T3 → Prop} {P5 : T0 → T1 → T2 → T3 → Prop} (h0 : P0) (x0 : T0) (x1 : T1) (x2 : T2) (x3 : T3) (h1 : P1 x0 x1 x2 x3) (h2 : P2 x0 x1 x2 x3) (h3 : P3 x0 x1 x2 x3) (h4 : P4 x0 x1 x2 x3) (h5 : P5 x0 x1 x2 x3) : (P0) ∧ ∃ x0 : T0, ∃ x1 : T1, ∃ x2 : T2, ∃ x3 : T3, (P1 x0 x1 x2 x3) ∧ (P2 x0 x1 x2 x3) ∧ (P3 x0 x1 x2 x3) ∧ (P4 x0 x1 x2 x3) ∧ P5 x0 x1 x2 x3 := (i_AEE h0 x0 x1 (i_EEA x2 x3 h1 (i_AAA h2 h3 h4 h5)))
theorem i_EEAAAAAAA {T0 : Sort _} {T1 : Sort _} {P0 : T0 → T1 → Prop} {P1 : T0 → T1 → Prop} {P2 : T0 → T1 → Prop} {P3 : T0 → T1 → Prop} {P4 : T0 → T1 → Prop} {P5 : T0 → T1 → Prop} {P6 : T0 → T1 → Prop} {P7 : T0 → T1 → Prop} (x0 : T0) (x1 : T1) (h0 : P0 x0 x1) (h1 : P1 x0 x1) (h2 : P2 x0 x1) (h3 : P3 x0 x1) (h4 : P4 x0 x1) (h5 : P5 x0 x1) (h6 : P6 x0 x1) (h7 : P7 x0 x1) : ∃ x0 : T0, ∃ x1 : T1, (P0 x0 x1) ∧ (P1 x0 x1) ∧ (P2 x0 x1) ∧ (P3 x0 x1) ∧ (P4 x0 x1) ∧ (P5 x0 x1) ∧ (P6 x0 x1) ∧ P7 x0 x1 := (i_EEA x0 x1 h0 (i_AAA h1 h2 h3 (i_AAA h4 h5 h6 h7)))
theorem i_EEEAAAAAA {T0 : Sort _} {T1 : Sort _} {T2 : Sort _} {P0 : T0 → T1 → T2 → Prop} {P1 : T0 → T1 → T2 → Prop} {P2 : T0 → T1 → T2 → Prop} {P3 : T0 → T1 → T2 → Prop} {P4 : T0 → T1 → T2 → Prop} {P5 : T0 → T1 → T2 → Prop} {P6 : T0 → T1 → T2 → Prop} (x0 : T0) (x1 : T1) (x2 : T2) (h0 : P0 x0 x1 x2) (h1 : P1 x0 x1 x2) (h2 : P2 x0 x1 x2) (h3 : P3 x0 x1 x2) (h4 : P4 x0 x1 x2) (h5 : P5 x0 x1 x2) (h6 : P6 x0 x1 x2) : ∃ x0 : T0, ∃ x1 : T1, ∃ x2 : T2, (P0 x0 x1 x2) ∧ (P1 x0 x1 x2) ∧ (P2 x0 x1 x2) ∧ (P3 x0 x1 x2) ∧ (P4 x0 x1 x2) ∧ (P5 x0 x1 x2) ∧ P6 x0 x1 x2 := (i_EEE x0 x1 x2 (i_AAA h0 h1 h2 (i_AAA h3 h4 h5 h6)))
theorem i_AEEEEAAAAA {T0 : Sort _} {T1 : Sort _} {T2 : Sort _} {T3 : Sort _} {P0 : Prop} {P1 : T0 → T1 → T2 → T3 → Prop} {P2 : T0 → T1 → T2 → T3 → Prop} {P3 : T0 → T1 → T2 → T3 → Prop} {P4 : T0 → T1 → T2 → T3 → Prop} {P5 : T0 → T1 → T2 → T3 → Prop} {P6 : T0 → T1 → T2 → T3 → Prop} (h0 : P0) (x0 : T0) (x1 : T1) (x2 : T2) (x3 : T3) (h1 : P1 x0 x1 x2 x3) (h2 : P2 x0 x1 x2 x3) (h3 : P3 x0 x1 x2 x3) (h4 : P4 x0 x1 x2 x3) (h5 : P5 x0 x1 x2 x3) (h6 : P6 x0 x1 x2 x3) : (P0) ∧ ∃ x0 : T0, ∃ x1 : T1, ∃ x2 : T2, ∃ x3 : T3, (P1 x0 x1 x2 x3) ∧ (P2 x0 x1 x2 x3) ∧ (P3 x0 x1 x2 x3) ∧ (P4 x0 x1 x2 x3) ∧ (P5 x0 x1 x2 x3) ∧ P6 x0 x1 x2 x3 := (i_AEEE h0 x0 x1 x2 (i_EAA x3 h1 h2 (i_AAA h3 h4 h5 h6)))
theorem i_EEEEAAAAAA {T0 : Sort _} {T1 : Sort _} {T2 : Sort _} {T3 : Sort _} {P0 : T0 → T1 → T2 → T3 → Prop} {P1 : T0 → T1 → T2 → T3 → Prop} {P2 : T0 → T1 → T2 → T3 → Prop} {P3 : T0 → T1 → T2 → T3 → Prop} {P4 : T0 → T1 → T2 → T3 → Prop} {P5 : T0 → T1 → T2 → T3 → Prop} {P6 : T0 → T1 → T2 → T3 → Prop} (x0 : T0) (x1 : T1) (x2 : T2) (x3 : T3) (h0 : P0 x0 x1 x2 x3) (h1 : P1 x0 x1 x2 x3) (h2 : P2 x0 x1 x2 x3) (h3 : P3 x0 x1 x2 x3) (h4 : P4 x0 x1 x2 x3) (h5 : P5 x0 x1 x2 x3) (h6 : P6 x0 x1 x2 x3) : ∃ x0 : T0, ∃ x1 : T1, ∃ x2 : T2, ∃ x3 : T3, (P0 x0 x1 x2 x3) ∧ (P1 x0 x1 x2 x3) ∧ (P2 x0 x1 x2 x3) ∧ (P3 x0 x1 x2 x3) ∧ (P4 x0 x1 x2 x3) ∧ (P5 x0 x1 x2 x3) ∧ P6 x0 x1 x2 x3 := (i_EEEE x0 x1 x2 x3 (i_AAA h0 h1 h2 (i_AAA h3 h4 h5 h6)))
theorem i_EEEEEAAAAA {T0 : Sort _} {T1 : Sort _} {T2 : Sort _} {T3 : Sort _} {T4 : Sort _} {P0 : T0 → T1 → T2 → T3 → T4 → Prop} {P1 : T0 → T1 → T2 → T3 → T4 → Prop} {P2 : T0 → T1 → T2 → T3 → T4 → Prop} {P3 : T0 → T1 → T2 → T3 → T4 → Prop} {P4 : T0 → T1 → T2 → T3 → T4 → Prop} {P5 : T0 → T1 → T2 → T3 → T4 → Prop} (x0 : T0) (x1 : T1) (x2 : T2) (x3 : T3) (x4 : T4) (h0 : P0 x0 x1 x2 x3 x4) (h1 : P1 x0 x1 x2 x3 x4) (h2 : P2 x0 x1 x2 x3 x4) (h3 : P3 x0 x1 x2 x3 x4) (h4 : P4 x0 x1 x2 x3 x4) (h5 : P5 x0 x1 x2 x3 x4) : ∃ x0 : T0, ∃ x1 : T1, ∃ x2 : T2, ∃ x3 : T3, ∃ x4 : T4, (P0 x0 x1 x2 x3 x4) ∧ (P1 x0 x1 x2 x3 x4) ∧ (P2 x0 x1 x2 x3 x4) ∧ (P3 x0 x1 x2 x3 x4) ∧ (P4 x0 x1 x2 x3 x4) ∧ P5 x0 x1 x2 x3 x4 := (i_EEEE x0 x1 x2 x3 (i_EAA x4 h0 h1 (i_AAA h2 h3 h4 h5)))
theorem i_AEAEEEEAAAA {T0 : Sort _} {T1 : Sort _} {T2 : Sort _} {T3 : Sort _} {T4 : Sort _} {P0 : Prop} {P1 : T0 → Prop} {P2 : T0 → T1 → T2 → T3 → T4 → Prop} {P3 : T0 → T1 → T2 → T3 → T4 → Prop} {P4 : T0 → T1 → T2 → T3 → T4 → Prop} {P5 : T0 → T1 → T2 → T3 → T4 → Prop} {P6 : T0 → T1 → T2 → T3 → T4 → Prop} (h0 : P0) (x0 : T0) (h1 : P1 x0) (x1 : T1) (x2 : T2) (x3 : T3) (x4 : T4) (h2 : P2 x0 x1 x2 x3 x4) (h3 : P3 x0 x1 x2 x3 x4) (h4 : P4 x0 x1 x2 x3 x4) (h5 : P5 x0 x1 x2 x3 x4) (h6 : P6 x0 x1 x2 x3 x4) : (P0) ∧ ∃ x0 : T0, (P1 x0) ∧ ∃ x1 : T1, ∃ x2 : T2, ∃ x3 : T3, ∃ x4 : T4, (P2 x0 x1 x2 x3 x4) ∧ (P3 x0 x1 x2 x3 x4) ∧ (P4 x0 x1 x2 x3 x4) ∧ (P5 x0 x1 x2 x3 x4) ∧ P6 x0 x1 x2 x3 x4 := (i_AEAE h0 x0 h1 x1 (i_EEEA x2 x3 x4 h2 (i_AAA h3 h4 h5 h6)))
theorem i_EAAEEEAAAAA {T0 : Sort _} {T1 : Sort _} {T2 : Sort _} {T3 : Sort _} {P0 : T0 → Prop} {P1 : T0 → Prop} {P2 : T0 → T1 → T2 → T3 → Prop} {P3 : T0 → T1 → T2 → T3 → Prop} {P4 : T0 → T1 → T2 → T3 → Prop} {P5 : T0 → T1 → T2 → T3 → Prop} {P6 : T0 → T1 → T2 → T3 → Prop} {P7 : T0 → T1 → T2 → T3 → Prop} (x0 : T0) (h0 : P0 x0) (h1 : P1 x0) (x1 : T1) (x2 : T2) (x3 : T3) (h2 : P2 x0 x1 x2 x3) (h3 : P3 x0 x1 x2 x3) (h4 : P4 x0 x1 x2 x3) (h5 : P5 x0 x1 x2 x3) (h6 : P6 x0 x1 x2 x3) (h7 : P7 x0 x1 x2 x3) : ∃ x0 : T0, (P0 x0) ∧ (P1 x0) ∧ ∃ x1 : T1, ∃ x2 : T2, ∃ x3 : T3, (P2 x0 x1 x2 x3) ∧ (P3 x0 x1 x2 x3) ∧ (P4 x0 x1 x2 x3) ∧ (P5 x0 x1 x2 x3) ∧ (P6 x0 x1 x2 x3) ∧ P7 x0 x1 x2 x3 := (i_EAAE x0 h0 h1 x1 (i_EEAA x2 x3 h2 h3 (i_AAA h4 h5 h6 h7)))
theorem i_EEEEEAAAAAA {T0 : Sort _} {T1 : Sort _} {T2 : Sort _} {T3 : Sort _} {T4 : Sort _} {P0 : T0 → T1 → T2 → T3 → T4 → Prop} {P1 : T0 → T1 → T2 → T3 → T4 → Prop} {P2 : T0 → T1 → T2 → T3 → T4 → Prop} {P3 : T0 → T1 → T2 → T3 → T4 → Prop} {P4 : T0 → T1 → T2 → T3 → T4 → Prop} {P5 : T0 → T1 → T2 → T3 → T4 → Prop} {P6 : T0 → T1 → T2 → T3 → T4 → Prop} (x0 : T0) (x1 : T1) (x2 : T2) (x3 : T3) (x4 : T4) (h0 : P0 x0 x1 x2 x3 x4) (h1 : P1 x0 x1 x2 x3 x4) (h2 : P2 x0 x1 x2 x3 x4) (h3 : P3 x0 x1 x2 x3 x4) (h4 : P4 x0 x1 x2 x3 x4) (h5 : P5 x0 x1 x2 x3 x4) (h6 : P6 x0 x1 x2 x3 x4) : ∃ x0 : T0, ∃ x1 : T1, ∃ x2 : T2, ∃ x3 : T3, ∃ x4 : T4, (P0 x0 x1 x2 x3 x4) ∧ (P1 x0 x1 x2 x3 x4) ∧ (P2 x0 x1 x2 x3 x4) ∧ (P3 x0 x1 x2 x3 x4) ∧ (P4 x0 x1 x2 x3 x4) ∧ (P5 x0 x1 x2 x3 x4) ∧ P6 x0 x1 x2 x3 x4 := (i_EEEE x0 x1 x2 x3 (i_EAAA x4 h0 h1 h2 (i_AAA h3 h4 h5 h6)))
theorem i_EEEEEEEEAAAA {T0 : Sort _} {T1 : Sort _} {T2 : Sort _} {T3 : Sort _} {T4 : Sort _} {T5 : Sort _} {T6 : Sort _} {T7 : Sort _} {P0 : T0 → T1 → T2 → T3 → T4 → T5 → T6 → T7 → Prop} {P1 : T0 → T1 → T2 → T3 → T4 → T5 → T6 → T7 → Prop} {P2 : T0 → T1 → T2 → T3 → T4 → T5 → T6 → T7 → Prop} {P3 : T0 → T1 → T2 → T3 → T4 → T5 → T6 → T7 → Prop} {P4 : T0 → T1 → T2 → T3 → T4 → T5 → T6 → T7 → Prop} (x0 : T0) (x1 : T1) (x2 : T2) (x3 : T3) (x4 : T4) (x5 : T5) (x6 : T6) (x7 : T7) (h0 : P0 x0 x1 x2 x3 x4 x5 x6 x7) (h1 : P1 x0 x1 x2 x3 x4 x5 x6 x7) (h2 : P2 x0 x1 x2 x3 x4 x5 x6 x7) (h3 : P3 x0 x1 x2 x3 x4 x5 x6 x7) (h4 : P4 x0 x1 x2 x3 x4 x5 x6 x7) : ∃ x0 : T0, ∃ x1 : T1, ∃ x2 : T2, ∃ x3 : T3, ∃ x4 : T4, ∃ x5 : T5, ∃ x6 : T6, ∃ x7 : T7, (P0 x0 x1 x2 x3 x4 x5 x6 x7) ∧ (P1 x0 x1 x2 x3 x4 x5 x6 x7) ∧ (P2 x0 x1 x2 x3 x4 x5 x6 x7) ∧ (P3 x0 x1 x2 x3 x4 x5 x6 x7) ∧ P4 x0 x1 x2 x3 x4 x5 x6 x7 := (i_EEEE x0 x1 x2 x3 (i_EEEE x4 x5 x6 x7 (i_AAAA h0 h1 h2 h3 h4)))
theorem i_AEAEEEEEAAAAA {T0 : Sort _} {T1 : Sort _} {T2 : Sort _} {T3 : Sort _} {T4 : Sort _} {T5 : Sort _} {P0 : Prop} {P1 : T0 → Prop} {P2 : T0 → T1 → T2 → T3 → T4 → T5 → Prop} {P3 : T0 → T1 → T2 → T3 → T4 → T5 → Prop} {P4 : T0 → T1 → T2 → T3 → T4 → T5 → Prop} {P5 : T0 → T1 → T2 → T3 → T4 → T5 → Prop} {P6 : T0 → T1 → T2 → T3 → T4 → T5 → Prop} {P7 : T0 → T1 → T2 → T3 → T4 → T5 → Prop} (h0 : P0) (x0 : T0) (h1 : P1 x0) (x1 : T1) (x2 : T2) (x3 : T3) (x4 : T4) (x5 : T5) (h2 : P2 x0 x1 x2 x3 x4 x5) (h3 : P3 x0 x1 x2 x3 x4 x5) (h4 : P4 x0 x1 x2 x3 x4 x5) (h5 : P5 x0 x1 x2 x3 x4 x5) (h6 : P6 x0 x1 x2 x3 x4 x5) (h7 : P7 x0 x1 x2 x3 x4 x5) : (P0) ∧ ∃ x0 : T0, (P1 x0) ∧ ∃ x1 : T1, ∃ x2 : T2, ∃ x3 : T3, ∃ x4 : T4, ∃ x5 : T5, (P2 x0 x1 x2 x3 x4 x5) ∧ (P3 x0 x1 x2 x3 x4 x5) ∧ (P4 x0 x1 x2 x3 x4 x5) ∧ (P5 x0 x1 x2 x3 x4 x5) ∧ (P6 x0 x1 x2 x3 x4 x5) ∧ P7 x0 x1 x2 x3 x4 x5 := (i_AEAE h0 x0 h1 x1 (i_EEE x2 x3 x4 (i_EAA x5 h2 h3 (i_AAA h4 h5 h6 h7))))
theorem i_EEEEEAAAAAAAAAA {T0 : Sort _} {T1 : Sort _} {T2 : Sort _} {T3 : Sort _} {T4 : Sort _} {P0 : T0 → T1 → T2 → T3 → T4 → Prop} {P1 : T0 → T1 → T2 → T3 → T4 → Prop} {P2 : T0 → T1 → T2 → T3 → T4 → Prop} {P3 : T0 → T1 → T2 → T3 → T4 → Prop} {P4 : T0 → T1 → T2 → T3 → T4 → Prop} {P5 : T0 → T1 → T2 → T3 → T4 → Prop} {P6 : T0 → T1 → T2 → T3 → T4 → Prop} {P7 : T0 → T1 → T2 → T3 → T4 → Prop} {P8 : T0 → T1 → T2 → T3 → T4 → Prop} {P9 : T0 → T1 → T2 → T3 → T4 → Prop} {P10 : T0 → T1 → T2 → T3 → T4 → Prop} (x0 : T0) (x1 : T1) (x2 : T2) (x3 : T3) (x4 : T4) (h0 : P0 x0 x1 x2 x3 x4) (h1 : P1 x0 x1 x2 x3 x4) (h2 : P2 x0 x1 x2 x3 x4) (h3 : P3 x0 x1 x2 x3 x4) (h4 : P4 x0 x1 x2 x3 x4) (h5 : P5 x0 x1 x2 x3 x4) (h6 : P6 x0 x1 x2 x3 x4) (h7 : P7 x0 x1 x2 x3 x4) (h8 : P8 x0 x1 x2 x3 x4) (h9 : P9 x0 x1 x2 x3 x4) (h10 : P10 x0 x1 x2 x3 x4) : ∃ x0 : T0, ∃ x1 : T1, ∃ x2 : T2, ∃ x3 : T3, ∃ x4 : T4, (P0 x0 x1 x2 x3 x4) ∧ (P1 x0 x1 x2 x3 x4) ∧ (P2 x0 x1 x2 x3 x4) ∧ (P3 x0 x1 x2 x3 x4) ∧ (P4 x0 x1 x2 x3 x4) ∧ (P5 x0 x1 x2 x3 x4) ∧ (P6 x0 x1 x2 x3 x4) ∧ (P7 x0 x1 x2 x3 x4) ∧ (P8 x0 x1 x2 x3 x4) ∧ (P9 x0 x1 x2 x3 x4) ∧ P10 x0 x1 x2 x3 x4 := (i_EEEE x0 x1 x2 x3 (i_EAAA x4 h0 h1 h2 (i_AAAA h3 h4 h5 h6 (i_AAA h7 h8 h9 h10))))
theorem i_AAEEEEEEAAAAAAAA {T0 : Sort _} {T1 : Sort _} {T2 : Sort _} {T3 : Sort _} {T4 : Sort _} {T5 : Sort _} {P0 : Prop} {P1 : Prop} {P2 : T0 → T1 → T2 → T3 → T4 → T5 → Prop} {P3 : T0 → T1 → T2 → T3 → T4 → T5 → Prop} {P4 : T0 → T1 → T2 → T3 → T4 → T5 → Prop} {P5 : T0 → T1 → T2 → T3 → T4 → T5 → Prop} {P6 : T0 → T1 → T2 → T3 → T4 → T5 → Prop} {P7 : T0 → T1 → T2 → T3 → T4 → T5 → Prop} {P8 : T0 → T1 → T2 → T3 → T4 → T5 → Prop} {P9 : T0 → T1 → T2 → T3 → T4 → T5 → Prop} {P10 : T0 → T1 → T2 → T3 → T4 → T5 → Prop} (h0 : P0) (h1 : P1) (x0 : T0) (x1 : T1) (x2 : T2) (x3 : T3) (x4 : T4) (x5 : T5) (h2 : P2 x0 x1 x2 x3 x4 x5) (h3 : P3 x0 x1 x2 x3 x4 x5) (h4 : P4 x0 x1 x2 x3 x4 x5) (h5 : P5 x0 x1 x2 x3 x4 x5) (h6 : P6 x0 x1 x2 x3 x4 x5) (h7 : P7 x0 x1 x2 x3 x4 x5) (h8 : P8 x0 x1 x2 x3 x4 x5) (h9 : P9 x0 x1 x2 x3 x4 x5) (h10 : P10 x0 x1 x2 x3 x4 x5) : (P0) ∧ (P1) ∧ ∃ x0 : T0, ∃ x1 : T1, ∃ x2 : T2, ∃ x3 : T3, ∃ x4 : T4, ∃ x5 : T5, (P2 x0 x1 x2 x3 x4 x5) ∧ (P3 x0 x1 x2 x3 x4 x5) ∧ (P4 x0 x1 x2 x3 x4 x5) ∧ (P5 x0 x1 x2 x3 x4 x5) ∧ (P6 x0 x1 x2 x3 x4 x5) ∧ (P7 x0 x1 x2 x3 x4 x5) ∧ (P8 x0 x1 x2 x3 x4 x5) ∧ (P9 x0 x1 x2 x3 x4 x5) ∧ P10 x0 x1 x2 x3 x4 x5 := (i_AAEE h0 h1 x0 x1 (i_EEEE x2 x3 x4 x5 (i_AAAA h2 h3 h4 h5 (i_AAAA h6 h7 h8 h9 h10))))
theorem i_EEEEEAAAAAAAAAAAAAA {T0 : Sort _} {T1 : Sort _} {T2 : Sort _} {T3 : Sort _} {T4 : Sort _} {P0 : T0 → T1 → T2 → T3 → T4 → Prop} {P1 : T0 → T1 → T2 → T3 → T4 → Prop} {P2 : T0 → T1 → T2 → T3 → T4 → Prop} {P3 : T0 → T1 → T2 → T3 → T4 → Prop} {P4 : T0 → T1 → T2 → T3 → T4 → Prop} {P5 : T0 → T1 → T2 → T3 → T4 → Prop} {P6 : T0 → T1 → T2 → T3 → T4 → Prop} {P7 : T0 → T1 → T2 → T3 → T4 → Prop} {P8 : T0 → T1 → T2 → T3 → T4 → Prop} {P9 : T0 → T1 → T2 → T3 → T4 → Prop} {P10 : T0 → T1 → T2 → T3 → T4 → Prop} {P11 : T0 → T1 → T2 → T3 → T4 → Prop} {P12 : T0 → T1 → T2 → T3 → T4 → Prop} {P13 : T0 → T1 → T2 → T3 → T4 → Prop} {P14 : T0 → T1 → T2 → T3 → T4 → Prop} (x0 : T0) (x1 : T1) (x2 : T2) (x3 : T3) (x4 : T4) (h0 : P0 x0 x1 x2 x3 x4) (h1 : P1 x0 x1 x2 x3 x4) (h2 : P2 x0 x1 x2 x3 x4) (h3 : P3 x0 x1 x2 x3 x4) (h4 : P4 x0 x1 x2 x3 x4) (h5 : P5 x0 x1 x2 x3 x4) (h6 : P6 x0 x1 x2 x3 x4) (h7 : P7 x0 x1 x2 x3 x4) (h8 : P8 x0 x1 x2 x3 x4) (h9 : P9 x0 x1 x2 x3 x4) (h10 : P10 x0 x1 x2 x3 x4) (h11 : P11 x0 x1 x2 x3 x4) (h12 : P12 x0 x1 x2 x3 x4) (h13 : P13 x0 x1 x2 x3 x4) (h14 : P14 x0 x1 x2 x3 x4) : ∃ x0 : T0, ∃ x1 : T1, ∃ x2 : T2, ∃ x3 : T3, ∃ x4 : T4, (P0 x0 x1 x2 x3 x4) ∧ (P1 x0 x1 x2 x3 x4) ∧ (P2 x0 x1 x2 x3 x4) ∧ (P3 x0 x1 x2 x3 x4) ∧ (P4 x0 x1 x2 x3 x4) ∧ (P5 x0 x1 x2 x3 x4) ∧ (P6 x0 x1 x2 x3 x4) ∧ (P7 x0 x1 x2 x3 x4) ∧ (P8 x0 x1 x2 x3 x4) ∧ (P9 x0 x1 x2 x3 x4) ∧ (P10 x0 x1 x2 x3 x4) ∧ (P11 x0 x1 x2 x3 x4) ∧ (P12 x0 x1 x2 x3 x4) ∧ (P13 x0 x1 x2 x3 x4) ∧ P14 x0 x1 x2 x3 x4 := (i_EEEE x0 x1 x2 x3 (i_EAAA x4 h0 h1 h2 (i_AAAA h3 h4 h5 h6 (i_AAAA h7 h8 h9 h10 (i_AAA h11 h12 h13 h14)))))
theorem i_AEEEEAAAAAAAAAAAAAAAA {T0 : Sort _} {T1 : Sort _} {T2 : Sort _} {T3 : Sort _} {P0 : Prop} {P1 : T0 → T1 → T2 → T3 → Prop} {P2 : T0 → T1 → T2 → T3 → Prop} {P3 : T0 → T1 → T2 → T3 → Prop} {P4 : T0 → T1 → T2 → T3 → Prop} {P5 : T0 → T1 → T2 → T3 → Prop} {P6 : T0 → T1 → T2 → T3 → Prop} {P7 : T0 → T1 → T2 → T3 → Prop} {P8 : T0 → T1 → T2 → T3 → Prop} {P9 : T0 → T1 → T2 → T3 → Prop} {P10 : T0 → T1 → T2 → T3 → Prop} {P11 : T0 → T1 → T2 → T3 → Prop} {P12 : T0 → T1 → T2 → T3 → Prop} {P13 : T0 → T1 → T2 → T3 → Prop} {P14 : T0 → T1 → T2 → T3 → Prop} {P15 : T0 → T1 → T2 → T3 → Prop} {P16 : T0 → T1 → T2 → T3 → Prop} {P17 : T0 → T1 → T2 → T3 → Prop} (h0 : P0) (x0 : T0) (x1 : T1) (x2 : T2) (x3 : T3) (h1 : P1 x0 x1 x2 x3) (h2 : P2 x0 x1 x2 x3) (h3 : P3 x0 x1 x2 x3) (h4 : P4 x0 x1 x2 x3) (h5 : P5 x0 x1 x2 x3) (h6 : P6 x0 x1 x2 x3) (h7 : P7 x0 x1 x2 x3) (h8 : P8 x0 x1 x2 x3) (h9 : P9 x0 x1 x2 x3) (h10 : P10 x0 x1 x2 x3) (h11 : P11 x0 x1 x2 x3) (h12 : P12 x0 x1 x2 x3) (h13 : P13 x0 x1 x2 x3) (h14 : P14 x0 x1 x2 x3) (h15 : P15 x0 x1 x2 x3) (h16 : P16 x0 x1 x2 x3) (h17 : P17 x0 x1 x2 x3) : (P0) ∧ ∃ x0 : T0, ∃ x1 : T1, ∃ x2 : T2, ∃ x3 : T3, (P1 x0 x1 x2 x3) ∧ (P2 x0 x1 x2 x3) ∧ (P3 x0 x1 x2 x3) ∧ (P4 x0 x1 x2 x3) ∧ (P5 x0 x1 x2 x3) ∧ (P6 x0 x1 x2 x3) ∧ (P7 x0 x1 x2 x3) ∧ (P8 x0 x1 x2 x3) ∧ (P9 x0 x1 x2 x3) ∧ (P10 x0 x1 x2 x3) ∧ (P11 x0 x1 x2 x3) ∧ (P12 x0 x1 x2 x3) ∧ (P13 x0 x1 x2 x3) ∧ (P14 x0 x1 x2 x3) ∧ (P15 x0 x1 x2 x3) ∧ (P16 x0 x1 x2 x3) ∧ P17 x0 x1 x2 x3 := (i_AEEE h0 x0 x1 x2 (i_EAAA x3 h1 h2 h3 (i_AAAA h4 h5 h6 h7 (i_AAA h8 h9 h10 (i_AAA h11 h12 h13 (i_AAA h14 h15 h16 h17))))))
theorem i_AAEEEEAAAAAAAAAAAAAAAA {T0 : Sort _} {T1 : Sort _} {T2 : Sort _} {T3 : Sort _} {P0 : Prop} {P1 : Prop} {P2 : T0 → T1 → T2 → T3 → Prop} {P3 : T0 → T1 → T2 → T3 → Prop} {P4 : T0 → T1 → T2 → T3 → Prop} {P5 : T0 → T1 → T2 → T3 → Prop} {P6 : T0 → T1 → T2 → T3 → Prop} {P7 : T0 → T1 → T2 → T3 → Prop} {P8 : T0 → T1 → T2 → T3 → Prop} {P9 : T0 → T1 → T2 → T3 → Prop} {P10 : T0 → T1 → T2 → T3 → Prop} {P11 : T0 → T1 → T2 → T3 → Prop} {P12 : T0 → T1 → T2 → T3 → Prop} {P13 : T0 → T1 → T2 → T3 → Prop} {P14 : T0 → T1 → T2 → T3 → Prop} {P15 : T0 → T1 → T2 → T3 → Prop} {P16 : T0 → T1 → T2 → T3 → Prop} {P17 : T0 → T1 → T2 → T3 → Prop} {P18 : T0 → T1 → T2 → T3 → Prop} (h0 : P0) (h1 : P1) (x0 : T0) (x1 : T1) (x2 : T2) (x3 : T3) (h2 : P2 x0 x1 x2 x3) (h3 : P3 x0 x1 x2 x3) (h4 : P4 x0 x1 x2 x3) (h5 : P5 x0 x1 x2 x3) (h6 : P6 x0 x1 x2 x3) (h7 : P7 x0 x1 x2 x3) (h8 : P8 x0 x1 x2 x3) (h9 : P9 x0 x1 x2 x3) (h10 : P10 x0 x1 x2 x3) (h11 : P11 x0 x1 x2 x3) (h12 : P12 x0 x1 x2 x3) (h13 : P13 x0 x1 x2 x3) (h14 : P14 x0 x1 x2 x3) (h15 : P15 x0 x1 x2 x3) (h16 : P16 x0 x1 x2 x3) (h17 : P17 x0 x1 x2 x3) (h18 : P18 x0 x1 x2 x3) : (P0) ∧ (P1) ∧ ∃ x0 : T0, ∃ x1 : T1, ∃ x2 : T2, ∃ x3 : T3, (P2 x0 x1 x2 x3) ∧ (P3 x0 x1 x2 x3) ∧ (P4 x0 x1 x2 x3) ∧ (P5 x0 x1 x2 x3) ∧ (P6 x0 x1 x2 x3) ∧ (P7 x0 x1 x2 x3) ∧ (P8 x0 x1 x2 x3) ∧ (P9 x0 x1 x2 x3) ∧ (P10 x0 x1 x2 x3) ∧ (P11 x0 x1 x2 x3) ∧ (P12 x0 x1 x2 x3) ∧ (P13 x0 x1 x2 x3) ∧ (P14 x0 x1 x2 x3) ∧ (P15 x0 x1 x2 x3) ∧ (P16 x0 x1 x2 x3) ∧ (P17 x0 x1 x2 x3) ∧ P18 x0 x1 x2 x3 := (i_AAEE h0 h1 x0 x1 (i_EEAA x2 x3 h2 h3 (i_AAAA h4 h5 h6 h7 (i_AAAA h8 h9 h10 h11 (i_AAA h12 h13 h14 (i_AAA h15 h16 h17 h18))))))
theorem i_AEEEEEEEEEEEAAAAAAAAAAAAAAA {T0 : Sort _} {T1 : Sort _} {T2 : Sort _} {T3 : Sort _} {T4 : Sort _} {T5 : Sort _} {T6 : Sort _} {T7 : Sort _} {T8 : Sort _} {T9 : Sort _} {T10 : Sort _} {P0 : Prop} {P1 : T0 → T1 → T2 → T3 → T4 → T5 → T6 → T7 → T8 → T9 → T10 → Prop} {P2 : T0 → T1 → T2 → T3 → T4 → T5 → T6 → T7 → T8 → T9 → T10 → Prop} {P3 : T0 → T1 → T2 → T3 → T4 → T5 → T6 → T7 → T8 → T9 → T10 → Prop} {P4 : T0 → T1 → T2 → T3 → T4 → T5 → T6 → T7 → T8 → T9 → T10 → Prop} {P5 : T0 → T1 → T2 → T3 → T4 → T5 → T6 → T7 → T8 → T9 → T10 → Prop} {P6 : T0 → T1 → T2 → T3 → T4 → T5 → T6 → T7 → T8 → T9 → T10 → Prop} {P7 : T0 → T1 → T2 → T3 → T4 → T5 → T6 → T7 → T8 → T9 → T10 → Prop} {P8 : T0 → T1 → T2 → T3 → T4 → T5 → T6 → T7 → T8 → T9 → T10 → Prop} {P9 : T0 → T1 → T2 → T3 → T4 → T5 → T6 → T7 → T8 → T9 → T10 → Prop} {P10 : T0 → T1 → T2 → T3 → T4 → T5 → T6 → T7 → T8 → T9 → T10 → Prop} {P11 : T0 → T1 → T2 → T3 → T4 → T5 → T6 → T7 → T8 → T9 → T10 → Prop} {P12 : T0 → T1 → T2 → T3 → T4 → T5 → T6 → T7 → T8 → T9 → T10 → Prop} {P13 : T0 → T1 → T2 → T3 → T4 → T5 → T6 → T7 → T8 → T9 → T10 → Prop} {P14 : T0 → T1 → T2 → T3 → T4 → T5 → T6 → T7 → T8 → T9 → T10 → Prop} {P15 : T0 → T1 → T2 → T3 → T4 → T5 → T6 → T7 → T8 → T9 → T10 → Prop} {P16 : T0 → T1 → T2 → T3 → T4 → T5 → T6 → T7 → T8 → T9 → T10 → Prop} (h0 : P0) (x0 : T0) (x1 : T1) (x2 : T2) (x3 : T3) (x4 : T4) (x5 : T5) (x6 : T6) (x7 : T7) (x8 : T8) (x9 : T9) (x10 : T10) (h1 : P1 x0 x1 x2 x3 x4 x5 x6 x7 x8 x9 x10) (h2 : P2 x0 x1 x2 x3 x4 x5 x6 x7 x8 x9 x10) (h3 : P3 x0 x1 x2 x3 x4 x5 x6 x7 x8 x9 x10) (h4 : P4 x0 x1 x2 x3 x4 x5 x6 x7 x8 x9 x10) (h5 : P5 x0 x1 x2 x3 x4 x5 x6 x7 x8 x9 x10) (h6 : P6 x0 x1 x2 x3 x4 x5 x6 x7 x8 x9 x10) (h7 : P7 x0 x1 x2 x3 x4 x5 x6 x7 x8 x9 x10) (h8 : P8 x0 x1 x2 x3 x4 x5 x6 x7 x8 x9 x10) (h9 : P9 x0 x1 x2 x3 x4 x5 x6 x7 x8 x9 x10) (h10 : P10 x0 x1 x2 x3 x4 x5 x6 x7 x8 x9 x10) (h11 : P11 x0 x1 x2 x3 x4 x5 x6 x7 x8 x9 x10) (h12 : P12 x0 x1 x2 x3 x4 x5 x6 x7 x8 x9 x10) (h13 : P13 x0 x1 x2 x3 x4 x5 x6 x7 x8 x9 x10) (h14 : P14 x0 x1 x2 x3 x4 x5 x6 x7 x8 x9 x10) (h15 : P15 x0 x1 x2 x3 x4 x5 x6 x7 x8 x9 x10) (h16 : P16 x0 x1 x2 x3 x4 x5 x6 x7 x8 x9 x10) : (P0) ∧ ∃ x0 : T0, ∃ x1 : T1, ∃ x2 : T2, ∃ x3 : T3, ∃ x4 : T4, ∃ x5 : T5, ∃ x6 : T6, ∃ x7 : T7, ∃ x8 : T8, ∃ x9 : T9, ∃ x10 : T10, (P1 x0 x1 x2 x3 x4 x5 x6 x7 x8 x9 x10) ∧ (P2 x0 x1 x2 x3 x4 x5 x6 x7 x8 x9 x10) ∧ (P3 x0 x1 x2 x3 x4 x5 x6 x7 x8 x9 x10) ∧ (P4 x0 x1 x2 x3 x4 x5 x6 x7 x8 x9 x10) ∧ (P5 x0 x1 x2 x3 x4 x5 x6 x7 x8 x9 x10) ∧ (P6 x0 x1 x2 x3 x4 x5 x6 x7 x8 x9 x10) ∧ (P7 x0 x1 x2 x3 x4 x5 x6 x7 x8 x9 x10) ∧ (P8 x0 x1 x2 x3 x4 x5 x6 x7 x8 x9 x10) ∧ (P9 x0 x1 x2 x3 x4 x5 x6 x7 x8 x9 x10) ∧ (P10 x0 x1 x2 x3 x4 x5 x6 x7 x8 x9 x10) ∧ (P11 x0 x1 x2 x3 x4 x5 x6 x7 x8 x9 x10) ∧ (P12 x0 x1 x2 x3 x4 x5 x6 x7 x8 x9 x10) ∧ (P13 x0 x1 x2 x3 x4 x5 x6 x7 x8 x9 x10) ∧ (P14 x0 x1 x2 x3 x4 x5 x6 x7 x8 x9 x10) ∧ (P15 x0 x1 x2 x3 x4 x5 x6 x7 x8 x9 x10) ∧ P16 x0 x1 x2 x3 x4 x5 x6 x7 x8 x9 x10 := (i_AEEE h0 x0 x1 x2 (i_EEEE x3 x4 x5 x6 (i_EEEE x7 x8 x9 x10 (i_AAAA h1 h2 h3 h4 (i_AAAA h5 h6 h7 h8 (i_AAAA h9 h10 h11 h12 (i_AAA h13 h14 h15 h16)))))))
end Mine
local macro_rules | `(tactic| wide_open using $h) => `(tactic| first | exact Mine.x_ns $h | exact Mine.x_sn $h | exact Mine.x_ft $h | exact Mine.x_tf $h | (have e9 := Option.some.inj $h; clear $(⟨h.raw⟩):ident; subst e9) | rcases $h:term with ⟨⟩)
local macro_rules | `(tactic| wide_line using $t) => `(tactic| first | refine (Eq.symm $t) ▸ ?_ | rewrite [$t:term])
local macro_rules | `(tactic| wide_open with $t) => `(tactic| (wide_line using $t; try with_reducible rfl))
local macro_rules | `(tactic| wide_line with $a using $h) => `(tactic| first | exact Mine.x_ns (Eq.trans (Eq.symm $a) $h) | exact Mine.x_sn (Eq.trans (Eq.symm $a) $h) | (have e9 := Option.some.inj (Eq.trans (Eq.symm $a) $h); clear $(⟨h.raw⟩):ident; subst e9) | (rw [$a:term] at $(⟨h.raw⟩):ident; wide_open using $h))
section
open PySem PySem.W PySem.Calls PyProof.Rows
namespace Mine
noncomputable def er : Value → Value
  | .int i _ => .int i 0
  | .float b _ => .float b 0
  | .str s _ => .str s 0
  | .bytes b _ => .bytes b 0
  | v => v
theorem er_int {v : Value} {i : Int} (h : er v = .int i 0) : ∃ t, v = .int i t := by
  cases v <;> simp_all [er]
theorem er_str {v : Value} {x : Str} (h : er v = .str x 0) : ∃ t, v = .str x t := by
  cases v <;> simp_all [er]
theorem er_ref {v : Value} {a : Addr} (h : er v = .ref a) : v = .ref a := by
  cases v <;> simp_all [er]
theorem er_bool {v : Value} {b : Bool} (h : er v = .bool b) : v = .bool b := by
  cases v <;> simp_all [er]
theorem er_none {v : Value} (h : er v = .none) : v = .none := by
  cases v <;> simp_all [er]
theorem er_builtin {v : Value} {i : String} (h : er v = .builtin i) : v = .builtin i := by
  cases v <;> simp_all [er]
theorem er_type {v : Value} {i : String} (h : er v = .type i) : v = .type i := by
  cases v <;> simp_all [er]
@[simp] theorem er_er (v : Value) : er (er v) = er v := by cases v <;> rfl
noncomputable abbrev Names := List Str
inductive IterK where
  | list (l : Addr) (i : Nat)
  | tup (l : Addr) (i : Nat)
  | range (x left : Int)
  | dict (d : Addr) (i n ep : Nat)
inductive GO where
  | range (a b : Int)
  | iter (k : IterK)
  | list (xs : List Value)
  | tup (xs : List Value)
  | dict (es : List (Int × Value)) (ep : Nat)
  | inst (C : Addr) (fs : List (Nat × Value))
  | cell (v : Option Value)
  | frame (ns : List Str) (vs : List (Option Value))
  | raw (o : Obj)
noncomputable abbrev GH := Addr → Option GO
noncomputable def GH.set (G : GH) (a : Addr) (o : GO) : GH := fun b => if b = a then some o else G b
noncomputable def GH.del (G : GH) (a : Addr) : GH := fun b => if b = a then none else G b
noncomputable def GH.un (H G : GH) : GH := fun a => match G a with | some g => some g | none => H a
noncomputable def Disj (H G : GH) : Prop := ∀ a, (G a).isSome = true → H a = none
@[simp] theorem GH.set_self (G : GH) (a : Addr) (o : GO) : (G.set a o) a = some o := by simp [GH.set]
theorem GH.set_ne (G : GH) {a b : Addr} (o : GO) (h : b ≠ a) : (G.set a o) b = G b := by simp [GH.set, h]
theorem GH.set_set (G : GH) (a : Addr) (o o' : GO) : (G.set a o).set a o' = G.set a o' := by
  funext b; simp only [GH.set]; split <;> rfl
theorem GH.set_comm (G : GH) {a b : Addr} (o o' : GO) (h : a ≠ b) : (G.set a o).set b o' = (G.set b o').set a o := by
  funext c; simp only [GH.set]
  by_cases h1 : c = b
  · subst h1; simp [Ne.symm h]
  · simp [h1]
set_option tactic.hygienic true in
theorem GH.set_same (G : GH) {a : Addr} {o : GO} (h : G a = some o) : G.set a o = G := by
  funext b; simp only [GH.set]; split
  · rename_i e; (wide_line using e; wide_open with h)
  · rfl
theorem GH.un_right {H G : GH} {a : Addr} {g : GO} (h : G a = some g) : GH.un H G a = some g := by simp [GH.un, h]
theorem GH.un_left {H G : GH} {a : Addr} (h : G a = none) : GH.un H G a = H a := by simp [GH.un, h]
theorem GH.un_set (H G : GH) (a : Addr) (o : GO) : GH.un H (G.set a o) = (GH.un H G).set a o := by
  funext b; simp only [GH.un, GH.set]
  by_cases hb : b = a
  · simp [hb]
  · simp [hb]
theorem GH.set_un {H G : GH} {a : Addr} (o : GO) (h : G a = none) : GH.un (H.set a o) G = (GH.un H G).set a o := by
  funext b; simp only [GH.un, GH.set]
  by_cases hb : b = a
  · subst hb; simp [h]
  · simp [hb]
theorem Disj.left {H G : GH} (D : Disj H G) {a : Addr} {o : GO} (h : H a = some o) : G a = none := by
  cases q : G a with
  | none => rfl
  | some g => have := D a (by wide_open with q; rfl); wide_line with h using this
theorem Disj.right {H G : GH} (D : Disj H G) {a : Addr} {o : GO} (h : G a = some o) : H a = none := D a (by wide_open with h; rfl)
theorem Disj.setG {H G : GH} (D : Disj H G) {a : Addr} {o : GO} (h : H a = none) : Disj H (G.set a o) := by
  intro b hb
  by_cases e : b = a
  · wide_open with e; exact h
  · rw [GH.set_ne _ _ e] at hb; exact D b hb
theorem Disj.setH {H G : GH} (D : Disj H G) {a : Addr} {o : GO} (h : G a = none) : Disj (H.set a o) G := by
  intro b hb
  by_cases e : b = a
  · subst e; wide_line with h using hb
  · wide_open with GH.set_ne _ _ e; exact D b hb
noncomputable def instMap (AT : Names) (fs : List (Nat × Value)) (x : Str) : Option Value := (AT.idxOf? x).bind fun i => fs.lookup i
section
variable (prog : Program) (w : World) (AT : Names)
noncomputable def IterK.At (h : Heap) (a : Addr) : IterK → Prop
  | .list l i => h.IsListIter a l i
  | .tup l i => h.IsTupleIter a l i
  | .range x left => IsRangeIter h a x left 1
  | .dict d i n ep => h.IsKeyIter a d i n ep
theorem IterK.At.get {h : Heap} {a : Addr} {k : IterK} (x : k.At h a) : ∃ o, h.get? a = some o := by
  cases k with
  | list l i => refine o_EA x fun o e z9 => ?_; try clear x; exact ⟨o, e⟩
  | tup l i => refine o_EA x fun o e z9 => ?_; try clear x; exact ⟨o, e⟩
  | range u v => exact ⟨_, x⟩
  | dict d i n ep => refine o_EA x fun o e z9 => ?_; try clear x; exact ⟨o, e⟩
theorem IterK.At.move {h h' : Heap} {a : Addr} {k : IterK} (x : k.At h a) (kk : ∀ o, h.get? a = some o → h'.get? a = some o) : k.At h' a := by
  cases k with
  | list l i => refine o_EA x fun o e r => ?_; try clear x; exact (i_EA o (kk _ e) r)
  | tup l i => refine o_EA x fun o e r => ?_; try clear x; exact (i_EA o (kk _ e) r)
  | range u v => exact kk _ x
  | dict d i n ep => refine o_EA x fun o e r => ?_; try clear x; exact (i_EA o (kk _ e) r)
noncomputable def Own (h : Heap) (d : Addr → Addr) (a : Addr) : GO → Prop
  | .list xs => ∃ vs, h.PlainList a vs ∧ vs.toList.map er = xs ∧ vs.size ≤ sizeLine
  | .tup xs => ∃ vs n, h.get? a = some { cls := .type "tuple", data := .seq vs n } ∧ vs.toList.map er = xs ∧ vs.size ≤ sizeLine
  | .dict es ep => ∃ kvs, h.DictAt (intKind prog w) a kvs ep ∧ kvs.map (fun p => (p.1, er p.2)) = es ∧ kvs.length ≤ sizeLine ∧ a ≠ sysModules
  | .inst C fs => h.get? a = some (instObj C (d a)) ∧ h.DictLe (d a) fs.length ∧ ∃ m, h.Ns (d a) m ∧ ∀ x, (m x).map er = instMap AT fs x
  | .cell v => ∃ v', h.IsCell a v' ∧ v'.map er = v
  | .frame ns vs => ∃ m, h.Ns a m ∧ ∀ x i v, ns.idxOf? x = some i → (vs[i]?).join = some v → (m x).map er = some v
  | .raw o => h.get? a = some o
  | .range x y => ∃ t u v, IsRange h a x y 1 t u v
  | .iter k => k.At h a
noncomputable def GO.isInst : GO → Bool
  | .inst _ _ => true
  | _ => false
theorem Own.get {h : Heap} {d : Addr → Addr} {a : Addr} {g : GO} (x : Own prog w AT h d a g) : ∃ o, h.get? a = some o := by
  cases g with
  | list xs => refine o_EA x fun vs n92 z9 => ?_; try clear x; obtain ⟨n, e⟩ := n92; exact ⟨_, e⟩
  | tup xs => refine o_EEA x fun vs n e z9 => ?_; try clear x; exact ⟨_, e⟩
  | dict es ep => refine o_EA x fun kvs n92 z9 => ?_; try clear x; obtain ⟨o, es', e, _⟩ := n92; exact ⟨_, e⟩
  | inst C fs => exact ⟨_, x.1⟩
  | cell v => refine o_EA x fun v' n92 z9 => ?_; try clear x; obtain ⟨o, e, _⟩ := n92; exact ⟨_, e⟩
  | frame ns vs => refine o_EA x fun m n92 z9 => ?_; try clear x; obtain ⟨o, es, ep, e, _⟩ := n92; exact ⟨_, e⟩
  | raw o => exact ⟨_, x⟩
  | range u v => refine o_EEE x fun z9 z9 z9 e => ?_; try clear x; exact ⟨_, e⟩
  | iter k => exact IterK.At.get x
theorem Own.move {h h' : Heap} {d d' : Addr → Addr} {a : Addr} {g : GO} (x : Own prog w AT h d a g) (k : ∀ o, h.get? a = some o → h'.get? a = some o)
    (hd : g.isInst = true → d' a = d a) (kd : g.isInst = true → ∀ o, h.get? (d a) = some o → h'.get? (d a) = some o) : Own prog w AT h' d' a g := by
  cases g with
  | list xs => refine o_EA x fun vs n92 r => ?_; try clear x; obtain ⟨n, e⟩ := n92; exact (i_EA vs ⟨n, k _ e⟩ r)
  | tup xs => refine o_EEA x fun vs n e r => ?_; try clear x; exact (i_EEA vs n (k _ e) r)
  | dict es ep => refine o_EA x fun kvs n92 r => ?_; try clear x; obtain ⟨o, es', e, q⟩ := n92; exact (i_EA kvs (i_EEA o es' (k _ e) q) r)
  | inst C fs =>
    refine o_AAEA x fun e z m n94 r => ?_; try clear x; obtain ⟨o, es, ep, e2, q⟩ := n94
    refine (i_AAEA (by wide_open with hd rfl; exact k _ e) ?_ m ?_ r)
    · wide_open with hd rfl
      exact z.of_same e2 (kd rfl _ e2)
    · wide_open with hd rfl
      exact (i_EEEA o es ep (kd rfl _ e2) q)
  | cell v => refine o_EA x fun v' n92 r => ?_; try clear x; obtain ⟨o, e, q⟩ := n92; exact (i_EA v' (i_EA o (k _ e) q) r)
  | frame ns vs => refine o_EA x fun m n92 r => ?_; try clear x; obtain ⟨o, es, ep, e, q⟩ := n92; exact (i_EA m (i_EEEA o es ep (k _ e) q) r)
  | raw o => exact k _ x
  | range u v => refine o_EEE x fun t1 t2 t3 e => ?_; try clear x; exact (i_EEE t1 t2 t3 (k _ e))
  | iter kk => exact IterK.At.move x k
structure ReprD (B : Heap) (os₀ : OsState) (U : GH) (s : Shared) (d : Addr → Addr) : Prop where
  keep : ∀ b o, B.get? b = some o → s.heap.get? b = some o
  own : ∀ a g, U a = some g → B.get? a = none ∧ Own prog w AT s.heap d a g
  ins : ∀ a C fs, U a = some (.inst C fs) → B.get? (d a) = none ∧ U (d a) = none ∧ ∀ b C' fs', U b = some (.inst C' fs') → d b = d a → b = a
  gens : s.gens = #[]
  os : s.os = os₀
noncomputable def Repr (B : Heap) (os₀ : OsState) (U : GH) (s : Shared) : Prop := ∃ d, ReprD prog w AT B os₀ U s d
end
section
variable {prog : Program} {w : World} {AT : Names} {B : Heap} {os₀ : OsState} {U : GH} {s : Shared}
theorem Repr.irr (R : Repr prog w AT B os₀ U s) {s' : Shared} (h1 : s'.heap = s.heap) (h2 : s'.gens = s.gens) (h3 : s'.os = s.os) : Repr prog w AT B os₀ U s' := by
  obtain ⟨d, k, o, i, g, os⟩ := R
  exact ⟨d, by wide_open with h1; exact k, by wide_open with h1; exact o, i, by wide_open with h2; exact g, by wide_open with h3; exact os⟩
theorem Repr.keep (R : Repr prog w AT B os₀ U s) : ∀ b o, B.get? b = some o → s.heap.get? b = some o := let ⟨_, r⟩ := R; r.keep
theorem Repr.gens (R : Repr prog w AT B os₀ U s) : s.gens = #[] := let ⟨_, r⟩ := R; r.gens
theorem Repr.os (R : Repr prog w AT B os₀ U s) : s.os = os₀ := let ⟨_, r⟩ := R; r.os
theorem Repr.drop (R : Repr prog w AT B os₀ U s) {U' : GH} (h : ∀ a g, U' a = some g → U a = some g) : Repr prog w AT B os₀ U' s := by
  obtain ⟨d, k, o, i, g, os⟩ := R
  refine ⟨d, k, fun a g e => o a g (h _ _ e), fun a C fs e => ?_, g, os⟩
  refine o_AA (i a C fs (h _ _ e)) fun i1 i2 i3 => ?_
  refine (i_AA i1 ?_ (fun b C' fs' e' => i3 b C' fs' (h _ _ e')))
  cases q : U' (d a) with
  | none => rfl
  | some g' => wide_line with h _ _ q using i2
theorem lqN {a b n : Nat} (h : a ≤ b) : min a n + (n - b) ≤ n := by omega
theorem lqA {a b n N : Nat} (h : a ≤ b) (k : n ≤ N) : min a n + (n - b) ≤ N := Nat.le_trans (lqN h) k
theorem lqB {a n m N : Nat} (k : n + m ≤ N) : min a n + m + (n - a) ≤ N := by omega
theorem lqD {a n m N : Nat} (k : n + m ≤ N) : min a n + m ≤ N := by omega
theorem min_step (x T P : Nat) : min 256 (min 256 (x + 1 + T) + P) = min 256 (x + (P + (1 + T))) := by omega
theorem mid1 {l h : Nat} (k : l < h) : (l + h) / 2 - l < h - l := Nat.sub_lt_sub_right ((Nat.le_div_iff_mul_le (by decide)).mpr (by omega)) (Nat.div_lt_of_lt_mul (by omega))
theorem mid2 {l h : Nat} (k : l < h) : h - ((l + h) / 2 + 1) < h - l := Nat.sub_lt_sub_left k (Nat.lt_succ_of_le ((Nat.le_div_iff_mul_le (by decide)).mpr (by omega)))
theorem lt_of_get {h : Heap} {a : Addr} {o : Obj} (e : h.get? a = some o) : a < h.objs.size := Heap.lt_size e
theorem Repr.lt (R : Repr prog w AT B os₀ U s) {a : Addr} {g : GO} (e : U a = some g) : a < s.heap.objs.size := by
  obtain ⟨d, r⟩ := R
  obtain ⟨o, ho⟩ := (r.own a g e).2.get
  exact lt_of_get ho
theorem Repr.fresh (R : Repr prog w AT B os₀ U s) : U s.heap.objs.size = none := by
  cases q : U s.heap.objs.size with
  | none => rfl
  | some g => exact absurd (R.lt q) (Nat.lt_irrefl _)
theorem Repr.freshB (R : Repr prog w AT B os₀ U s) {a : Addr} (ha : s.heap.objs.size ≤ a) : B.get? a = none := by
  cases q : B.get? a with
  | none => rfl
  | some o => exact absurd (lt_of_get (R.keep _ _ q)) (Nat.not_lt.mpr ha)
theorem Repr.ext (R : Repr prog w AT B os₀ U s) {a : Addr} {g g' : GO} {h' : Heap} {tk : Nat} {dr : Drawn} (e : U a = some g) (_hi : g.isInst = false) (hi' : g'.isInst = false) (hx : Heap.ExtBut a s.heap h')
    (ho : ∀ d, Own prog w AT s.heap d a g → Own prog w AT h' d a g') : Repr prog w AT B os₀ (U.set a g') ⟨h', s.gens, dr, tk, s.os⟩ := by
  obtain ⟨d, k, o, i, gn, os⟩ := R
  have hB : ∀ b, B.get? b = none ∨ b ≠ a := fun b => by
    by_cases hb : b = a
    · left; wide_open with hb; exact (o a g e).1
    · exact .inr hb
  refine ⟨d, fun b ob eb => ?_, fun b gb eb => ?_, fun b C fs eb => ?_, gn, os⟩
  · rcases hB b with h1 | h1
    · wide_line with h1 using eb
    · exact hx b ob h1 (k _ _ eb)
  · by_cases hb : b = a
    · subst hb
      wide_line with GH.set_self using eb
      exact ⟨(o b g e).1, ho d (o b g e).2⟩
    · rw [GH.set_ne _ _ hb] at eb
      refine ⟨(o b gb eb).1, (o b gb eb).2.move _ _ _ (fun ob h1 => hx b ob hb h1) (fun z9 => rfl) fun hg ob h1 => hx _ ob ?_ h1⟩
      intro q
      cases gb with
      | inst C fs => have := (i b C fs eb).2.1; rw [q, e] at this; wide_open using this
      | _ => wide_open using hg
  · have hb : b ≠ a := by
      rintro rfl
      wide_line with GH.set_self using eb; wide_open using hi'
    rw [GH.set_ne _ _ hb] at eb
    refine o_AA (i b C fs eb) fun i1 i2 i3 => ?_
    have hda : d b ≠ a := by intro q; rw [q, e] at i2; wide_open using i2
    refine (i_AA i1 (by wide_open with GH.set_ne _ _ hda; exact i2) (fun c C' fs' ec hc => ?_))
    have hc' : c ≠ a := by
      rintro rfl
      wide_line with GH.set_self using ec; wide_open using hi'
    rw [GH.set_ne _ _ hc'] at ec
    exact i3 c C' fs' ec hc
theorem Repr.push (R : Repr prog w AT B os₀ U s) (o : Obj) (hf : o.isFreed = false) {tk : Nat} {dr : Drawn} : Repr prog w AT B os₀ (U.set s.heap.objs.size (.raw o)) ⟨s.heap.push o, s.gens, dr, tk, s.os⟩ := by
  have fr := R.fresh
  have frB := R.freshB (Nat.le_refl _)
  have lt := fun {a g} (e : U a = some g) => R.lt e
  obtain ⟨d, k, ow, i, gn, os⟩ := R
  have kk : ∀ b ob, s.heap.get? b = some ob → (s.heap.push o).get? b = some ob := fun b ob e => Heap.get?_push_of_some _ e
  refine ⟨d, fun b ob eb => kk _ _ (k _ _ eb), fun b gb eb => ?_, fun b C fs eb => ?_, gn, os⟩
  · by_cases hb : b = s.heap.objs.size
    · subst hb
      wide_line with GH.set_self using eb
      exact ⟨frB, Heap.get?_push_size _ hf⟩
    · rw [GH.set_ne _ _ hb] at eb
      exact ⟨(ow b gb eb).1, (ow b gb eb).2.move _ _ _ (kk b) (fun z9 => rfl) fun z9 => kk _⟩
  · have hb : b ≠ s.heap.objs.size := by rintro rfl; wide_line with GH.set_self using eb
    rw [GH.set_ne _ _ hb] at eb
    refine o_AA (i b C fs eb) fun i1 i2 i3 => ?_
    have hd : d b ≠ s.heap.objs.size := by
      refine o_AAEA ((ow b _ eb).2) fun z9 z9 m n94 z9 => ?_; obtain ⟨od, _, _, ed, _⟩ := n94
      exact Nat.ne_of_lt (lt_of_get ed)
    refine (i_AA i1 (by wide_open with GH.set_ne _ _ hd; exact i2) (fun c C' fs' ec hc => ?_))
    have hc' : c ≠ s.heap.objs.size := by rintro rfl; wide_line with GH.set_self using ec
    rw [GH.set_ne _ _ hc'] at ec
    exact i3 c C' fs' ec hc
theorem Repr.pushInst (R : Repr prog w AT B os₀ U s) (C : Addr) {tk : Nat} {dr : Drawn} : Repr prog w AT B os₀ (U.set (s.heap.objs.size + 1) (.inst C [])) ⟨(s.heap.push emptyDict).push (instObj C s.heap.objs.size), s.gens, dr, tk, s.os⟩ := by
  have fr := R.fresh
  have frB := R.freshB (Nat.le_refl _)
  have frB1 := R.freshB (Nat.le_succ _)
  have lt := fun {a g} (e : U a = some g) => R.lt e
  obtain ⟨d, k, ow, i, gn, os⟩ := R
  have kk : ∀ b ob, s.heap.get? b = some ob → ((s.heap.push emptyDict).push (instObj C s.heap.objs.size)).get? b = some ob := fun b ob e => Heap.get?_push_of_some _ (Heap.get?_push_of_some _ e)
  have hx : ((s.heap.push emptyDict).push (instObj C s.heap.objs.size)).get? (s.heap.objs.size + 1) = some (instObj C s.heap.objs.size) := by
    have := Heap.get?_push_size (s.heap.push emptyDict) (o := instObj C s.heap.objs.size) rfl
    rwa [Heap.size_push] at this
  have hdx : ((s.heap.push emptyDict).push (instObj C s.heap.objs.size)).Ns s.heap.objs.size fun z9 => none := (Heap.Ns.new s.heap (.type "dict")).push _
  refine ⟨fun a => if a = s.heap.objs.size + 1 then s.heap.objs.size else d a, fun b ob eb => kk _ _ (k _ _ eb), fun b gb eb => ?_, fun b C' fs eb => ?_, gn, os⟩
  · by_cases hb : b = s.heap.objs.size + 1
    · subst hb
      wide_line with GH.set_self using eb
      refine (i_AAAEA frB1 ?_ ?_ (fun z9 => none) ?_ (fun x => ?_))
      · simp only [if_true]; exact hx
      · simp only [if_true]
        exact (Heap.DictLe.new s.heap).of_same (Heap.get?_push_size _ rfl) (Heap.get?_push_of_some _ (Heap.get?_push_size _ rfl))
      · simp only [if_true]; exact hdx
      · unfold instMap; cases AT.idxOf? x <;> rfl
    · rw [GH.set_ne _ _ hb] at eb
      exact ⟨(ow b gb eb).1, (ow b gb eb).2.move _ _ _ (kk b) (fun z9 => by simp [hb]) fun z9 => kk _⟩
  · by_cases hb : b = s.heap.objs.size + 1
    · subst hb
      wide_line with GH.set_self using eb
      simp only [if_true]
      refine (i_AA frB (by wide_open with GH.set_ne _ _ (Nat.ne_of_lt (Nat.lt_succ_self _)); exact fr) (fun c C' fs' ec hc => ?_))
      by_cases hc' : c = s.heap.objs.size + 1
      · exact hc'
      · rw [GH.set_ne _ _ hc'] at ec
        simp only [hc', if_false] at hc
        refine o_AAEA ((ow c _ ec).2) fun z9 z9 m n94 z9 => ?_; obtain ⟨od, _, _, ed, _⟩ := n94
        have hq : d c < s.heap.objs.size := lt_of_get ed
        rw [hc] at hq
        exact absurd hq (Nat.lt_irrefl _)
    · rw [GH.set_ne _ _ hb] at eb
      simp only [hb, if_false]
      refine o_AA (i b C' fs eb) fun i1 i2 i3 => ?_
      refine o_AAEA ((ow b _ eb).2) fun z9 z9 m n94 z9 => ?_; obtain ⟨od, _, _, ed, _⟩ := n94
      have hlt : d b < s.heap.objs.size := lt_of_get ed
      refine (i_AA i1 (by wide_open with GH.set_ne _ _ (Nat.ne_of_lt (Nat.lt_succ_of_lt hlt)); exact i2) (fun c C'' fs' ec hc => ?_))
      by_cases hc' : c = s.heap.objs.size + 1
      · subst hc'
        simp only [if_true] at hc
        rw [← hc] at hlt
        exact absurd hlt (Nat.lt_irrefl _)
      · rw [GH.set_ne _ _ hc'] at ec
        simp only [hc', if_false] at hc
        exact i3 c _ fs' ec hc
noncomputable def setF : List (Nat × Value) → Nat → Value → List (Nat × Value)
  | [], i, v => [(i, v)]
  | (j, w) :: r, i, v => if j = i then (i, v) :: r else (j, w) :: setF r i v
theorem setF_lookup (fs : List (Nat × Value)) (i : Nat) (v : Value) (j : Nat) : (setF fs i v).lookup j = if j = i then some v else fs.lookup j := by
  induction fs with
  | nil =>
    simp only [setF, List.lookup]
    by_cases h : j = i
    · subst h; simp
    · have : (j == i) = false := by simpa using h
      simp [this, h]
  | cons p r ih =>
    obtain ⟨k, x⟩ := p
    simp only [setF]
    by_cases hk : k = i
    · subst hk
      simp only [if_true, List.lookup_cons]
      by_cases h : j = k
      · subst h; simp
      · have : (j == k) = false := by simpa using h
        simp [this, h]
    · simp only [hk, if_false, List.lookup_cons, ih]
      by_cases h : j = i
      · subst h
        have : (j == k) = false := by simpa using Ne.symm hk
        simp [this]
      · simp [h]
theorem setF_length (fs : List (Nat × Value)) (i : Nat) (v : Value) : (setF fs i v).length = if (fs.lookup i).isSome then fs.length else fs.length + 1 := by
  induction fs with
  | nil => rfl
  | cons p r ih =>
    obtain ⟨k, x⟩ := p
    simp only [setF, List.lookup_cons]
    by_cases hk : k = i
    · subst hk; simp
    · have : (i == k) = false := by simpa using Ne.symm hk
      simp only [hk, if_false, this, List.length_cons, ih]
      split <;> rfl
theorem wpAny_nsSet_sz {M : Model} {A : Around} {E : Value → Shared → Prop} {s : Shared} {a : Addr} {m : Str → Option Value} {name : Str} {v : Value} {k : Nat} {Q : Unit → Shared → Prop} (hn : s.heap.Ns a m) (hz : s.heap.DictLe a k)
    (h : ∀ h', h'.Ns a (fun x => if x = name then some v else m x) → h'.DictLe a (if (m name).isSome then k else k + 1) → Heap.SameBut a s.heap h' → Q () { s with heap := h', toks := s.toks + 1 }) :
    wpAny M A (nsSet a name v) Q E s := by
  have hn0 := hn
  refine o_EEEAAA hn fun o es ep ho hd hk hm => ?_; try clear hn
  have hsz := hz o es ep ho hd
  unfold nsSet
  refine wpAny_bind (wpAny_bind (wpAny_askSetting (wpAny_pure (wpAny_bind (wpAny_mkText (wpAny_bind (wpAny_loadPart ho ?_)))))))
  have hany : es.any (·.refKey) = false := by
    wide_open with Array.any_eq_false'; intro e he; refine o_EE (hk e he) fun n t h => ?_; simp [DictEntry.refKey, h]
  simp only [hd, aRefKeyMayBeTheName_eq, aRefKeyMayBeTheNameByArray, hany, Bool.and_false, Bool.false_eq_true, if_false]
  refine wpAny_updatePart ho (h _ ?_ ?_ (Heap.SameBut.update ..))
  · obtain ⟨c, d, dt, sl⟩ := o
    subst hd
    cases hi : es.findIdx? (·.key.isStr name) with
    | some i =>
      refine (i_EEEAAA _ _ ep (Heap.get?_update_self _ ho (by simp only [Obj.putName_eq, Obj.putNameByArray, hi]; rfl)) (by simp only [Obj.putName_eq, Obj.putNameByArray, hi]; rfl) (hk.modify _ _) (fun x => ?_))
      refine (?_ : _ = if x = name then some v else m x)
      ((first | refine hm ▸ ?_ | rewrite [← hm]); try with_reducible rfl); exact findBy_modify (fun n v => v.isStr n) Value.isStr_inj es name x v i hi
    | none =>
      refine (i_EEEAAA _ _ (ep + 1) (Heap.get?_update_self _ ho (by simp only [Obj.putName_eq, Obj.putNameByArray, hi]; rfl)) (by simp only [Obj.putName_eq, Obj.putNameByArray, hi]; rfl) (hk.push _ _ _ _) (fun x => ?_))
      refine (?_ : _ = if x = name then some v else m x)
      ((first | refine hm ▸ ?_ | rewrite [← hm]); try with_reducible rfl)
      exact findBy_push (fun n v => v.isStr n) es name x _ _ v (fun y => by
        refine (?_ : (name == y) = decide (y = name))
        by_cases h : y = name
        · subst h; simp
        · have : ¬ name = y := fun e => h e.symm
          simp [h, this]) hi
  · obtain ⟨c, d, dt, sl⟩ := o
    subst hd
    intro o' es' ep' ho' hd'
    have hmn : (m name).isSome = (es.findIdx? (·.key.isStr name)).isSome := by
      ((first | refine hm ▸ ?_ | rewrite [← hm]); try with_reducible rfl)
      unfold nsFind
      wide_open with findBy_of_findIdx?
      cases hi : es.findIdx? (fun e => e.key.isStr name) with
      | none => rfl
      | some i =>
        have hlt : i < es.size := (Array.findIdx?_eq_some_iff_getElem.mp hi).1
        simp [hlt]
    cases hi : es.findIdx? (·.key.isStr name) with
    | some i =>
      rw [Heap.get?_update_self _ ho (by simp only [Obj.putName_eq, Obj.putNameByArray, hi]; rfl)] at ho'
      wide_open using ho'
      simp only [Obj.putName_eq, Obj.putNameByArray, hi] at hd'
      wide_open using hd'
      (wide_line using hmn; wide_open with hi)
      simpa using hsz
    | none =>
      rw [Heap.get?_update_self _ ho (by simp only [Obj.putName_eq, Obj.putNameByArray, hi]; rfl)] at ho'
      wide_open using ho'
      simp only [Obj.putName_eq, Obj.putNameByArray, hi] at hd'
      wide_open using hd'
      (wide_line using hmn; wide_open with hi)
      simpa using hsz
theorem idxOf?_inj {l : List Str} {x y : Str} {i : Nat} (hx : l.idxOf? x = some i) (hy : l.idxOf? y = some i) : x = y := by
  have h1 := List.findIdx?_eq_some_iff_getElem.mp hx
  have h2 := List.findIdx?_eq_some_iff_getElem.mp hy
  refine o_EA h1 fun h1a h1b z9 => ?_; try clear h1
  refine o_EA h2 fun h2a h2b z9 => ?_; try clear h2
  have e1 := beq_iff_eq.mp h1b
  have e2 := beq_iff_eq.mp h2b
  ((first | refine e1 ▸ ?_ | rewrite [← e1]); (first | refine e2 ▸ ?_ | rewrite [← e2]); try with_reducible rfl)
theorem instMap_set {AT : Names} {fs : List (Nat × Value)} {x : Str} {i : Nat} (hx : AT.idxOf? x = some i) (v : Value) (y : Str) :
    instMap AT (setF fs i v) y = if y = x then some v else instMap AT fs y := by
  unfold instMap
  by_cases h : y = x
  · subst h; wide_open with hx; simp [setF_lookup]
  · simp only [h, if_false]
    cases q : AT.idxOf? y with
    | none => rfl
    | some j =>
      have : j ≠ i := by rintro rfl; exact h (idxOf?_inj q hx)
      simp [setF_lookup, this]
theorem Repr.setA (R : Repr prog w AT B os₀ U s) {a C : Addr} {fs : List (Nat × Value)} (e : U a = some (.inst C fs)) :
    ∃ dx m, s.heap.get? a = some (instObj C dx) ∧ s.heap.Ns dx m ∧ s.heap.DictLe dx fs.length ∧ (∀ x, (m x).map er = instMap AT fs x) ∧ B.get? dx = none ∧
    ∀ x i v h' tk dr, AT.idxOf? x = some i → h'.Ns dx (fun y => if y = x then some v else m y) → h'.DictLe dx (setF fs i (er v)).length → Heap.SameBut dx s.heap h' → Repr prog w AT B os₀ (U.set a (.inst C (setF fs i (er v)))) ⟨h', s.gens, dr, tk, s.os⟩ := by
  obtain ⟨d, k, o, i, gn, os⟩ := R
  refine o_AAEA ((o a _ e).2) fun h1 hz m h2 h3 => ?_
  have i0 := i a C fs e
  refine (i_EEAAAAA (d a) m h1 h2 hz h3 i0.1 (fun x j v h' tk dr hx hn hz' hs => ?_))
  have ne : ∀ {b g}, U b = some g → b ≠ d a := fun {b g} eb q => by rw [q, i0.2.1] at eb; wide_open using eb
  have kB : ∀ b ob, B.get? b = some ob → h'.get? b = some ob := fun b ob eb => by
    have hb : b ≠ d a := by intro q; rw [q, i0.1] at eb; wide_open using eb
    wide_open with hs.2 b hb; exact k _ _ eb
  refine ⟨d, kB, fun b gb eb => ?_, fun b C' fs' eb => ?_, gn, os⟩
  · by_cases hb : b = a
    · subst hb
      wide_line with GH.set_self using eb
      refine (i_AAAEA ((o b _ e).1) (by wide_open with hs.2 b (ne e); exact h1) hz' _ hn (fun y => ?_))
      wide_open with instMap_set hx
      split
      · rfl
      · exact h3 y
    · rw [GH.set_ne _ _ hb] at eb
      refine ⟨(o b gb eb).1, (o b gb eb).2.move _ _ _ (fun ob h4 => by wide_open with hs.2 b (ne eb); exact h4) (fun z9 => rfl) fun hg ob h4 => ?_⟩
      cases gb with
      | inst C' fs' =>
        have : d b ≠ d a := fun q => hb (i0.2.2 b C' fs' eb q)
        wide_open with hs.2 _ this; exact h4
      | _ => wide_open using hg
  · have hda : ∀ {c : Addr}, U c = none → c ≠ a := fun {c} hc q => by rw [q, e] at hc; wide_open using hc
    have at' : ∀ {b C' fs'}, (U.set a (.inst C (setF fs j (er v)))) b = some (.inst C' fs') → ∃ C'' fs'', U b = some (.inst C'' fs'') := fun {b C' fs'} eb => by
      by_cases hb : b = a
      · subst hb; exact (i_EE _ _ e)
      · rw [GH.set_ne _ _ hb] at eb; exact (i_EE _ _ eb)
    refine o_EE (at' eb) fun C1 f1 e1 => ?_
    refine o_AA (i b C1 f1 e1) fun i1 i2 i3 => ?_
    refine (i_AA i1 (by wide_open with GH.set_ne _ _ (hda i2); exact i2) (fun c C' fs' ec hc => ?_))
    refine o_EE (at' ec) fun C2 f2 e2 => ?_
    exact i3 c _ _ e2 hc
end
end Mine
end
set_option genInjectivity false
section
open PySem PySem.W PySem.Calls PyProof.Rows
namespace Mine
inductive CP where
  | loc (i : Nat)
  | cel (i : Nat)
  deriving DecidableEq
inductive CT where
  | one (p : CP)
  | many (ps : List CP)
mutual
inductive CE where
  | val (v : Value)
  | var (p : CP)
  | bin (op : Operator) (a b : CE)
  | neg (a : CE)
  | ofB (b : CB)
  | and (a b : CE)
  | or (a b : CE)
  | ite (t : CB) (a b : CE)
  | call (f : CE) (as : List CE)
  | meth (o : CE) (i : Nat) (as : List CE)
  | attr (o : CE) (i : Nat)
  | sub (o i : CE)
  | slice (o l u s : CE)
  | list (es : List CE)
  | tup (es : List CE)
  | dict (ks : List Int) (vs : List CE)
  | comp (elt : CE) (t : CT) (it : CE) (cond : CB) (nl : Nat) (caps : List Nat)
inductive CB where
  | tr (e : CE)
  | tt
  | not (b : CB)
  | and (a b : CB)
  | or (a b : CB)
  | ite (t a b : CB)
  | cmp (op : CmpOp) (a b : CE)
  | cmp2 (o1 o2 : CmpOp) (a b c : CE)
end
inductive CS where
  | expr (e : CE)
  | ret (e : CE)
  | set (t : CT) (e : CE)
  | seta (o : CE) (i : Nat) (e : CE)
  | seti (o i e : CE)
  | ite (t : CB) (a b : List CS)
  | while (t : CB) (b : List CS)
  | for (t : CT) (it : CE) (b : List CS)
  | cont
  | fdef (p : CP) (st : Stmt)
inductive Fl where
  | next | cont | ret (v : Value)
structure ClsSpec where
  init : Addr
  attrs : List Nat
  meths : List (Nat × Addr)
noncomputable abbrev Mm := List (Option Value)
noncomputable abbrev KV := Value → GH → Prop
structure Wd where
  prog : Program
  w : World
  AT : Names
  B : Heap
  os : OsState
  K : Frag
  cls : List (Addr × ClsSpec)
  fns : List Addr
  globs : List (Str × Value)
noncomputable abbrev Wd.R (W : Wd) (U : GH) (s : Shared) : Prop := Repr W.prog W.w W.AT W.B W.os U s
noncomputable abbrev Wd.M (W : Wd) : Model := model W.prog W.w
noncomputable def Room (A : Around) (n : Nat) : Prop := A.handled = none ∧ A.depth + 3 * n < recursionLimit ∧ A.units + 16 * n < 9700
noncomputable def Tr (W : Wd) (A : Around) {α : Type} (t : Sem α) (P : GH → Prop) (G : GH) (Q : α → GH → Prop) : Prop :=
  ∀ H s, P H → Disj H G → W.R (H.un G) s → wpAny W.M A t (fun v s' => ∃ G', Disj H G' ∧ W.R (H.un G') s' ∧ Q v G') (fun z9 z9 => False) s
noncomputable def CallT (W : Wd) (n : Nat) (f : Value) (args : List Value) (G : GH) (K : KV) : Prop :=
  ∀ A fv vs, Room A n → er fv = f → vs.map er = args → Tr W A (call fv vs) (fun z9 => True) G fun v G' => K (er v) G'
noncomputable def Sub (G' G : GH) : Prop := ∀ a g, G' a = some g → G a = some g
noncomputable def small (n : Nat) : Prop := n ≤ 4000000
noncomputable def intBin : Operator → Int → Int → Option Int
  | .Add, a, b => some (a + b)
  | .Sub, a, b => some (a - b)
  | _, _, _ => none
noncomputable def binG (W : Wd) (n : Nat) (op : Operator) (a b : Value) (G : GH) (K : KV) : Prop :=
  ∀ A va vb, Room A n → er va = a → er vb = b → Tr W A (binaryOp op va vb) (fun z9 => True) G fun v G' => K (er v) G'
noncomputable def cmpG (W : Wd) (n : Nat) (op : CmpOp) (a b : Value) (G : GH) (K : Bool → GH → Prop) : Prop :=
  ∀ A va vb, Room A n → er va = a → er vb = b → Tr W A (compareOp op va vb) (fun z9 => True) G fun v G' => ∃ b, v = .bool b ∧ K b G'
noncomputable def truthG (a : Value) (G : GH) (K : Bool → GH → Prop) : Prop := match a with
  | .bool b => K b G
  | .int i _ => K (i != 0) G
  | .none => K false G
  | _ => False
noncomputable def negG (a : Value) (G : GH) (K : KV) : Prop := match a with
  | .int i _ => K (.int (-i) 0) G
  | _ => False
noncomputable def pickI (xs : List Value) (i : Int) : Option Value := if 0 ≤ i then xs[i.toNat]? else if -(xs.length : Int) ≤ i then xs[(i + xs.length).toNat]? else none
noncomputable def subG (o i : Value) (G : GH) (K : KV) : Prop := match o, i with
  | .ref a, .int k _ => match G a with
    | some (.list xs) => ∃ v, pickI xs k = some v ∧ K v G
    | some (.tup xs) => ∃ v, pickI xs k = some v ∧ K v G
    | some (.dict es _) => ∃ v, es.lookup k = some v ∧ K v G
    | _ => False
  | _, _ => False
noncomputable def sliceG (W : Wd) (n : Nat) (o l u s : Value) (G : GH) (K : KV) : Prop :=
  ∀ A vo vl vu vs sl value slice, Room A n → er vo = o → er vl = l → er vu = u → er vs = s → (∃ ops, subscripted slice false vo (.ref sl) = operate ops (getItem vo (.ref sl))) →
    Tr W A (subscriptTail value slice vo (.ref sl)) (fun H => H sl = some (.raw { cls := .type "slice", data := .fields #[vl, vu, vs] })) G fun v G' => K (er v) G'
noncomputable def newG (o : GO) (G : GH) (K : KV) : Prop := ∀ a, G a = none → K (.ref a) (G.set a o)
noncomputable def isBlt : Value → Bool
  | .builtin _ => true
  | _ => false
noncomputable def attrG (W : Wd) (o : Value) (i : Nat) (G : GH) (K : KV) : Prop := match o with
  | .ref a => match G a with
    | some (.inst C fs) => ∃ sp v, W.cls.lookup C = some sp ∧ sp.attrs.contains i = true ∧ fs.lookup i = some v ∧ isBlt v = false ∧ K v G
    | _ => False
  | _ => False
noncomputable def setaG (W : Wd) (o : Value) (i : Nat) (v : Value) (G : GH) (K : GH → Prop) : Prop := match o with
  | .ref a => match G a with
    | some (.inst C fs) => ∃ sp, W.cls.lookup C = some sp ∧ sp.attrs.contains i = true ∧ fs.length ≤ 500 ∧ K (G.set a (.inst C (setF fs i v)))
    | _ => False
  | _ => False
noncomputable def methG (W : Wd) (o : Value) (i : Nat) (G : GH) : Option Value := match o with
  | .ref a => match G a with
    | some (.inst C fs) => match W.cls.lookup C with
      | some sp => if (fs.lookup i).isNone then (sp.meths.lookup i).map Value.ref else none
      | none => none
    | some (.list _) => (match W.AT[i]? with
      | some x => if x == Str.ofString "append" then some (.builtin "list.append") else if x == Str.ofString "pop" then some (.builtin "list.pop") else none
      | none => none)
    | some (.dict _ _) => (match W.AT[i]? with
      | some x => if x == Str.ofString "get" then some (.builtin "dict.get") else none
      | none => none)
    | _ => none
  | _ => none
noncomputable def keepG (W : Wd) (f : Value) (G : GH) : Prop := match f with
  | .builtin _ => True
  | .type _ => True
  | .ref a => W.fns.contains a = true ∨ ∃ o fd, G a = some (.raw o) ∧ o.data = .func fd
  | _ => False
noncomputable def setIdx (xs : List Value) (i : Int) (v : Value) : Option (List Value) := if 0 ≤ i ∧ i < xs.length then some (xs.set i.toNat v) else none
noncomputable def put (es : List (Int × Value)) (k : Int) (v : Value) : List (Int × Value) :=
  if es.any (fun kv => kv.1 = k) then es.map (fun kv => if kv.1 = k then (kv.1, v) else kv) else es ++ [(k, v)]
noncomputable def setiG (o i v : Value) (G : GH) (K : GH → Prop) : Prop := match o, i with
  | .ref a, .int k _ => match G a with
    | some (.list xs) => ∃ ys, setIdx xs k v = some ys ∧ K (G.set a (.list ys))
    | some (.dict es _) => small es.length ∧ ∀ ep, K (G.set a (.dict (put es k v) ep))
    | _ => False
  | _, _ => False
noncomputable def iterG (it : Value) (G : GH) (K : List Value → (GH → Prop) → Prop) : Prop := match it with
  | .ref a => match G a with
    | some (.list xs) => K xs fun G' => G' a = some (.list xs)
    | some (.tup xs) => K xs fun G' => G' a = some (.tup xs)
    | some (.dict es ep) => K (es.map fun p => .int p.1 0) fun G' => G' a = some (.dict es ep)
    | some (.range lo hi) => -4000000 ≤ lo ∧ hi ≤ 4000000 ∧ (lo ≤ 4000000 ∧ -4000000 ≤ hi) ∧ K ((List.range (hi - lo).toNat).map fun (j : Nat) => Value.int (lo + Int.ofNat j) 0) fun z9 => True
    | _ => False
  | _ => False
noncomputable def itemsG (v : Value) (G : GH) : Option (List Value) := match v with
  | .ref a => match G a with
    | some (.tup xs) => some xs
    | some (.list xs) => some xs
    | _ => none
  | _ => none
noncomputable def getP (cs : List Addr) (m : Mm) (p : CP) (G : GH) : Option Value := match p with
  | .loc i => (m[i]?).join
  | .cel i => match cs[i]? with
    | some c => (match G c with
      | some (.cell v) => v
      | _ => none)
    | none => none
noncomputable def optG {α : Type} (o : Option α) (K : α → Prop) : Prop := match o with
  | some v => K v
  | none => False
theorem truthG_b {b : Bool} {G : GH} {K : Bool → GH → Prop} : truthG (.bool b) G K = K b G := rfl
theorem truthG_i {i : Int} {t : Nat} {G : GH} {K : Bool → GH → Prop} : truthG (.int i t) G K = K (i != 0) G := rfl
theorem optG_some {α : Type} {v : α} {K : α → Prop} : optG (some v) K = K v := rfl
theorem optG.ex {α : Type} {o : Option α} {K : α → Prop} (h : optG o K) : ∃ v, o = some v ∧ K v := by
  cases o with
  | none => exact h.elim
  | some v => exact (i_EA v rfl h)
theorem opt_ok {α : Type} {o : Option α} {v : α} {K : α → Prop} (e : o = some v) (h : K v) : optG o K := by wide_open with e; exact h
noncomputable def setP (cs : List Addr) (p : CP) (v : Value) (m : Mm) (G : GH) (K : Mm → GH → Prop) : Prop := match p with
  | .loc i => optG m[i]? fun z9 => K (m.set i (some v)) G
  | .cel i => ∃ c x, cs[i]? = some c ∧ G c = some (.cell x) ∧ K m (G.set c (.cell (some v)))
noncomputable def setPs (cs : List Addr) : List CP → List Value → Mm → GH → (Mm → GH → Prop) → Prop
  | [], [], m, G, K => K m G
  | p :: ps, v :: vs, m, G, K => setP cs p v m G fun m' G' => setPs cs ps vs m' G' K
  | _, _, _, _, _ => False
noncomputable def setT (cs : List Addr) (t : CT) (v : Value) (m : Mm) (G : GH) (K : Mm → GH → Prop) : Prop := match t with
  | .one p => setP cs p v m G K
  | .many ps => ∃ vs, itemsG v G = some vs ∧ vs.length = ps.length ∧ setPs cs ps vs m G K
noncomputable def compG (chk : GH → Prop) (el : Value → GH → (Option Value → GH → Prop) → Prop) : List Value → List Value → GH → KV → Prop
  | [], acc, G, K => chk G ∧ newG (.list acc) G K
  | x :: xs, acc, G, K => chk G ∧ el x G fun o G' => compG chk el xs (acc ++ o.toList) G' K
noncomputable def forG (chk : GH → Prop) (bd : Value → Mm → GH → (Fl → Mm → GH → Prop) → Prop) : List Value → Mm → GH → (Fl → Mm → GH → Prop) → Prop
  | [], m, G, K => chk G ∧ K .next m G
  | x :: xs, m, G, K => chk G ∧ bd x m G fun fl m' G' => match fl with
    | .ret v => K (.ret v) m' G'
    | _ => forG chk bd xs m' G' K
noncomputable def whileG (ts : Mm → GH → (Bool → GH → Prop) → Prop) (bd : Mm → GH → (Fl → Mm → GH → Prop) → Prop) (m : Mm) (G : GH) (K : Fl → Mm → GH → Prop) : Prop :=
  ∃ (I : Nat → Mm → GH → Prop) (k : Nat), I k m G ∧ ∀ k m G, I k m G → ts m G fun b G1 => match b with
    | true => bd m G1 fun fl m2 G2 => (match fl with
      | .ret v => K (.ret v) m2 G2
      | _ => ∃ j, j < k ∧ I j m2 G2)
    | false => K .next m G1
mutual
noncomputable def wpE (W : Wd) (n : Nat) (cs : List Addr) (m : Mm) : CE → GH → KV → Prop
  | .val v, G, K => K v G
  | .var p, G, K => optG (getP cs m p G) fun v => K v G
  | .bin op a b, G, K => wpE W n cs m a G fun x G1 => wpE W n cs m b G1 fun y G2 => binG W n op x y G2 K
  | .neg a, G, K => wpE W n cs m a G fun x G1 => negG x G1 K
  | .ofB b, G, K => wpB W n cs m b G fun x G1 => K (.bool x) G1
  | .and a b, G, K => wpE W n cs m a G fun x G1 => truthG x G1 fun t G2 => match t with
    | true => wpE W n cs m b G2 K
    | false => K x G2
  | .or a b, G, K => wpE W n cs m a G fun x G1 => truthG x G1 fun t G2 => match t with
    | true => K x G2
    | false => wpE W n cs m b G2 K
  | .ite t a b, G, K => wpB W n cs m t G fun x G1 => match x with
    | true => wpE W n cs m a G1 K
    | false => wpE W n cs m b G1 K
  | .call f as, G, K => wpE W n cs m f G fun fv G1 => wpEs W n cs m as G1 fun vs G2 => keepG W fv G2 ∧ CallT W n fv vs G2 K
  | .meth o i as, G, K => wpE W n cs m o G fun ov G1 => ∃ fv, methG W ov i G1 = some fv ∧ wpEs W n cs m as G1 fun vs G2 => keepG W fv G2 ∧ CallT W n fv (ov :: vs) G2 K
  | .attr o i, G, K => wpE W n cs m o G fun ov G1 => attrG W ov i G1 K
  | .sub o i, G, K => wpE W n cs m o G fun ov G1 => wpE W n cs m i G1 fun iv G2 => subG ov iv G2 K
  | .slice o l u s, G, K => wpE W n cs m o G fun ov G1 => wpE W n cs m l G1 fun lv G2 => wpE W n cs m u G2 fun uv G3 => wpE W n cs m s G3 fun sv G4 => sliceG W n ov lv uv sv G4 K
  | .list es, G, K => wpEs W n cs m es G fun vs G1 => newG (.list vs) G1 K
  | .tup es, G, K => wpEs W n cs m es G fun vs G1 => newG (.tup vs) G1 K
  | .dict ks es, G, K => wpEs W n cs m es G fun vs G1 => ∀ ep, newG (.dict ((ks.zip vs).foldl (fun l p => put l p.1 p.2) []) ep) G1 K
  | .comp elt t it cond nl caps, G, K => wpE W n cs m it G fun iv G1 => iterG iv G1 fun xs chk =>
      small xs.length ∧ compG chk (fun x G2 k => setT (caps.filterMap fun j => cs[j]?) t x (List.replicate nl none) G2 fun m' G3 =>
        wpB W n (caps.filterMap fun j => cs[j]?) m' cond G3 fun c G4 => match c with
          | true => wpE W n (caps.filterMap fun j => cs[j]?) m' elt G4 fun v G5 => k (some v) G5
          | false => k none G4) xs [] G1 K
noncomputable def wpEs (W : Wd) (n : Nat) (cs : List Addr) (m : Mm) : List CE → GH → (List Value → GH → Prop) → Prop
  | [], G, K => K [] G
  | e :: es, G, K => wpE W n cs m e G fun v G1 => wpEs W n cs m es G1 fun vs G2 => K (v :: vs) G2
noncomputable def wpB (W : Wd) (n : Nat) (cs : List Addr) (m : Mm) : CB → GH → (Bool → GH → Prop) → Prop
  | .tr e, G, K => wpE W n cs m e G fun v G1 => truthG v G1 K
  | .tt, G, K => K true G
  | .not b, G, K => wpB W n cs m b G fun x G1 => K (!x) G1
  | .and a b, G, K => wpB W n cs m a G fun x G1 => match x with
    | true => wpB W n cs m b G1 K
    | false => K false G1
  | .or a b, G, K => wpB W n cs m a G fun x G1 => match x with
    | true => K true G1
    | false => wpB W n cs m b G1 K
  | .ite t a b, G, K => wpB W n cs m t G fun x G1 => match x with
    | true => wpB W n cs m a G1 K
    | false => wpB W n cs m b G1 K
  | .cmp op a b, G, K => wpE W n cs m a G fun x G1 => wpE W n cs m b G1 fun y G2 => cmpG W n op x y G2 K
  | .cmp2 o1 o2 a b c, G, K => wpE W n cs m a G fun x G1 => wpE W n cs m b G1 fun y G2 => cmpG W n o1 x y G2 fun t G3 => match t with
    | true => wpE W n cs m c G3 fun z G4 => cmpG W n o2 y z G4 K
    | false => K false G3
end
section
variable {W : Wd} {n : Nat} {cs : List Addr} {m : Mm} {G : GH} {K : KV} {KB : Bool → GH → Prop} {KL : List Value → GH → Prop} {op o2 : Operator} {c1 c2 : CmpOp} {a b c o f : CE} {t u v : CB} {i : Nat} {as : List CE}
theorem wE_val {v : Value} : wpE W n cs m (.val v) G K = K v G := rfl
theorem wE_var {p : CP} : wpE W n cs m (.var p) G K = optG (getP cs m p G) fun v => K v G := rfl
theorem wE_bin : wpE W n cs m (.bin op a b) G K = wpE W n cs m a G fun x G1 => wpE W n cs m b G1 fun y G2 => binG W n op x y G2 K := rfl
theorem wE_neg : wpE W n cs m (.neg a) G K = wpE W n cs m a G fun x G1 => negG x G1 K := rfl
theorem wE_ofB : wpE W n cs m (.ofB t) G K = wpB W n cs m t G fun x G1 => K (.bool x) G1 := rfl
theorem wE_and : wpE W n cs m (.and a b) G K = wpE W n cs m a G fun x G1 => truthG x G1 fun t G2 => match t with
    | true => wpE W n cs m b G2 K
    | false => K x G2 := rfl
theorem wE_or : wpE W n cs m (.or a b) G K = wpE W n cs m a G fun x G1 => truthG x G1 fun t G2 => match t with
    | true => K x G2
    | false => wpE W n cs m b G2 K := rfl
theorem wE_ite : wpE W n cs m (.ite t a b) G K = wpB W n cs m t G fun x G1 => match x with
    | true => wpE W n cs m a G1 K
    | false => wpE W n cs m b G1 K := rfl
theorem wE_call : wpE W n cs m (.call f as) G K = wpE W n cs m f G fun fv G1 => wpEs W n cs m as G1 fun vs G2 => keepG W fv G2 ∧ CallT W n fv vs G2 K := rfl
theorem wE_meth : wpE W n cs m (.meth o i as) G K = wpE W n cs m o G fun ov G1 => ∃ fv, methG W ov i G1 = some fv ∧ wpEs W n cs m as G1 fun vs G2 => keepG W fv G2 ∧ CallT W n fv (ov :: vs) G2 K := rfl
theorem wE_attr : wpE W n cs m (.attr o i) G K = wpE W n cs m o G fun ov G1 => attrG W ov i G1 K := rfl
theorem wE_sub : wpE W n cs m (.sub o a) G K = wpE W n cs m o G fun ov G1 => wpE W n cs m a G1 fun iv G2 => subG ov iv G2 K := rfl
theorem wE_slice : wpE W n cs m (.slice o a b c) G K = wpE W n cs m o G fun ov G1 => wpE W n cs m a G1 fun lv G2 => wpE W n cs m b G2 fun uv G3 => wpE W n cs m c G3 fun sv G4 => sliceG W n ov lv uv sv G4 K := rfl
theorem wE_list : wpE W n cs m (.list as) G K = wpEs W n cs m as G fun vs G1 => newG (.list vs) G1 K := rfl
theorem wE_tup : wpE W n cs m (.tup as) G K = wpEs W n cs m as G fun vs G1 => newG (.tup vs) G1 K := rfl
theorem wE_dict {ks : List Int} : wpE W n cs m (.dict ks as) G K = wpEs W n cs m as G fun vs G1 => ∀ ep, newG (.dict ((ks.zip vs).foldl (fun l p => put l p.1 p.2) []) ep) G1 K := rfl
theorem wE_comp {p : CT} {nl : Nat} {caps : List Nat} : wpE W n cs m (.comp a p b t nl caps) G K = wpE W n cs m b G fun iv G1 => iterG iv G1 fun xs chk =>
      small xs.length ∧ compG chk (fun x G2 k => setT (caps.filterMap fun j => cs[j]?) p x (List.replicate nl none) G2 fun m' G3 =>
        wpB W n (caps.filterMap fun j => cs[j]?) m' t G3 fun c G4 => match c with
          | true => wpE W n (caps.filterMap fun j => cs[j]?) m' a G4 fun v G5 => k (some v) G5
          | false => k none G4) xs [] G1 K := rfl
theorem wEs_nil : wpEs W n cs m [] G KL = KL [] G := rfl
theorem wEs_cons : wpEs W n cs m (a :: as) G KL = wpE W n cs m a G fun v G1 => wpEs W n cs m as G1 fun vs G2 => KL (v :: vs) G2 := rfl
theorem wB_tr : wpB W n cs m (.tr a) G KB = wpE W n cs m a G fun v G1 => truthG v G1 KB := rfl
theorem wB_tt : wpB W n cs m .tt G KB = KB true G := rfl
theorem wB_not : wpB W n cs m (.not t) G KB = wpB W n cs m t G fun x G1 => KB (!x) G1 := rfl
theorem wB_and : wpB W n cs m (.and t u) G KB = wpB W n cs m t G fun x G1 => match x with
    | true => wpB W n cs m u G1 KB
    | false => KB false G1 := rfl
theorem wB_or : wpB W n cs m (.or t u) G KB = wpB W n cs m t G fun x G1 => match x with
    | true => KB true G1
    | false => wpB W n cs m u G1 KB := rfl
theorem wB_ite : wpB W n cs m (.ite t u v) G KB = wpB W n cs m t G fun x G1 => match x with
    | true => wpB W n cs m u G1 KB
    | false => wpB W n cs m v G1 KB := rfl
theorem wB_cmp : wpB W n cs m (.cmp c1 a b) G KB = wpE W n cs m a G fun x G1 => wpE W n cs m b G1 fun y G2 => cmpG W n c1 x y G2 KB := rfl
theorem wB_cmp2 : wpB W n cs m (.cmp2 c1 c2 a b c) G KB = wpE W n cs m a G fun x G1 => wpE W n cs m b G1 fun y G2 => cmpG W n c1 x y G2 fun t G3 => match t with
    | true => wpE W n cs m c G3 fun z G4 => cmpG W n c2 y z G4 KB
    | false => KB false G3 := rfl
end
noncomputable def FDefT (W : Wd) (n : Nat) (cd : Value) (celn : List Str) (cs : List Addr) (st : Stmt) (G : GH) (K : KV) : Prop := match st with
  | .FunctionDef name args body _ _ _ scope _ bind pos =>
    ∀ A env, Room A n → env.scope.kind = .function → env.globals = mainGlobals → env.builtins = builtinsNs → env.code = cd →
      (∀ x i, celn.idxOf? x = some i → ∃ c, env.cells.lookup x = some c ∧ cs[i]? = some c) →
      Tr W A (makeFunction name (qualnameIn env name bind) args (.stmts body) scope env [] [] [] pos pos.line) (fun z9 => True) G fun f G' => K (er f) G'
  | _ => False
mutual
noncomputable def wpS (W : Wd) (n : Nat) (cd : Value) (celn : List Str) (cs : List Addr) : CS → Mm → GH → (Fl → Mm → GH → Prop) → Prop
  | .expr e, m, G, K => wpE W n cs m e G fun z9 G1 => K .next m G1
  | .ret e, m, G, K => wpE W n cs m e G fun v G1 => K (.ret v) m G1
  | .set t e, m, G, K => wpE W n cs m e G fun v G1 => setT cs t v m G1 fun m' G2 => K .next m' G2
  | .seta o i e, m, G, K => wpE W n cs m e G fun v G1 => wpE W n cs m o G1 fun ov G2 => setaG W ov i v G2 fun G3 => K .next m G3
  | .seti o i e, m, G, K => wpE W n cs m e G fun v G1 => wpE W n cs m o G1 fun ov G2 => wpE W n cs m i G2 fun iv G3 => setiG ov iv v G3 fun G4 => K .next m G4
  | .ite t a b, m, G, K => wpB W n cs m t G fun x G1 => match x with
    | true => wpSs W n cd celn cs a m G1 K
    | false => wpSs W n cd celn cs b m G1 K
  | .while t b, m, G, K => whileG (fun m G k => wpB W n cs m t G k) (fun m G k => wpSs W n cd celn cs b m G k) m G K
  | .for t it b, m, G, K => wpE W n cs m it G fun iv G1 => iterG iv G1 fun xs chk =>
      forG chk (fun x m G k => setT cs t x m G fun m' G' => wpSs W n cd celn cs b m' G' k) xs m G1 K
  | .cont, m, G, K => K .cont m G
  | .fdef p st, m, G, K => FDefT W n cd celn cs st G fun f G1 => setP cs p f m G1 fun m' G2 => K .next m' G2
noncomputable def wpSs (W : Wd) (n : Nat) (cd : Value) (celn : List Str) (cs : List Addr) : List CS → Mm → GH → (Fl → Mm → GH → Prop) → Prop
  | [], m, G, K => K .next m G
  | s :: ss, m, G, K => wpS W n cd celn cs s m G fun fl m' G' => match fl with
    | .next => wpSs W n cd celn cs ss m' G' K
    | .cont => K .cont m' G'
    | .ret v => K (.ret v) m' G'
end
noncomputable def seqK (W : Wd) (n : Nat) (cd : Value) (celn : List Str) (cs : List Addr) (ss : List CS) (K : Fl → Mm → GH → Prop) (fl : Fl) (m : Mm) (G : GH) : Prop := match fl with
  | .next => wpSs W n cd celn cs ss m G K
  | .cont => K .cont m G
  | .ret v => K (.ret v) m G
section
variable {W : Wd} {n : Nat} {cd : Value} {celn : List Str} {cs : List Addr} {s : CS} {ss : List CS} {K : Fl → Mm → GH → Prop} {m : Mm} {G : GH}
theorem nmap_cons {α β : Type} {f : α → β} {a : α} {l : List α} : List.map f (a :: l) = f a :: List.map f l := rfl
theorem bnot_true : (!true) = false := rfl
theorem bnot_false : (!false) = true := rfl
theorem nmap_nil {α β : Type} {f : α → β} : List.map f [] = [] := rfl
theorem ss_cons (h : wpS W n cd celn cs s m G (seqK W n cd celn cs ss K)) : wpSs W n cd celn cs (s :: ss) m G K := h
theorem wS_expr {e : CE} : wpS W n cd celn cs (.expr e) m G K = wpE W n cs m e G fun z9 G1 => K .next m G1 := rfl
theorem wS_ret {e : CE} : wpS W n cd celn cs (.ret e) m G K = wpE W n cs m e G fun v G1 => K (.ret v) m G1 := rfl
theorem wS_set {t : CT} {e : CE} : wpS W n cd celn cs (.set t e) m G K = wpE W n cs m e G fun v G1 => setT cs t v m G1 fun m' G2 => K .next m' G2 := rfl
theorem wS_seta {o e : CE} {i : Nat} : wpS W n cd celn cs (.seta o i e) m G K = wpE W n cs m e G fun v G1 => wpE W n cs m o G1 fun ov G2 => setaG W ov i v G2 fun G3 => K .next m G3 := rfl
theorem wS_seti {o i e : CE} : wpS W n cd celn cs (.seti o i e) m G K = wpE W n cs m e G fun v G1 => wpE W n cs m o G1 fun ov G2 => wpE W n cs m i G2 fun iv G3 => setiG ov iv v G3 fun G4 => K .next m G4 := rfl
theorem wS_ite {t : CB} {a b : List CS} : wpS W n cd celn cs (.ite t a b) m G K = wpB W n cs m t G fun x G1 => match x with
    | true => wpSs W n cd celn cs a m G1 K
    | false => wpSs W n cd celn cs b m G1 K := rfl
theorem wS_while {t : CB} {b : List CS} : wpS W n cd celn cs (.while t b) m G K = whileG (fun m G k => wpB W n cs m t G k) (fun m G k => wpSs W n cd celn cs b m G k) m G K := rfl
theorem wS_for {t : CT} {it : CE} {b : List CS} : wpS W n cd celn cs (.for t it b) m G K = wpE W n cs m it G fun iv G1 => iterG iv G1 fun xs chk =>
      forG chk (fun x m G k => setT cs t x m G fun m' G' => wpSs W n cd celn cs b m' G' k) xs m G1 K := rfl
theorem wS_cont : wpS W n cd celn cs .cont m G K = K .cont m G := rfl
theorem wS_fdef {p : CP} {st : Stmt} : wpS W n cd celn cs (.fdef p st) m G K = FDefT W n cd celn cs st G fun f G1 => setP cs p f m G1 fun m' G2 => K .next m' G2 := rfl
theorem sPs_nil {K : Mm → GH → Prop} : setPs cs [] [] m G K = K m G := rfl
theorem sPs_cons {p : CP} {ps : List CP} {v : Value} {vs : List Value} {K : Mm → GH → Prop} : setPs cs (p :: ps) (v :: vs) m G K = setP cs p v m G fun m' G' => setPs cs ps vs m' G' K := rfl
theorem ss_nil (h : K .next m G) : wpSs W n cd celn cs [] m G K := h
theorem seqK_next : seqK W n cd celn cs ss K .next m G = wpSs W n cd celn cs ss m G K := rfl
theorem seqK_cont : seqK W n cd celn cs ss K .cont m G = K .cont m G := rfl
theorem seqK_ret {v : Value} : seqK W n cd celn cs ss K (.ret v) m G = K (.ret v) m G := rfl
end
end Mine
end
section
open PySem PySem.W PySem.Calls PyProof.Rows
namespace Mine
variable {W : Wd} {A : Around} {n : Nat} {H G : GH} {s : Shared}
noncomputable def clsOK (K : Frag) (AT : Names) (C : Addr) (sp : ClsSpec) : Bool :=
  makesIn K C && findIn K (.ref C) "__init__" == some (some (.ref sp.init)) && typeIn K (.ref sp.init) == some (.type "function") &&
  findIn K (.ref C) "__getattribute__" == some (some (.builtin "object.__getattribute__")) && findIn K (.ref C) "__getattr__" == some none &&
  findIn K (.ref C) "__setattr__" == some (some (.builtin "object.__setattr__")) && plainOver K C && (clsIn K C).any (·.hasDict) &&
  sp.attrs.all (fun i => match AT[i]? with | some x => AT.idxOf? x == some i && findIn K (.ref C) x == some none | none => false) &&
  sp.meths.all (fun p => match AT[p.1]? with | some x => AT.idxOf? x == some p.1 && findIn K (.ref C) x == some (some (.ref p.2)) && typeIn K (.ref p.2) == some (.type "function") && keepIn K (.ref p.2) | none => false)
structure WdOK (W : Wd) (mg mb : Str → Option Value) : Prop where
  K : W.K.In W.B
  cls : ∀ C sp, W.cls.lookup C = some sp → clsOK W.K W.AT C sp = true
  fns : ∀ f, W.fns.contains f = true → keepIn W.K (.ref f) = true
  lim : W.B.NoLimit
  hmg : W.B.Ns mainGlobals mg
  hmb : W.B.Ns builtinsNs mb
  glob : ∀ x v, W.globs.lookup x = some v → (∃ v', mg x = some v' ∧ er v' = v) ∨ (mg x = none ∧ ∃ v', mb x = some v' ∧ er v' = v)
noncomputable abbrev Post (W : Wd) {α : Type} (H : GH) (Q : α → GH → Prop) (v : α) (s' : Shared) : Prop := ∃ G', Disj H G' ∧ W.R (H.un G') s' ∧ Q v G'
noncomputable abbrev NoE : Value → Shared → Prop := fun z9 z9 => False
noncomputable abbrev WP (W : Wd) (A : Around) {α : Type} (t : Sem α) (Q : α → Shared → Prop) (s : Shared) : Prop := wpAny W.M A t Q NoE s
theorem Repr.at {prog w AT B os₀ U s a g} (R : Repr prog w AT B os₀ U s) (e : U a = some g) : ∃ d, Own prog w AT s.heap d a g := let ⟨d, r⟩ := R; ⟨d, (r.own a g e).2⟩
theorem Repr.list {prog w AT B os₀ U s a xs} (R : Repr prog w AT B os₀ U s) (e : U a = some (.list xs)) : ∃ vs, s.heap.PlainList a vs ∧ vs.toList.map er = xs ∧ vs.size ≤ sizeLine := let ⟨_, o⟩ := R.at e; o
theorem Repr.tup {prog w AT B os₀ U s a xs} (R : Repr prog w AT B os₀ U s) (e : U a = some (.tup xs)) : ∃ vs, IsTup s.heap a vs ∧ vs.toList.map er = xs ∧ vs.size ≤ sizeLine := by
  refine o_EEEA (R.at e) fun z9 vs n o r => ?_
  exact (i_EA vs (i_EAAE _ o rfl n rfl) r)
theorem truth_ok {v a : Value} {K : Bool → GH → Prop} (hv : er v = a) (D : Disj H G) (R : W.R (H.un G) s) (h : truthG a G K) : WP W A (truthy v) (Post W H K) s := by
  subst hv
  cases v with
  | none => exact wpAny_pure (i_EAA G D R h)
  | bool b => exact wpAny_truthy_bool (i_EAA G D R h)
  | int i t => exact truthy_int (i_EAA G D R h)
  | _ => exact h.elim
theorem neg_ok {v a : Value} {K : KV} (hv : er v = a) (D : Disj H G) (R : W.R (H.un G) s) (h : negG a G K) : WP W A (unaryOp .USub v) (Post W H fun v => K (er v)) s := by
  subst hv
  cases v with
  | int i t => exact neg_int (i_EAA G D (R.irr rfl rfl rfl) h)
  | _ => exact h.elim
theorem sizeLine_lt : sizeLine < 2 ^ 63 := by wide_open with sizeLine_eq; decide
theorem pickI_of {vs : Array Value} {k : Int} {v : Value} (h : pickI (vs.toList.map er) k = some v) (_hs : vs.size ≤ sizeLine) :
    ∃ j x, seqIndex? k vs.size = some j ∧ vs[j]? = some x ∧ er x = v ∧ (0 ≤ k → j = k.toNat ∧ k < vs.size) ∧ (k < 0 → j = (k + vs.size).toNat ∧ -(vs.size : Int) ≤ k) := by
  unfold pickI at h
  simp only [List.length_map, Array.length_toList, List.getElem?_map, Array.getElem?_toList] at h
  by_cases h0 : 0 ≤ k
  · rw [if_pos h0] at h
    refine o_EA (Option.map_eq_some_iff.mp h) fun x hx e93 => ?_; subst e93
    have hlt : k.toNat < vs.size := (Array.getElem?_eq_some_iff.mp hx).1
    refine (i_EEAAAA k.toNat x ?_ hx rfl (fun z9 => ⟨rfl, by omega⟩) (fun q => by omega))
    unfold seqIndex?
    have e1 : ¬ k < 0 := by omega
    simp only [e1, if_false]
    wide_open with if_pos (by simp only [Bool.and_eq_true, decide_eq_true_eq]; omega)
  · rw [if_neg h0] at h
    by_cases h1 : -(vs.size : Int) ≤ k
    · rw [if_pos h1] at h
      refine o_EA (Option.map_eq_some_iff.mp h) fun x hx e93 => ?_; subst e93
      refine (i_EEAAAA ((k + vs.size).toNat) x ?_ hx rfl (fun q => by omega) (fun z9 => ⟨rfl, h1⟩))
      unfold seqIndex?
      have e1 : k < 0 := by omega
      simp only [e1, if_true]
      wide_open with if_pos (by simp only [Bool.and_eq_true, decide_eq_true_eq]; omega)
    · rw [if_neg h1] at h; wide_open using h
theorem getItem_list_ok {l : Addr} {vs : Array Value} {k : Int} {u : Tok} {v : Value} {Q : Value → Shared → Prop} (hl : s.heap.PlainList l vs) (h : pickI (vs.toList.map er) k = some v) (hs : vs.size ≤ sizeLine)
    (hQ : ∀ x, er x = v → Q x s) : WP W A (getItem (.ref l) (.int k u)) Q s := by
  obtain ⟨j, x, -, hx, e, h0, h1⟩ := pickI_of h hs
  have hz := sizeLine_lt
  by_cases hk : 0 ≤ k
  · obtain ⟨rfl, hlt⟩ := h0 hk
    exact wpAny_getItem_list hl.isList hk (by omega) hx (hQ x e)
  · obtain ⟨rfl, hlt⟩ := h1 (by omega)
    exact wpAny_getItem_list_neg hl.isList (by omega) hlt (by omega) hx (hQ x e)
theorem getItem_tup_ok {l : Addr} {vs : Array Value} {k : Int} {u : Tok} {v : Value} {Q : Value → Shared → Prop} (hl : IsTup s.heap l vs) (h : pickI (vs.toList.map er) k = some v) (hs : vs.size ≤ sizeLine)
    (hQ : ∀ x, er x = v → Q x s) : WP W A (getItem (.ref l) (.int k u)) Q s := by
  refine o_EEAAAA (pickI_of h hs) fun j x hj hx e h0 h1 => ?_
  have hz := sizeLine_lt
  refine getItem_tuple hl ?_ ?_ hj hx (hQ x e)
  · by_cases hk : 0 ≤ k
    · omega
    · have := (h1 (by omega)).2; omega
  · by_cases hk : 0 ≤ k
    · have := (h0 hk).2; omega
    · omega
theorem dict_find {kvs : List (Int × Value)} {es : List (Int × Value)} {k : Int} {v : Value} (he : kvs.map (fun p => (p.1, er p.2)) = es) (h : es.lookup k = some v) : ∃ x, valueAt kvs k = some x ∧ er x = v := by
  subst he
  induction kvs with
  | nil => wide_open using h
  | cons p r ih =>
    obtain ⟨j, x⟩ := p
    simp only [List.map_cons, List.lookup_cons] at h
    unfold valueAt
    by_cases hj : j = k
    · subst hj
      simp at h
      exact (i_EA x (by simp) h)
    · have : (k == j) = false := by simpa using Ne.symm hj
      rw [this] at h
      refine o_EA (ih h) fun y h1 h2 => ?_
      refine (i_EA y ?_ h2)
      unfold valueAt at h1
      simp [hj, h1]
set_option tactic.hygienic true in
theorem sub_ok {value slice : Expr} {o i vo vi : Value} {K : KV} (ho : er vo = o) (hi : er vi = i) (D : Disj H G) (R : W.R (H.un G) s) (h : subG o i G K)
    (hs : ∀ o i, subscripted slice false o i = operate [o, i] (getItem o i)) : WP W A (subscriptTail value slice vo vi) (Post W H fun v => K (er v)) s := by
  subst ho hi
  cases vo with
  | ref a =>
    cases vi with
    | int k u =>
      simp only [subG, er] at h
      split at h
      · rename_i xs hg
        refine o_EA h fun v hv hK => ?_; try clear h
        refine o_EAA (R.list (GH.un_right hg)) fun vs hl e93 hz => ?_; subst e93
        exact tail_any hl.isList.typeIs slot_list_getitem.lookup (getItem_list_ok hl hv hz fun x e => (i_EAA G D R (by subst e; exact hK))) (hs _ _)
      · rename_i xs hg
        refine o_EA h fun v hv hK => ?_; try clear h
        refine o_EAA (R.tup (GH.un_right hg)) fun vs hl e93 hz => ?_; subst e93
        exact tail_any hl.typeIs PyProof.Rows.slot_tuple_getitem.lookup (getItem_tup_ok hl hv hz fun x e => (i_EAA G D R (by subst e; exact hK))) (hs _ _)
      · rename_i es ep hg
        refine o_EA h fun v hv hK => ?_; try clear h
        refine o_EEAA (R.at (GH.un_right hg)) fun z9 kvs hd he hz => ?_
        refine o_EA (dict_find he hv) fun x hx e => ?_
        have hm := hd.dictOf.mapOf
        exact tail_any hm.typeIs slot_dict_getitem.lookup (wpAny_getItem_of (knd := intKind W.prog W.w) (k := k) (by simp [intKind, Value.isInt]) hm hx (i_EAA G D (R.irr rfl rfl rfl) (by subst e; exact hK))) (hs _ _)
      · exact h.elim
    | _ => exact h.elim
  | _ => exact h.elim
section
variable {mg mb : Str → Option Value}
theorem Repr.KIn (O : WdOK W mg mb) {U : GH} (R : W.R U s) : W.K.In s.heap := O.K.keeps R.keep
theorem lookIn_ns {o : Obj} {es : Array DictEntry} {ep : Nat} (hd : o.data = .dict es ep) (hk : StrKeys es) (x : Str) : lookIn x o = some (nsFind es x) := by
  unfold lookIn nsFind findBy
  wide_open with hd
  dsimp only
  ((first | refine (Array.find?_toList) ▸ ?_ | rewrite [← Array.find?_toList]); try with_reducible rfl)
  cases hf : es.toList.find? (fun e => e.key.isStr x) with
  | some e => rfl
  | none =>
    have : es.toList.any (·.refKey) = false := by
      wide_open with List.any_eq_false
      intro e he
      refine o_EE (hk e (Array.mem_toList_iff.mp he)) fun n t h => ?_
      simp [DictEntry.refKey, h]
    simp [this]
theorem Repr.inst (O : WdOK W mg mb) {U : GH} (R : W.R U s) {a C : Addr} {fs : List (Nat × Value)} (e : U a = some (.inst C fs)) :
    ∃ ox od, InstAt s.heap a ox C (some od) ∧ ∀ x, ∃ v, lookIn x od = some v ∧ v.map er = instMap W.AT fs x := by
  refine o_EEAAAA (R.setA e) fun dx m h1 n94 z9 h6 z9 => ?_; obtain ⟨o, es, ep, h2, h3, h4, h5⟩ := n94
  refine (i_EEA _ o ⟨h1, rfl, rfl, h2⟩ (fun x => (i_EA _ (lookIn_ns h3 h4 x) ?_)))
  wide_open with h5 x; exact h6 x
set_option tactic.hygienic true in
theorem cls_of (O : WdOK W mg mb) {C : Addr} {sp : ClsSpec} (h : W.cls.lookup C = some sp) :
    makesIn W.K C = true ∧ findIn W.K (.ref C) "__init__" = some (some (.ref sp.init)) ∧ typeIn W.K (.ref sp.init) = some (.type "function") ∧
    findIn W.K (.ref C) "__getattribute__" = some (some (.builtin "object.__getattribute__")) ∧ findIn W.K (.ref C) "__getattr__" = some none ∧
    findIn W.K (.ref C) "__setattr__" = some (some (.builtin "object.__setattr__")) ∧ plainOver W.K C = true ∧ (clsIn W.K C).any (·.hasDict) = true ∧
    (∀ i, sp.attrs.contains i = true → ∃ x, W.AT[i]? = some x ∧ W.AT.idxOf? x = some i ∧ findIn W.K (.ref C) x = some none) ∧
    (∀ i f, sp.meths.lookup i = some f → ∃ x, W.AT[i]? = some x ∧ W.AT.idxOf? x = some i ∧ findIn W.K (.ref C) x = some (some (.ref f)) ∧ typeIn W.K (.ref f) = some (.type "function") ∧ keepIn W.K (.ref f) = true) := by
  have z := O.cls C sp h
  unfold clsOK at z
  simp only [Bool.and_eq_true, beq_iff_eq, List.all_eq_true] at z
  obtain ⟨⟨⟨⟨⟨⟨⟨⟨⟨z1, z2⟩, z3⟩, z4⟩, z5⟩, z6⟩, z7⟩, z8⟩, z9⟩, z10⟩ := z
  refine (i_AAAAAAAAA z1 z2 z3 z4 z5 z6 z7 z8 (fun i hi => ?_) (fun i f hi => ?_))
  · have := z9 i (List.contains_iff_mem.mp hi)
    split at this
    · rename_i x hx; exact (i_EA x hx (by simpa using this))
    · wide_open using this
  · have hm : (i, f) ∈ sp.meths := by
      clear z10
      generalize sp.meths = l at hi
      induction l with
      | nil => wide_open using hi
      | cons p r ih =>
        obtain ⟨j, g⟩ := p
        rw [List.lookup_cons] at hi
        cases hb : i == j with
        | true => wide_line with hb using hi; wide_open with beq_iff_eq.mp hb; exact .head _
        | false => rw [hb] at hi; exact .tail _ (ih hi)
    have := z10 (i, f) hm
    dsimp only at this
    split at this
    · rename_i x hx
      simp only [Bool.and_eq_true, beq_iff_eq] at this
      exact (i_EAAAA x hx this.1.1.1 this.1.1.2 this.1.2 this.2)
    · wide_open using this
theorem handed_of {v : Value} (h : isBlt (er v) = false) : handedIn v = true := by
  cases v <;> first | rfl | wide_open using h
set_option tactic.hygienic true in
theorem attr_ok (O : WdOK W mg mb) {vo o : Value} {i : Nat} {x : Str} {ex : Bool} {K : KV} (ho : er vo = o) (hx : W.AT[i]? = some x) (D : Disj H G) (R : W.R (H.un G) s) (h : attrG W o i G K) :
    WP W A (getAttr vo x ex) (Post W H fun v => K (er v)) s := by
  subst ho
  cases vo with
  | ref a =>
    simp only [attrG, er] at h
    split at h
    · rename_i C fs hg
      refine o_EEAAAA h fun sp v h1 h2 h3 h4 h5 => ?_; try clear h
      refine o_AAAAAAAAA (cls_of O h1) fun c1 c2 c3 c4 c5 c6 c7 c8 c9 c10 => ?_
      refine o_EAA (c9 i h2) fun x' hx' hi hf => ?_
      wide_line with hx using hx'
      refine o_EEA (R.inst O (GH.un_right hg)) fun ox od I hl => ?_
      refine o_EA (hl x) fun v' l1 l2 => ?_
      unfold instMap at l2
      rw [hi, Option.bind_some, h3] at l2
      refine o_EA (Option.map_eq_some_iff.mp l2) fun y e92 e => ?_; subst e92
      refine o_EA (any_some c8) fun cd k1 k2 => ?_
      refine get_value (Repr.KIn O R) I c4 (v := y) ?_ (handed_of (by wide_open with e; exact h4)) (i_EAA G D (R.irr rfl rfl rfl) (by subst e; exact h5))
      unfold findObj
      (wide_line using k1; wide_line using Option.bind_some; wide_line using hf; wide_open with Option.bind_some)
      simp only [Option.bind_some, PySem.W.ownOf, k2, if_true, l1]
    · exact h.elim
  | _ => exact h.elim
set_option tactic.hygienic true in
theorem seta_ok (O : WdOK W mg mb) {vo v o : Value} {i : Nat} {x : Str} {K : GH → Prop} (ho : er vo = o) (hx : W.AT[i]? = some x) (D : Disj H G) (R : W.R (H.un G) s) (h : setaG W o i (er v) G K) :
    WP W A (setAttr vo x v) (Post W H fun z9 => K) s := by
  subst ho
  cases vo with
  | ref a =>
    simp only [setaG, er] at h
    split at h
    · rename_i C fs hg
      refine o_EAAA h fun sp h1 h2 h25 h5 => ?_; try clear h
      refine o_AAAAAAAAA (cls_of O h1) fun c1 c2 c3 c4 c5 c6 c7 c8 c9 c10 => ?_
      refine o_EAA (c9 i h2) fun x' hx' hi hf => ?_
      wide_line with hx using hx'
      refine o_EEA (R.inst O (GH.un_right hg)) fun ox od I hl => ?_
      refine o_EEAAAAA (R.setA (GH.un_right hg)) fun dx m i1 i2 iz i3 i4 i5 => ?_
      refine o_EA (any_some c8) fun cd k1 k2 => ?_
      have X := Repr.KIn O R
      refine set_plain X I c6 (osa_open (s := { s with toks := s.toks + 1 }) (r := none) X I c7 (by unfold takerIn; wide_open with hf; rfl) fun b => ?_)
      dsimp only
      unfold Builtin.ObjectAttr.storeInOwnDict
      refine wpAny_bind (wpAny_pure (wpAny_bind (wpAny_bind (wpAny_loadPart i1 (wpAny_bind (looks_clsIn X k1 _ _ _ _ (fun z9 z9 e => e) ?_))))))
      wide_open with k2
      refine wpAny_pure (a := some dx) (wpAny_bind (wpAny_pure (wpAny_bind ?_)))
      refine wpAny_nsSet_sz (s := { s with toks := s.toks + 1 }) i2 iz fun h' hn hz hs => ?_
      have hlen : (setF fs i (er v)).length = if (m x).isSome then fs.length else fs.length + 1 := by
        wide_open with setF_length
        have := i3 x
        unfold instMap at this
        rw [hi, Option.bind_some] at this
        ((first | refine this ▸ ?_ | rewrite [← this]); try with_reducible rfl)
        cases m x <;> rfl
      have hz2 : h'.DictLe dx (setF fs i (er v)).length := by wide_open with hlen; exact hz
      refine o_EEEAA (id hn) fun o9 es9 ep9 g1 g2 z9 => ?_
      refine wpAny_bind (wpAny_lookBehind g1 (by wide_open with g2; exact pastItsLine_dict (by have := hz2 _ _ _ g1 g2; rw [hlen] at this; wide_open with sizeLine_eq; split at this <;> omega)) ?_)
      refine wpAny_pure ?_
      refine (?_ : Post W H (fun z9 => K) () _)
      refine (i_EAA _ (D.setG (D.right hg)) ?_ h5)
      wide_open with GH.un_set
      exact i5 x i v h' _ _ hi hn hz2 hs
    · exact h.elim
  | _ => exact h.elim
theorem noDict_list {h : Heap} {l : Addr} {vs : Array Value} (x : h.PlainList l vs) : ∀ a, Value.ref l = .ref a → ∃ o, h.get? a = some o ∧ o.dict = none := by
  intro a e; wide_open using e
  obtain ⟨n, e⟩ := x; exact (i_EA _ e rfl)
set_option tactic.hygienic true in
theorem meth_ok (O : WdOK W mg mb) {vo o f : Value} {i : Nat} {x : Str} {pl : Sem Bool} {Q : Value × List Value → Shared → Prop} (ho : er vo = o) (hx : W.AT[i]? = some x) (R : W.R (H.un G) s) (h : methG W o i G = some f)
    (q : Q (f, [vo]) s) : WP W A (getMethod vo x pl) Q s := by
  subst ho
  cases vo with
  | ref a =>
    simp only [methG, er] at h
    split at h
    · rename_i C fs hg
      split at h
      · rename_i sp h1
        split at h
        · rename_i h2
          refine o_EA (Option.map_eq_some_iff.mp h) fun f' h3 e93 => ?_; subst e93
          refine o_AAAAAAAAA (cls_of O h1) fun c1 c2 c3 c4 c5 c6 c7 c8 c9 c10 => ?_
          refine o_EAAAA (c10 i f' h3) fun x' hx' hi hf ht z9 => ?_
          wide_line with hx using hx'
          refine o_EEA (R.inst O (GH.un_right hg)) fun ox od I hl => ?_
          refine o_EA (hl x) fun v' l1 l2 => ?_
          unfold instMap at l2
          rw [hi, Option.bind_some, Option.isNone_iff_eq_none.mp h2] at l2
          have : v' = none := by cases v' <;> first | rfl | wide_open using l2
          subst this
          exact method_fn (Repr.KIn O R) I c4 c5 hf ht (by unfold shadowIn; dsimp only; wide_open with l1; rfl) q
        · wide_open using h
      · wide_open using h
    · rename_i xs hg
      refine o_EAA (R.list (GH.un_right hg)) fun vs hl z9 z9 => ?_
      rw [hx] at h
      dsimp only at h
      split at h
      · rename_i e; wide_open using h; wide_open with beq_iff_eq.mp e
        obtain ⟨n, hl⟩ := hl
        exact Calls.getMethod_list_append hl rfl rfl q
      · split at h
        · rename_i e; wide_open using h; wide_open with beq_iff_eq.mp e
          exact PySem.getMethod_builtin hl.isList.typeIs PySem.F.plainAttrs_list PySem.F.slot_list_pop PySem.F.type_list_pop (noDict_list hl) q
        · wide_open using h
    · rename_i es ep hg
      rw [hx] at h
      dsimp only at h
      split at h
      · rename_i e; wide_open using h; wide_open with beq_iff_eq.mp e
        refine o_EEA (R.at (GH.un_right hg)) fun z9 kvs n93 z9 => ?_; obtain ⟨od, es', h1, ⟨h2, h2', _⟩, h3, _⟩ := n93
        exact PySem.getMethod_builtin (T := "dict") (i_EA od h1 h2) PySem.F.plainAttrs_dict PySem.F.slot_dict_get PySem.F.type_dict_get (fun b e => by wide_open using e; exact (i_EA od h1 h2')) q
      · wide_open using h
    · wide_open using h
  | _ => wide_open using h
theorem keep_ok (O : WdOK W mg mb) {f : Value} (R : W.R (H.un G) s) (h : keepG W f G) : ∃ k, (k = Keeper.frame ∨ k = Keeper.machine ∨ k = Keeper.boundFrame) ∧ Looks W.M s.heap (keeperOf f) k := by
  cases f with
  | builtin i => exact (i_EA .machine (.inr (.inl rfl)) (Looks.of_pure rfl))
  | type n => exact (i_EA .machine (.inr (.inl rfl)) (Looks.of_pure rfl))
  | ref a =>
    rcases h with h | ⟨o, fd, hg, hd⟩
    · exact keeps_K (O.fns a h) _ (Repr.KIn O R)
    · obtain ⟨_, ho⟩ := R.at (GH.un_right hg)
      refine (i_EA .frame (.inl rfl) ?_)
      unfold keeperOf
      refine (Looks.ld (part := none) ho).andThen ?_
      wide_open with hd
      exact .now
  | _ => exact h.elim
noncomputable def Args1 (W : Wd) (A : Around) (H : GH) (ts : List (Bool × Sem Value)) (G : GH) (K : List Value → GH → Prop) : Prop :=
  ∀ s, Disj H G → W.R (H.un G) s → WP W A (spliced ts) (Post W H fun vs => K (vs.map er)) s
theorem callWith_ok (O : WdOK W mg mb) {pos : Pos} {f : Value} {first : List Value} {ts : List (Bool × Sem Value)} {K : KV} (hts : ts.any (·.1) = false)
    (D : Disj H G) (R : W.R (H.un G) s) (hA : Room A n) (h : Args1 W A H ts G fun vs G2 => keepG W (er f) G2 ∧ CallT W n (er f) (first.map er ++ vs) G2 K) :
    WP W A (callWith pos f first ts []) (Post W H fun v => K (er v)) s := by
  have ev : WP W A (evalArgs f true ts []) (fun a s' => a.kw = [] ∧ Post W H (fun vs G2 => keepG W (er f) G2 ∧ CallT W n (er f) (first.map er ++ vs.map er) G2 K) a.pos s') s := by
    have h0 := h s D R
    cases ts with
    | nil =>
      unfold evalArgs
      refine (?_ : wpAny _ _ (spliced [] >>= _) _ _ s)
      refine wpAny_bind (wpAny_mono h0 (fun vs s' q => ?_) fun z9 z9 z => z)
      refine wpAny_holding ?_
      exact wpAny_bind (wpAny_pure (wpAny_bind (wpAny_pure (wpAny_pure ⟨rfl, q⟩))))
    | cons t r =>
      obtain ⟨b, x⟩ := t
      simp only [List.any_cons, Bool.or_eq_false_iff] at hts
      obtain ⟨rfl, _⟩ := hts
      exact evalArgs_plain (wpAny_mono h0 (fun vs s' q => ⟨rfl, q⟩) fun z9 z9 z => z)
  refine callWith_of (P := fun hh => ∃ k, (k = Keeper.frame ∨ k = Keeper.machine ∨ k = Keeper.boundFrame) ∧ Looks W.M hh (keeperOf f) k) (by simp [hts]) (fun z9 z => z) (wpAny_mono ev (fun a s' q => ?_) fun z9 z9 z => z)
  refine o_AEAAA q fun hk G2 D2 R2 k2 c2 => ?_; try clear q
  refine ⟨keep_ok O R2 (by cases f <;> exact k2), ?_⟩
  wide_open with hk
  exact c2 A f (first ++ a.pos) hA rfl (by simp) H s' trivial D2 R2
end
end Mine
end
section
open PySem PySem.W PySem.Calls PyProof.Rows
namespace Mine
variable {W : Wd} {A : Around} {n : Nat} {H G : GH} {s : Shared}
theorem GH.del_self (U : GH) (a : Addr) : (U.del a) a = none := by simp [GH.del]
theorem GH.del_ne (U : GH) {a b : Addr} (h : b ≠ a) : (U.del a) b = U b := by simp [GH.del, h]
theorem GH.un_del {H G : GH} {a : Addr} (h : G a = none) : GH.un (H.del a) G = (GH.un H G).del a := by
  funext b; simp only [GH.un, GH.del]
  by_cases hb : b = a
  · subst hb; simp [h]
  · simp [hb]
theorem Repr.extDel {prog w AT B os₀} {U : GH} (R : Repr prog w AT B os₀ U s) {a : Addr} {g : GO} {h' : Heap} {tk : Nat} {dr : Drawn} (e : U a = some g) (hx : Heap.ExtBut a s.heap h') : Repr prog w AT B os₀ (U.del a) ⟨h', s.gens, dr, tk, s.os⟩ := by
  obtain ⟨d, k, o, i, gn, os⟩ := R
  have low : ∀ {b gb}, (U.del a) b = some gb → b ≠ a ∧ U b = some gb := fun {b gb} eb => by
    by_cases hb : b = a
    · subst hb; wide_line with GH.del_self using eb
    · rw [GH.del_ne _ hb] at eb; exact ⟨hb, eb⟩
  refine ⟨d, fun b ob eb => ?_, fun b gb eb => ?_, fun b C fs eb => ?_, gn, os⟩
  · by_cases hb : b = a
    · rw [hb, (o a g e).1] at eb; wide_open using eb
    · exact hx b ob hb (k _ _ eb)
  · obtain ⟨hb, eb⟩ := low eb
    refine ⟨(o b gb eb).1, (o b gb eb).2.move _ _ _ (fun ob h1 => hx b ob hb h1) (fun z9 => rfl) fun hg ob h1 => hx _ ob ?_ h1⟩
    intro q
    cases gb with
    | inst C fs => have := (i b C fs eb).2.1; rw [q, e] at this; wide_open using this
    | _ => wide_open using hg
  · obtain ⟨hb, eb⟩ := low eb
    refine o_AA (i b C fs eb) fun i1 i2 i3 => ?_
    have hda : d b ≠ a := by intro q; rw [q, e] at i2; wide_open using i2
    exact (i_AA i1 (by wide_open with GH.del_ne _ hda; exact i2) (fun c C' fs' ec hc => i3 c C' fs' (low ec).2 hc))
noncomputable def IterK.Rel (k : IterK) (xs : List Value) (chk : GH → Prop) : Prop := match k with
  | .list l i => ∃ all, (chk = fun G' => G' l = some (.list all)) ∧ xs = all.drop i
  | .tup l i => ∃ all, (chk = fun G' => G' l = some (.tup all)) ∧ xs = all.drop i
  | .range x left => (chk = fun z9 => True) ∧ xs = (List.range left.toNat).map fun (j : Nat) => Value.int (x + Int.ofNat j) 0
  | .dict d i n ep => ∃ all : List (Int × Value), (chk = fun G' => G' d = some (.dict all ep)) ∧ n = all.length ∧ xs = (all.map fun p => Value.int p.1 0).drop i
theorem drop_cons {α : Type} {l : List α} {i : Nat} {x : α} {xs : List α} (h : x :: xs = l.drop i) : l[i]? = some x ∧ xs = l.drop (i + 1) := by
  have h1 : i < l.length := by
    rcases Nat.lt_or_ge i l.length with h1 | h1
    · exact h1
    · wide_line with List.drop_eq_nil_of_le h1 using h
  rw [List.drop_eq_getElem_cons h1] at h
  wide_open using h
  exact ⟨List.getElem?_eq_getElem h1, rfl⟩
theorem drop_nil {α : Type} {l : List α} {i : Nat} (h : [] = l.drop i) : l[i]? = none := by
  wide_open with List.getElem?_eq_none_iff
  exact List.drop_eq_nil_iff.mp h.symm
theorem er_map_get {vs : Array Value} {i : Nat} {x : Value} (h : (vs.toList.map er)[i]? = some x) : ∃ y, vs[i]? = some y ∧ er y = x := by
  rw [List.getElem?_map, Array.getElem?_toList] at h
  exact Option.map_eq_some_iff.mp h
theorem er_map_none {vs : Array Value} {i : Nat} (h : (vs.toList.map er)[i]? = none) : vs[i]? = none := by
  rw [List.getElem?_map, Array.getElem?_toList] at h
  exact Option.map_eq_none_iff.mp h
theorem next_item {a : Addr} {k : IterK} {x : Value} {xs : List Value} {chk : GH → Prop} (D : Disj H G) (R : W.R (H.un G) s) (hk : H a = some (.iter k)) (hr : k.Rel (x :: xs) chk) (hc : chk G) :
    WP W A (pyNext (.ref a)) (fun r s' => ∃ v k', r = some v ∧ er v = x ∧ k'.Rel xs chk ∧ W.R ((H.set a (.iter k')).un G) s') s := by
  have ga : G a = none := D.left hk
  have hU : (H.un G) a = some (.iter k) := by wide_open with GH.un_left ga; exact hk
  obtain ⟨_, hit⟩ := R.at hU
  have upd : ∀ k' h' tk, k'.At h' a → Heap.SameBut a s.heap h' → W.R ((H.set a (.iter k')).un G) ⟨h', s.gens, s.drawn, tk, s.os⟩ := fun k' h' tk z hs => by
    wide_open with GH.set_un _ ga
    exact R.ext hU rfl rfl hs.extBut fun z9 z9 => z
  cases k with
  | list l i =>
    refine o_EA hr fun all e92 hx => ?_; try clear hr; subst e92
    obtain ⟨h1, rfl⟩ := drop_cons hx
    refine o_EAA (R.list (GH.un_right hc)) fun vs hl e93 hz => ?_; subst e93
    refine o_EA (er_map_get h1) fun y h2 h3 => ?_
    exact wpAny_pyNext_list_item hit hl.isList h2 fun h' z hs => (i_EEAAA y (.list l (i + 1)) rfl h3 (i_EA _ rfl rfl) (upd (.list l (i + 1)) h' _ z hs))
  | tup l i =>
    refine o_EA hr fun all e92 hx => ?_; try clear hr; subst e92
    obtain ⟨h1, rfl⟩ := drop_cons hx
    refine o_EAA (R.tup (GH.un_right hc)) fun vs hl e93 hz => ?_; subst e93
    refine o_EA (er_map_get h1) fun y h2 h3 => ?_
    exact wpAny_pyNext_tuple_item hit hl h2 fun h' z hs => (i_EEAAA y (.tup l (i + 1)) rfl h3 (i_EA _ rfl rfl) (upd (.tup l (i + 1)) h' _ z hs))
  | range u left =>
    obtain ⟨rfl, hx⟩ := hr
    have hl : 0 < left := by
      rcases (show 0 < left ∨ left ≤ 0 by lia) with h | h
      · exact h
      · wide_line with Int.toNat_of_nonpos h using hx
    have e : left.toNat = (left - 1).toNat + 1 := by lia
    rw [e, List.range_succ_eq_map] at hx
    simp only [List.map_cons, List.map_map, List.cons.injEq] at hx
    refine wpAny_pyNext_range_item hit hl fun h' z hs => (i_EEAAA _ (.range (u + 1) (left - 1)) rfl ?_ ⟨rfl, ?_⟩ (upd _ h' _ z hs))
    · wide_open with hx.1; simp [er]
    · wide_open with hx.2
      apply List.map_congr_left
      intro j _
      simp only [Function.comp]
      congr 1
      simp only [Int.ofNat_eq_natCast]
      lia
  | dict d i m ep =>
    refine o_EAA hr fun all e92 e93 hx => ?_; try clear hr; subst e92; subst e93
    obtain ⟨h1, rfl⟩ := drop_cons hx
    refine o_EEAA (R.at (GH.un_right hc)) fun z9 kvs hd he hz => ?_
    subst he
    simp only [List.map_map, List.getElem?_map] at h1
    refine o_EA (Option.map_eq_some_iff.mp h1) fun p h2 h3 => ?_
    obtain ⟨kk, vv⟩ := p
    have hit' : s.heap.IsKeyIter a d i kvs.length ep := by simpa [Own, IterK.At] using hit
    refine wpAny_pyNext_dict_item hit' hd h2 fun key h' hkey z hs => (i_EEAAA key (.dict d (i + 1) kvs.length ep) rfl ?_ (i_EAA _ rfl (by simp) rfl) (upd _ h' _ z hs))
    ((first | refine h3 ▸ ?_ | rewrite [← h3]); try with_reducible rfl)
    have : Value.isInt kk key = true := hkey
    cases key <;> simp_all [Value.isInt, er]
theorem next_end {a : Addr} {k : IterK} {chk : GH → Prop} (hA : A.handled = none) (D : Disj H G) (R : W.R (H.un G) s) (hk : H a = some (.iter k)) (hr : k.Rel [] chk) (hc : chk G) :
    WP W A (pyNext (.ref a)) (fun r s' => r = none ∧ W.R ((H.del a).un G) s') s := by
  have ga : G a = none := D.left hk
  have hU : (H.un G) a = some (.iter k) := by wide_open with GH.un_left ga; exact hk
  obtain ⟨_, hit⟩ := R.at hU
  have fin : ∀ h', Heap.ExtBut a s.heap h' → W.R ((H.del a).un G) { s with heap := h' } := fun h' hx => by
    wide_open with GH.un_del ga
    exact R.extDel hU hx
  cases k with
  | list l i =>
    refine o_EA hr fun all e92 hx => ?_; try clear hr; subst e92
    refine o_EAA (R.list (GH.un_right hc)) fun vs hl e93 hz => ?_; subst e93
    exact wpAny_pyNext_list_end hA hit hl.isList (er_map_none (drop_nil hx)) fun h' z => ⟨rfl, fin h' z⟩
  | tup l i =>
    refine o_EA hr fun all e92 hx => ?_; try clear hr; subst e92
    refine o_EAA (R.tup (GH.un_right hc)) fun vs hl e93 hz => ?_; subst e93
    exact wpAny_pyNext_tuple_end hA hit hl (er_map_none (drop_nil hx)) fun h' z => ⟨rfl, fin h' z⟩
  | range u left =>
    obtain ⟨rfl, hx⟩ := hr
    have hl : left ≤ 0 := by
      rcases (show 0 < left ∨ left ≤ 0 by lia) with h | h
      · have e : left.toNat = (left - 1).toNat + 1 := by lia
        rw [e, List.range_succ_eq_map] at hx; wide_open using hx
      · exact h
    exact wpAny_pyNext_range_end hA hit hl fun h' z => ⟨rfl, fin h' z⟩
  | dict d i m ep =>
    refine o_EAA hr fun all e92 e93 hx => ?_; try clear hr; subst e92; subst e93
    refine o_EEAA (R.at (GH.un_right hc)) fun z9 kvs hd he hz => ?_
    subst he
    have h1 := drop_nil hx
    simp only [List.map_map, List.getElem?_map] at h1
    have hit' : s.heap.IsKeyIter a d i kvs.length ep := by simpa [Own, IterK.At] using hit
    exact wpAny_pyNext_dict_end hA hit' hd (Option.map_eq_none_iff.mp h1) fun h' z => ⟨rfl, fin h' z⟩
theorem iter_again {a : Addr} {k : IterK} {Q : Value → Shared → Prop} (D : Disj H G) (R : W.R (H.un G) s) (hk : H a = some (.iter k)) (q : Q (.ref a) s) : WP W A (pyIter (.ref a)) Q s := by
  have hU : (H.un G) a = some (.iter k) := by wide_open with GH.un_left (D.left hk); exact hk
  obtain ⟨_, hit⟩ := R.at hU
  cases k with
  | list l i => exact wpAny_pyIter_listiter hit q
  | tup l i => exact wpAny_pyIter_tupleiter hit q
  | range u v => exact wpAny_pyIter_rangeiter hit q
  | dict d i m ep => exact wpAny_pyIter_keyiter hit q
theorem Repr.fr {prog w AT B os₀ H G} (R : Repr prog w AT B os₀ (GH.un H G) s) : H s.heap.objs.size = none ∧ G s.heap.objs.size = none := by
  have f := R.fresh
  cases g : G s.heap.objs.size with
  | none => rw [GH.un_left g] at f; exact ⟨f, rfl⟩
  | some x => wide_line with GH.un_right g using f
theorem Repr.pushH {prog w AT B os₀ H G} (R : Repr prog w AT B os₀ (GH.un H G) s) (o : Obj) (g : GO) (hf : o.isFreed = false) (hg : g.isInst = false) {tk : Nat} {dr : Drawn}
    (ho : ∀ d, (s.heap.push o).get? s.heap.objs.size = some o → Own prog w AT (s.heap.push o) d s.heap.objs.size g) :
    Repr prog w AT B os₀ (GH.un (H.set s.heap.objs.size g) G) ⟨s.heap.push o, s.gens, dr, tk, s.os⟩ := by
  have h1 := R.push o hf (tk := tk) (dr := dr)
  have h2 := Repr.ext (s := ⟨s.heap.push o, s.gens, dr, tk, s.os⟩) (tk := tk) (dr := dr) h1 (GH.set_self _ _ _) (g' := g) rfl hg (Heap.ExtBut.refl _ _) (fun d z => ho d z)
  rw [GH.set_set] at h2
  wide_open with GH.set_un _ R.fr.2
  exact h2
theorem Repr.pushG {prog w AT B os₀ H G} (R : Repr prog w AT B os₀ (GH.un H G) s) (o : Obj) (g : GO) (hf : o.isFreed = false) (hg : g.isInst = false) {tk : Nat} {dr : Drawn}
    (ho : ∀ d, (s.heap.push o).get? s.heap.objs.size = some o → Own prog w AT (s.heap.push o) d s.heap.objs.size g) :
    Repr prog w AT B os₀ (GH.un H (G.set s.heap.objs.size g)) ⟨s.heap.push o, s.gens, dr, tk, s.os⟩ := by
  have h1 := R.push o hf (tk := tk) (dr := dr)
  have h2 := Repr.ext (s := ⟨s.heap.push o, s.gens, dr, tk, s.os⟩) (tk := tk) (dr := dr) h1 (GH.set_self _ _ _) (g' := g) rfl hg (Heap.ExtBut.refl _ _) (fun d z => ho d z)
  rw [GH.set_set] at h2
  wide_open with GH.un_set
  exact h2
theorem new_list {vs : List Value} {K : KV} (D : Disj H G) (R : W.R (H.un G) s) (hz : vs.length ≤ sizeLine) (h : newG (.list (vs.map er)) G K) : WP W A (newList vs) (Post W H fun v => K (er v)) s := by
  refine wpAny_newObj_type ?_ (by refine (?_ : vs.toArray.size ≤ sizeLine); simpa using hz)
  exact (i_EAA _ (D.setG R.fr.1) (R.pushG _ (.list (vs.map er)) rfl rfl fun d e => (i_EAA vs.toArray ⟨0, e⟩ (by simp) (by simpa using hz))) (h _ R.fr.2))
theorem new_tup {vs : List Value} {K : KV} (D : Disj H G) (R : W.R (H.un G) s) (hz : vs.length ≤ sizeLine) (h : newG (.tup (vs.map er)) G K) : WP W A (newTuple vs) (Post W H fun v => K (er v)) s := by
  refine wpAny_newObj_type ?_ (by refine (?_ : vs.toArray.size ≤ sizeLine); simpa using hz)
  exact (i_EAA _ (D.setG R.fr.1) (R.pushG _ (.tup (vs.map er)) rfl rfl fun d e => (i_EEAA vs.toArray 0 e (by simp) (by simpa using hz))) (h _ R.fr.2))
theorem rangeSize_one (lo hi : Int) : Builtin.Range.rangeSize lo hi 1 = if lo < hi then hi - lo else 0 := by
  unfold Builtin.Range.rangeSize
  simp only [Int.ediv_one, show (1 : Int) > 0 from by decide, if_true]
  split <;> lia
theorem range_small {lo hi : Int} (h1 : -4000000 ≤ lo) (h2 : hi ≤ 4000000) (h3 : lo ≤ 4000000 ∧ -4000000 ≤ hi) : Builtin.Range.small lo hi 1 = true := by
  unfold Builtin.Range.small
  wide_open with rangeSize_one
  unfold Builtin.Range.rangeFitsLong
  simp only [Bool.and_eq_true, Bool.or_eq_true, decide_eq_true_eq, beq_iff_eq]
  split <;> simp <;> lia
set_option tactic.hygienic true in
theorem iter_ok {v it : Value} {K : List Value → (GH → Prop) → Prop} (hv : er v = it) (D : Disj H G) (R : W.R (H.un G) s) (h : iterG it G K) :
    WP W A (pyIter v) (fun r s' => ∃ a k xs chk, r = .ref a ∧ H a = none ∧ G a = none ∧ W.R ((H.set a (.iter k)).un G) s' ∧ k.Rel xs chk ∧ chk G ∧ K xs chk) s := by
  subst hv
  cases v with
  | ref a =>
    simp only [iterG, er] at h
    split at h
    · rename_i xs hg
      refine o_EAA (R.list (GH.un_right hg)) fun vs hl e93 hz => ?_; subst e93
      refine wpAny_pyIter_list hl.isList (i_EEEEAAAAAA _ (.list a 0) _ _ rfl R.fr.1 R.fr.2 (R.pushH _ (.iter (.list a 0)) rfl rfl fun d e => (i_EAA _ e rfl rfl)) (i_EA _ rfl rfl) hg h)
    · rename_i xs hg
      refine o_EAA (R.tup (GH.un_right hg)) fun vs hl e93 hz => ?_; subst e93
      refine wpAny_pyIter_tuple hl (i_EEEEAAAAAA _ (.tup a 0) _ _ rfl R.fr.1 R.fr.2 (R.pushH _ (.iter (.tup a 0)) rfl rfl fun d e => (i_EAA _ e rfl rfl)) (i_EA _ rfl rfl) hg h)
    · rename_i es ep hg
      refine o_EEAAA (R.at (GH.un_right hg)) fun z9 kvs hd he hz hy => ?_
      subst he
      refine wpAny_pyIter_dict (by simpa using hy) hd (i_EEEEAAAAAA _ (.dict a 0 kvs.length ep) _ _ rfl R.fr.1 R.fr.2 (R.pushH _ (.iter (.dict a 0 kvs.length ep)) rfl rfl fun d e => (i_EAA _ e rfl rfl)) (i_EAA _ rfl (by simp) rfl) hg h)
    · rename_i lo hi hg
      refine o_EEEE (R.at (GH.un_right hg)) fun z9 t u v hr => ?_
      refine o_AAA h fun h1 h2 h4 h3 => ?_; try clear h
      refine wpAny_pyIter_range hr (range_small h1 h2 h4) (i_EEEEAAAAAA _ (.range lo (Builtin.Range.rangeSize lo hi 1)) _ _ rfl R.fr.1 R.fr.2 (R.pushH _ (.iter (.range lo (Builtin.Range.rangeSize lo hi 1))) rfl rfl fun d e => e) ⟨rfl, ?_⟩ trivial h3)
      wide_open with rangeSize_one
      congr 2
      split <;> lia
    · exact h.elim
  | _ => exact h.elim
end Mine
end
section
open PySem PySem.W PySem.Calls PyProof.Rows
namespace Mine
variable {W : Wd} {A : Around} {n : Nat} {H G : GH} {s : Shared}
structure Sg where
  names : List (Str × NameKind)
  locs : List Str
  cels : List Str
noncomputable def trP (σ : Sg) (x : Str) : Option CP := match σ.names.lookup x with
  | some .local => (σ.locs.idxOf? x).map .loc
  | some .cell => (σ.cels.idxOf? x).map .cel
  | some .free => if x == ("__classdict__" : Str) then none else (σ.cels.idxOf? x).map .cel
  | _ => none
noncomputable def trL {α β : Type} (f : α → Option β) : List α → Option (List β)
  | [] => some []
  | e :: es => match f e with
    | some a => (match trL f es with
      | some r => some (a :: r)
      | none => none)
    | none => none
noncomputable def foldE (op : BoolOp) : List CE → Option CE
  | [] => none
  | [a] => some a
  | a :: r => match foldE op r with
    | some b => some (match op with | .And => .and a b | .Or => .or a b)
    | none => none
noncomputable def foldB (op : BoolOp) : List CB → Option CB
  | [] => none
  | [a] => some a
  | a :: r => match foldB op r with
    | some b => some (match op with | .And => .and a b | .Or => .or a b)
    | none => none
noncomputable def plainBase (e : Expr) : Bool := e.ctorIdx != 16
noncomputable def intKeys : List (Option Expr) → Option (List Int)
  | [] => some []
  | some (.Constant (.int k) _ _) :: r => (intKeys r).map (k :: ·)
  | _ => none
noncomputable def nameP (σ : Sg) : Expr → Option CP
  | .Name x _ => trP σ x
  | _ => none
theorem name_inv {σ : Sg} {e : Expr} {p : CP} (h : nameP σ e = some p) : ∃ x q, e = .Name x q ∧ trP σ x = some p := by
  cases e with
  | Name x q => exact (i_EEA x q rfl h)
  | _ => wide_open using h
noncomputable def trT (σ : Sg) : Expr → Option CT
  | .Name x _ => (trP σ x).map .one
  | .Tuple es _ _ => (trL (nameP σ) es).map .many
  | _ => none
noncomputable def notSet (e : Expr) : Bool := e.ctorIdx != 7
noncomputable def locsOf (names : List (Str × NameKind)) : List Str := (names.filter fun p => p.2 == .local).map (·.1)
noncomputable def freesOf (names : List (Str × NameKind)) : List Str := (names.filter fun p => p.2 == .free).map (·.1)
noncomputable def compSg (names : List (Str × NameKind)) : Sg := ⟨names, locsOf names, freesOf names⟩
noncomputable def compNamesOk (names : List (Str × NameKind)) : Bool := names.all fun p => (p.2 == .local || p.2 == .free || p.2 == .globalImplicit) && names.lookup p.1 == some p.2
noncomputable def trC : Const → Option CE
  | .none => some (.val .none)
  | .bool b => some (.val (.bool b))
  | .int i => some (.val (.int i 0))
  | .str x => some (.val (.str x 0))
  | _ => none
noncomputable def trN (gl : List (Str × Value)) (σ : Sg) (x : Str) : Option CE := bif x == ("__debug__" : Str) then none else match trP σ x with
  | some p => some (.var p)
  | none => bif σ.names.lookup x == some .globalImplicit then (gl.lookup x).map .val else none
noncomputable def trU (op : UnaryOp) (x : Option CE) : Option CE := match op with
  | .USub => x.map .neg
  | .Not => x.map fun a => .ofB (.not (.tr a))
  | _ => none
noncomputable def cmpE (f : Expr → Option CE) (l : Expr) (ops : List CmpOp) (rs : List Expr) : Option CB := match ops with
  | [] => none
  | op :: ops => match rs with
    | [] => none
    | r :: rs => match ops with
      | [] => (match rs with
        | [] => bif behindInMarks op r then none else (f l).bind fun a => (f r).bind fun b => some (.cmp op a b)
        | _ :: _ => none)
      | o2 :: ops => match rs with
        | [] => none
        | r2 :: rs => match ops with
          | [] => (match rs with
            | [] => bif behindInMarks o2 r2 then none else (f l).bind fun a => (f r).bind fun b => (f r2).bind fun c => some (.cmp2 op o2 a b c)
            | _ :: _ => none)
          | _ :: _ => none
noncomputable def trO (f : Expr → Option CE) : Option Expr → Option CE
  | none => some (.val .none)
  | some e => f e
noncomputable def trCall (AT : Names) (f : Expr → Option CE) (g : Expr) (args : List Expr) (pos : Pos) : Option CE := match g with
  | .Attribute o name apos => bif plainBase o && apos.endLine == pos.line && decide (args.length < 30) then (AT.idxOf? name).bind fun i => (f o).bind fun a => (trL f args).bind fun as => some (.meth a i as) else none
  | .Name x p => (f (.Name x p)).bind fun a => (trL f args).bind fun as => some (.call a as)
  | _ => none
noncomputable def trSub (f : Expr → Option CE) (o i : Expr) : Option CE := match i with
  | .Slice l u st _ => (f o).bind fun a => (trO f l).bind fun l => (trO f u).bind fun u => (trO f st).bind fun st => some (.slice a l u st)
  | i => (f o).bind fun a => (f i).bind fun b => some (.sub a b)
noncomputable def trIf (fB : Sg → Expr → Option CB) (σ : Sg) : List Expr → Option CB
  | [] => some CB.tt
  | [c] => fB σ c
  | _ => none
noncomputable def trLC (fE : Sg → Expr → Option CE) (fB : Sg → Expr → Option CB) (σ : Sg) (elt : Expr) (gens : List Comprehension) (scope : Scope) : Option CE := match gens with
  | [] => none
  | g :: r => bif r.isEmpty && g.is_async == 0 && notSet g.iter && scope.kind == .function && compNamesOk scope.names then
      (fE σ g.iter).bind fun it => (trT (compSg scope.names) g.target).bind fun t => (trIf fB (compSg scope.names) g.ifs).bind fun c => (fE (compSg scope.names) elt).bind fun e =>
        (trL (fun (x : Str) => (if x == ("__classdict__" : Str) then none else σ.cels.idxOf? x)) (freesOf scope.names)).bind fun caps => some (.comp e t it c (locsOf scope.names).length caps) else none
noncomputable def stepE (AT : Names) (gl : List (Str × Value)) (fE : Sg → Expr → Option CE) (fB : Sg → Expr → Option CB) (σ : Sg) : Expr → Option CE
  | .Constant c _ _ => trC c
  | .Name x _ => trN gl σ x
  | .BinOp l op r _ => (fE σ l).bind fun a => (fE σ r).bind fun b => some (.bin op a b)
  | .UnaryOp op x _ => trU op (fE σ x)
  | .BoolOp op vs _ => (trL (fE σ) vs).bind (foldE op)
  | .Compare l ops rs _ => (cmpE (fE σ) l ops rs).map .ofB
  | .IfExp t a b _ => (fB σ t).bind fun t => (fE σ a).bind fun a => (fE σ b).bind fun b => some (.ite t a b)
  | .Call f args kws pos => bif kws.isEmpty then trCall AT (fE σ) f args pos else none
  | .Attribute o name _ => bif plainBase o then (AT.idxOf? name).bind fun i => (fE σ o).bind fun a => some (.attr a i) else none
  | .Subscript o i _ => trSub (fE σ) o i
  | .List es _ => bif decide (es.length ≤ 100) then (trL (fE σ) es).map .list else none
  | .Tuple es _ _ => bif decide (es.length ≤ 100) then (trL (fE σ) es).map .tup else none
  | .Dict ks vs _ => bif ks.length == vs.length && decide (ks.length ≤ 15) then (intKeys ks).bind fun js => (trL (fE σ) vs).map fun as => .dict js as else none
  | .ListComp elt gens scope _ => trLC fE fB σ elt gens scope
  | _ => none
noncomputable def plainTest (e : Expr) : Bool := e.ctorIdx != 3 && e.ctorIdx != 0 && e.ctorIdx != 5 && e.ctorIdx != 15 && e.ctorIdx != 22
noncomputable def stepB (fE : Sg → Expr → Option CE) (fB : Sg → Expr → Option CB) (σ : Sg) (e : Expr) : Option CB := bif plainTest e then (fE σ e).map .tr else match e with
  | .UnaryOp op x p => (match op with
    | .Not => (fB σ x).map .not
    | _ => (fE σ (.UnaryOp op x p)).map .tr)
  | .BoolOp op vs _ => (trL (fB σ) vs).bind (foldB op)
  | .IfExp t a b _ => (fB σ t).bind fun t => (fB σ a).bind fun a => (fB σ b).bind fun b => some (.ite t a b)
  | .Compare l ops rs _ => cmpE (fE σ) l ops rs
  | _ => none
structure TrF where
  E : Sg → Expr → Option CE
  B : Sg → Expr → Option CB
noncomputable def trF (AT : Names) (gl : List (Str × Value)) : Nat → TrF
  | 0 => ⟨fun z9 z9 => none, fun z9 z9 => none⟩
  | n + 1 => ⟨stepE AT gl (trF AT gl n).E (trF AT gl n).B, stepB (trF AT gl n).E (trF AT gl n).B⟩
noncomputable abbrev trE (AT : Names) (gl : List (Str × Value)) (n : Nat) : Sg → Expr → Option CE := (trF AT gl n).E
noncomputable abbrev trB (AT : Names) (gl : List (Str × Value)) (n : Nat) : Sg → Expr → Option CB := (trF AT gl n).B
theorem bnd {α β : Type} {o : Option α} {f : α → Option β} {r : β} (h : o.bind f = some r) : ∃ a, o = some a ∧ f a = some r := Option.bind_eq_some_iff.mp h
theorem mpd {α β : Type} {o : Option α} {f : α → β} {r : β} (h : o.map f = some r) : ∃ a, o = some a ∧ f a = r := Option.map_eq_some_iff.mp h
theorem cnd {β : Type} {c : Bool} {x : Option β} {r : β} (h : (bif c then x else none) = some r) : c = true ∧ x = some r := by
  cases c with
  | true => exact ⟨rfl, h⟩
  | false => wide_open using h
theorem cnd' {β : Type} {c : Bool} {x : Option β} {r : β} (h : (bif c then none else x) = some r) : c = false ∧ x = some r := by
  cases c with
  | true => wide_open using h
  | false => exact ⟨rfl, h⟩
structure FrOK (σ : Sg) (cs : List Addr) (cd : Value) (env : Env) : Prop where
  kind : env.scope.kind = .function
  kloc : ∀ x, σ.names.lookup x = some .local → env.kindOf x = some .local
  kcel : ∀ x, σ.names.lookup x = some .cell ∨ σ.names.lookup x = some .free → env.kindOf x = some .cell ∨ env.kindOf x = some .free
  kglo : ∀ x, σ.names.lookup x = some .globalImplicit → env.kindOf x = some .globalImplicit
  cel : ∀ x i, σ.cels.idxOf? x = some i → ∃ c, env.cells.lookup x = some c ∧ cs[i]? = some c
  ncd : ∀ x, σ.names.lookup x = some .cell → env.kindOf x = some .free → x ≠ ("__classdict__" : Str)
  glob : env.globals = mainGlobals
  blt : env.builtins = builtinsNs
  code : env.code = cd
set_option tactic.hygienic true in
theorem var_ok {σ : Sg} {cs : List Addr} {cd : Value} {env : Env} {m : Mm} {x : Str} {p : CP} {v : Value} {Q : Value → Shared → Prop} (F : FrOK σ cs cd env) (hL : H env.locals = some (.frame σ.locs m)) (D : Disj H G) (R : W.R (H.un G) s)
    (hp : trP σ x = some p) (hv : getP cs m p G = some v) (q : ∀ v', er v' = v → Q v' s) : WP W A (loadName env x) Q s := by
  unfold trP at hp
  have cell : ∀ {i}, σ.cels.idxOf? x = some i → CP.cel i = p → ∃ c v', env.cells.lookup x = some c ∧ s.heap.IsCell c (some v') ∧ er v' = v := by
    rintro i hi rfl
    refine o_EA (F.cel x i hi) fun c h1 h2 => ?_
    unfold getP at hv
    dsimp only at hv
    rw [h2] at hv
    dsimp only at hv
    split at hv
    · rename_i o hg
      refine o_EEA (R.at (GH.un_right hg)) fun z9 v' h3 h4 => ?_
      subst h4
      refine o_EA (Option.map_eq_some_iff.mp hv) fun y e92 e => ?_; subst e92
      exact (i_EEAA c y h1 h3 e)
    · wide_open using hv
  split at hp
  · rename_i hk
    refine o_EA (Option.map_eq_some_iff.mp hp) fun i hi e93 => ?_; subst e93
    have hU : (H.un G) env.locals = some (.frame σ.locs m) := by wide_open with GH.un_left (D.left hL); exact hL
    refine o_EEA (R.at hU) fun z9 mm hn hm => ?_
    have h1 := hm x i v hi hv
    refine o_EA (Option.map_eq_some_iff.mp h1) fun y h2 e => ?_
    exact wpAny_loadName_local F.kind (F.kloc x hk) hn h2 (q y e)
  · rename_i hk
    refine o_EA (Option.map_eq_some_iff.mp hp) fun i hi e93 => ?_; subst e93
    refine o_EEAA (cell hi rfl) fun c v' h1 h2 e => ?_
    rcases F.kcel x (.inl hk) with h | h
    · exact wpAny_loadName_cell F.kind h h1 h2 (q v' e)
    · exact wpAny_loadName_free F.kind h h1 h2 (q v' e) (by simpa using F.ncd x hk h)
  · rename_i hk
    split at hp
    · wide_open using hp
    · rename_i hc
      refine o_EA (Option.map_eq_some_iff.mp hp) fun i hi e93 => ?_; subst e93
      refine o_EEAA (cell hi rfl) fun c v' h1 h2 e => ?_
      rcases F.kcel x (.inr hk) with h | h
      · exact wpAny_loadName_cell F.kind h h1 h2 (q v' e)
      · exact wpAny_loadName_free F.kind h h1 h2 (q v' e) (by simpa using hc)
  · wide_open using hp
theorem glob_ok {mg mb : Str → Option Value} (O : WdOK W mg mb) {σ : Sg} {cs : List Addr} {cd : Value} {env : Env} {x : Str} {v : Value} {Q : Value → Shared → Prop} (F : FrOK σ cs cd env) (R : W.R (H.un G) s)
    (hk : σ.names.lookup x = some .globalImplicit) (hv : W.globs.lookup x = some v) (q : ∀ v', er v' = v → Q v' s) {pos : Pos} (hd : (x == ("__debug__" : Str)) = false) : WP W A (eval (.Name x pos) env) Q s := by
  refine Calls.Name_function_global F.kind (F.kglo x hk) ?_ hd
  have g := O.hmg.keeps R.keep
  have b := O.hmb.keeps R.keep
  rw [← F.glob] at g
  rw [← F.blt] at b
  rcases O.glob x v hv with ⟨v', h1, h2⟩ | ⟨h0, v', h1, h2⟩
  · exact Calls.loadGlobal_global g h1 (q v' h2)
  · exact Calls.loadGlobal_builtin g h0 b h1 (q v' h2)
end Mine
end
section
open PySem PySem.W PySem.Calls PyProof.Rows
namespace Mine
variable {W : Wd} {n : Nat}
structure In (W : Wd) (A : Around) (n : Nat) (σ : Sg) (cs : List Addr) (cd : Value) (env : Env) (m : Mm) (H : GH) : Prop where
  room : Room A n
  fr : FrOK σ cs cd env
  loc : H env.locals = some (.frame σ.locs m)
noncomputable def SE (W : Wd) (σ : Sg) (e : Expr) (ce : CE) : Prop := ∀ A n cs cd env m H G s (K : KV), In W A n σ cs cd env m H → Disj H G → W.R (H.un G) s → wpE W n cs m ce G K →
  WP W A (eval e env) (Post W H fun v => K (er v)) s
noncomputable def SB (W : Wd) (σ : Sg) (e : Expr) (cb : CB) : Prop := ∀ A n cs cd env m H G s (K : Bool → GH → Prop), In W A n σ cs cd env m H → Disj H G → W.R (H.un G) s → wpB W n cs m cb G K →
  WP W A (isTrue e env (eval e env)) (Post W H K) s
noncomputable def SEs (W : Wd) (σ : Sg) (es : List Expr) (ces : List CE) : Prop := ∀ A n cs cd env m H G s pos (K : List Value → GH → Prop), In W A n σ cs cd env m H → Disj H G → W.R (H.un G) s → wpEs W n cs m ces G K →
  (backTo pos (starEach es env)).any (·.1) = false ∧ es.length = ces.length ∧ WP W A (spliced (backTo pos (starEach es env))) (fun vs s' => vs.length = es.length ∧ Post W H (fun vs => K (vs.map er)) vs s') s
theorem SE.use {σ e ce} (h : SE W σ e ce) {A n cs cd env m H G s} {K : KV} (I : In W A n σ cs cd env m H) (D : Disj H G) (R : W.R (H.un G) s) (w : wpE W n cs m ce G K) : WP W A (eval e env) (Post W H fun v => K (er v)) s := h _ _ _ _ _ _ _ _ _ _ I D R w
theorem SB.use {σ e cb} (h : SB W σ e cb) {A n cs cd env m H G s} {K : Bool → GH → Prop} (I : In W A n σ cs cd env m H) (D : Disj H G) (R : W.R (H.un G) s) (w : wpB W n cs m cb G K) : WP W A (isTrue e env (eval e env)) (Post W H K) s := h _ _ _ _ _ _ _ _ _ _ I D R w
theorem SEs.use {σ es ces} (h : SEs W σ es ces) {A n cs cd env m H G s} (pos : Pos) {K : List Value → GH → Prop} (I : In W A n σ cs cd env m H) (D : Disj H G) (R : W.R (H.un G) s) (w : wpEs W n cs m ces G K) :
  (backTo pos (starEach es env)).any (·.1) = false ∧ es.length = ces.length ∧ WP W A (spliced (backTo pos (starEach es env))) (fun vs s' => vs.length = es.length ∧ Post W H (fun vs => K (vs.map er)) vs s') s := h _ _ _ _ _ _ _ _ _ _ _ I D R w
theorem trL_cons {α β : Type} {f : α → Option β} {e : α} {es : List α} {r : List β} (h : trL f (e :: es) = some r) : ∃ a r', f e = some a ∧ trL f es = some r' ∧ r = a :: r' := by
  have h : (match f e with
    | some a => (match trL f es with
      | some r => some (a :: r)
      | none => none)
    | none => none) = some r := h
  cases h1 : f e with
  | none => wide_line with h1 using h
  | some a =>
    cases h2 : trL f es with
    | none => rw [h1, h2] at h; wide_open using h
    | some r' => rw [h1, h2] at h; wide_open using h; exact (i_EEAA a r' rfl rfl rfl)
theorem star_cons {e : Expr} {es : List Expr} {env : Env} (h : ∀ x p, e ≠ .Starred x p) : starEach (e :: es) env = (false, eval e env) :: starEach es env := by
  cases e <;> first | rfl | exact absurd rfl (h _ _)
theorem trE_star {AT gl σ e ce} : ∀ {n}, trE AT gl n σ e = some ce → ∀ x p, e ≠ .Starred x p
  | 0, h, _, _, _ => by wide_open using h
  | n + 1, h, _, _, q => by subst q; wide_open using h
theorem star_any {AT : Names} {gl : List (Str × Value)} {k : Nat} {σ : Sg} {pos : Pos} {env : Env} : ∀ es ces, trL (trE AT gl k σ) es = some ces → (backTo pos (starEach es env)).any (·.1) = false ∧ es.length = ces.length
  | [], _, q => by wide_open using q; exact ⟨rfl, rfl⟩
  | e :: es, _, q => by
    refine o_EEAA (trL_cons q) fun a r q1 q2 e95 => ?_; subst e95
    obtain ⟨l1, l2⟩ := star_any es r q2
    wide_open with star_cons (trE_star q1)
    exact ⟨l1, congrArg (· + 1) l2⟩
theorem spl_ok {AT : Names} {gl : List (Str × Value)} {k : Nat} {σ : Sg} (ih : ∀ e ce, trE AT gl k σ e = some ce → SE W σ e ce) : ∀ es ces, trL (trE AT gl k σ) es = some ces → SEs W σ es ces
  | [], _, h, _, _, _, _, _, _, _, G, _, _, _, _, D, R, w => by
    wide_open using h
    exact (i_AA rfl rfl (spliced_nil (i_AEAA rfl G D R w)))
  | e :: es, _, h, A, n, cs, cd, env, m, H, G, s, pos, K, I, D, R, w => by
    have hh := star_any (pos := pos) (env := env) _ _ h
    refine (i_AA hh.1 hh.2 ?_)
    clear hh
    refine o_EEAA (trL_cons h) fun a r h1 h2 e95 => ?_; subst e95
    wide_open with star_cons (trE_star h1)
    refine Calls.spliced_cons (wpAny_mono ((ih e a h1).use I D R w) (fun v s' q => ?_) fun z9 z9 z => z)
    refine o_EAA q fun G1 D1 R1 w1 => ?_; try clear q
    refine wpAny_mono ((spl_ok ih es r h2).use pos I D1 R1 w1).2.2 (fun vs s'' q => ?_) fun z9 z9 z => z
    refine o_AEAA q fun hl G2 D2 R2 w2 => ?_; try clear q
    exact (i_AEAA (congrArg (· + 1) hl) G2 D2 R2 w2)
theorem boolOp_two (pos : Pos) (op : BoolOp) (x y : Sem Value) (l : List (Sem Value)) : boolOp pos op (x :: y :: l) = (do
    let v ← x
    standAt pos
    let t ← holding [v] (truthy v)
    match op, t with
    | .And, false | .Or, true => pure v
    | _, _ => boolOp pos op (y :: l)) := rfl
theorem compareChain_two (pos : Pos) (left : Value) (op o2 : CmpOp) (r r2 : Sem Value) : compareChain pos left [op, o2] [r, r2] = (do
    let rv ← holding [left] r
    standAt pos
    let c ← holding [left, rv] (compareOp op left rv)
    release [left, rv] [c]
    if ← holding [c, rv] (truthy c) then compareChain pos rv [o2] [r2] else pure c) := rfl
theorem testChain_two (pos : Pos) (left : Value) (op o2 : CmpOp) (r r2 : Sem Value) : testChain pos left [op, o2] [r, r2] = (do
    let rv ← holding [left] r
    standAt pos
    let c ← holding [left, rv] (compareOp op left rv)
    release [left, rv] [c]
    if ← holding [c, rv] (truthy c) then testChain pos rv [o2] [r2] else pure false) := rfl
set_option tactic.hygienic true in
theorem boolOp_ok {AT : Names} {gl : List (Str × Value)} {k : Nat} {σ : Sg} {op : BoolOp} {pos : Pos} (ih : ∀ e ce, trE AT gl k σ e = some ce → SE W σ e ce) : ∀ vs as ce, trL (trE AT gl k σ) vs = some as → foldE op as = some ce →
    ∀ A n cs cd env m H G s (K : KV), In W A n σ cs cd env m H → Disj H G → W.R (H.un G) s → wpE W n cs m ce G K → WP W A (boolOp pos op (evalEach vs env)) (Post W H fun v => K (er v)) s
  | [], as, ce, h, hf => by wide_open using h; wide_open using hf
  | [e], as, ce, h, hf => by
    refine o_EEAA (trL_cons h) fun a r h1 h2 e95 => ?_; subst e95
    wide_open using h2
    wide_open using hf
    intro A n cs cd env m H G s K I D R w
    exact (ih e _ h1).use I D R w
  | e :: e2 :: es, as, ce, h, hf => by
    refine o_EEAA (trL_cons h) fun a r h1 h2 e95 => ?_; subst e95
    refine o_EEAA (trL_cons h2) fun a2 r2 h3 h4 e95 => ?_; subst e95
    simp only [foldE] at hf
    split at hf
    · rename_i b hb
      have ih2 := boolOp_ok (op := op) (pos := pos) ih (e2 :: es) _ b h2 hb
      wide_open using hf
      intro A n cs cd env m H G s K I D R w
      refine (?_ : WP W A (boolOp pos op (eval e env :: eval e2 env :: evalEach es env)) _ s)
      wide_open with boolOp_two
      cases op with
      | And =>
        refine wpAny_bind (wpAny_mono ((ih e a h1).use I D R w) (fun v s' q => ?_) fun z9 z9 z => z)
        refine o_EAA q fun G1 D1 R1 w1 => ?_; try clear q
        refine wpAny_bind (wpAny_standAt (wpAny_bind (wpAny_holding (wpAny_mono (truth_ok rfl D1 R1 w1) (fun t s'' q => ?_) fun z9 z9 z => z))))
        refine o_EAA q fun G2 D2 R2 w2 => ?_; try clear q
        cases t with
        | false => exact wpAny_pure (i_EAA G2 D2 R2 w2)
        | true => exact ih2 _ _ _ _ _ _ _ _ _ _ I D2 R2 w2
      | Or =>
        refine wpAny_bind (wpAny_mono ((ih e a h1).use I D R w) (fun v s' q => ?_) fun z9 z9 z => z)
        refine o_EAA q fun G1 D1 R1 w1 => ?_; try clear q
        refine wpAny_bind (wpAny_standAt (wpAny_bind (wpAny_holding (wpAny_mono (truth_ok rfl D1 R1 w1) (fun t s'' q => ?_) fun z9 z9 z => z))))
        refine o_EAA q fun G2 D2 R2 w2 => ?_; try clear q
        cases t with
        | true => exact wpAny_pure (i_EAA G2 D2 R2 w2)
        | false => exact ih2 _ _ _ _ _ _ _ _ _ _ I D2 R2 w2
    · wide_open using hf
set_option tactic.hygienic true in
theorem allTrue_ok {AT : Names} {gl : List (Str × Value)} {k : Nat} {σ : Sg} {op : BoolOp} (ih : ∀ e ce, trB AT gl k σ e = some ce → SB W σ e ce) : ∀ vs as ce, trL (trB AT gl k σ) vs = some as → foldB op as = some ce →
    ∀ A n cs cd env m H G s (K : Bool → GH → Prop), In W A n σ cs cd env m H → Disj H G → W.R (H.un G) s → wpB W n cs m ce G K → WP W A (allTrue op vs env) (Post W H K) s
  | [], as, ce, h, hf => by wide_open using h; wide_open using hf
  | [e], as, ce, h, hf => by
    refine o_EEAA (trL_cons h) fun a r h1 h2 e95 => ?_; subst e95
    wide_open using h2
    wide_open using hf
    intro A n cs cd env m H G s K I D R w
    wide_open with arm_allTrue_cons
    refine wpAny_bind (wpAny_mono ((ih e _ h1).use I D R w) (fun t s' q => ?_) fun z9 z9 z => z)
    cases op <;> cases t <;> exact wpAny_pure q
  | e :: e2 :: es, as, ce, h, hf => by
    refine o_EEAA (trL_cons h) fun a r h1 h2 e95 => ?_; subst e95
    refine o_EEAA (trL_cons h2) fun a2 r2 h3 h4 e95 => ?_; subst e95
    simp only [foldB] at hf
    split at hf
    · rename_i b hb
      have ih2 := allTrue_ok (op := op) ih (e2 :: es) _ b h2 hb
      wide_open using hf
      intro A n cs cd env m H G s K I D R w
      wide_open with arm_allTrue_cons
      cases op with
      | And =>
        refine wpAny_bind (wpAny_mono ((ih e a h1).use I D R w) (fun t s' q => ?_) fun z9 z9 z => z)
        refine o_EAA q fun G1 D1 R1 w1 => ?_; try clear q
        cases t with
        | false => exact wpAny_pure (i_EAA G1 D1 R1 w1)
        | true => exact ih2 _ _ _ _ _ _ _ _ _ _ I D1 R1 w1
      | Or =>
        refine wpAny_bind (wpAny_mono ((ih e a h1).use I D R w) (fun t s' q => ?_) fun z9 z9 z => z)
        refine o_EAA q fun G1 D1 R1 w1 => ?_; try clear q
        cases t with
        | true => exact wpAny_pure (i_EAA G1 D1 R1 w1)
        | false => exact ih2 _ _ _ _ _ _ _ _ _ _ I D1 R1 w1
    · wide_open using hf
variable {A : Around} {H G : GH} {s : Shared}
theorem cmp_use {op : CmpOp} {va vb : Value} {K : Bool → GH → Prop} (hA : Room A n) (D : Disj H G) (R : W.R (H.un G) s) (h : cmpG W n op (er va) (er vb) G K) :
    WP W A (compareOp op va vb) (Post W H fun v G' => ∃ b, v = .bool b ∧ K b G') s := h A va vb hA rfl rfl H s trivial D R
theorem bin_use {op : Operator} {va vb : Value} {K : KV} (hA : Room A n) (D : Disj H G) (R : W.R (H.un G) s) (h : binG W n op (er va) (er vb) G K) :
    WP W A (binaryOp op va vb) (Post W H fun v => K (er v)) s := h A va vb hA rfl rfl H s trivial D R
theorem chain2_eq {o1 o2 : CmpOp} {r1 r2 : Expr} {env : Env} (h : behindInMarks o2 r2 = false) : markedEach [o1, o2] [r1, r2] (evalEach [r1, r2] env) = [eval r1 env, eval r2 env] := by
  refine (?_ : [eval r1 env, markedBehindIn o2 r2 (eval r2 env)] = _)
  unfold markedBehindIn
  wide_open with h
theorem cmp1_ok {σ : Sg} {l r : Expr} {op : CmpOp} {pos : Pos} {a b : CE} (hm : behindInMarks op r = false) (hl : SE W σ l a) (hr : SE W σ r b)
    {A n cs cd env m H G s} {K : Bool → GH → Prop} (I : In W A n σ cs cd env m H) (D : Disj H G) (R : W.R (H.un G) s) (w : wpE W n cs m a G fun x G1 => wpE W n cs m b G1 fun y G2 => cmpG W n op x y G2 K) :
    WP W A (eval (.Compare l [op] [r] pos) env) (Post W H fun v G' => ∃ b, v = .bool b ∧ K b G') s := by
  refine wpAny_Compare1 (wpAny_mono (hl.use I D R w) (fun x s' q => ?_) fun z9 z9 z => z) hm
  refine o_EAA q fun G1 D1 R1 w1 => ?_; try clear q
  refine wpAny_mono (hr.use I D1 R1 w1) (fun y s' q => ?_) fun z9 z9 z => z
  refine o_EAA q fun G2 D2 R2 w2 => ?_; try clear q
  exact cmp_use I.room D2 R2 w2
theorem cmp2_ok {σ : Sg} {l r1 r2 : Expr} {o1 o2 : CmpOp} {pos : Pos} {a b c : CE} (hm : behindInMarks o2 r2 = false) (hl : SE W σ l a) (hr1 : SE W σ r1 b) (hr2 : SE W σ r2 c)
    {A n cs cd env m H G s} {K : Bool → GH → Prop} (I : In W A n σ cs cd env m H) (D : Disj H G) (R : W.R (H.un G) s) (w : wpB W n cs m (.cmp2 o1 o2 a b c) G K) :
    WP W A (eval (.Compare l [o1, o2] [r1, r2] pos) env) (Post W H fun v G' => ∃ b, v = .bool b ∧ K b G') s ∧ ∀ whole, WP W A (isTrue (.Compare l [o1, o2] [r1, r2] pos) env whole) (Post W H K) s := by
  constructor
  · (wide_line using arm_eval_Compare; wide_open with chain2_eq hm)
    refine wpAny_bind (wpAny_mono (hl.use I D R w) (fun x s' q => ?_) fun z9 z9 z => z)
    refine o_EAA q fun G1 D1 R1 w1 => ?_; try clear q
    wide_open with compareChain_two
    refine wpAny_bind (wpAny_holding (wpAny_mono (hr1.use I D1 R1 w1) (fun y s' q => ?_) fun z9 z9 z => z))
    refine o_EAA q fun G2 D2 R2 w2 => ?_; try clear q
    refine wpAny_bind (wpAny_standAt (wpAny_bind (wpAny_holding (wpAny_mono (cmp_use I.room D2 R2 w2) (fun t s' q => ?_) fun z9 z9 z => z))))
    refine o_EAAEA q fun G3 D3 R3 t' e95 w3 => ?_; try clear q; subst e95
    refine wpAny_bind (wpAny_release (wpAny_bind (wpAny_holding (wpAny_truthy_bool ?_))))
    cases t' with
    | false => exact wpAny_pure (i_EAAEA G3 D3 R3 false rfl w3)
    | true =>
      wide_open with if_pos rfl
      refine wpAny_bind (wpAny_holding (wpAny_mono (hr2.use I D3 R3 w3) (fun z s' q => ?_) fun z9 z9 z => z))
      refine o_EAA q fun G4 D4 R4 w4 => ?_; try clear q
      refine wpAny_bind (wpAny_standAt ?_)
      exact wpAny_operating (cmp_use I.room D4 R4 w4)
  · intro whole
    (wide_line using arm_isTrue_Compare; wide_open with chain2_eq hm)
    refine wpAny_bind (wpAny_mono (hl.use I D R w) (fun x s' q => ?_) fun z9 z9 z => z)
    refine o_EAA q fun G1 D1 R1 w1 => ?_; try clear q
    wide_open with testChain_two
    refine wpAny_bind (wpAny_holding (wpAny_mono (hr1.use I D1 R1 w1) (fun y s' q => ?_) fun z9 z9 z => z))
    refine o_EAA q fun G2 D2 R2 w2 => ?_; try clear q
    refine wpAny_bind (wpAny_standAt (wpAny_bind (wpAny_holding (wpAny_mono (cmp_use I.room D2 R2 w2) (fun t s' q => ?_) fun z9 z9 z => z))))
    refine o_EAAEA q fun G3 D3 R3 t' e95 w3 => ?_; try clear q; subst e95
    refine wpAny_bind (wpAny_release (wpAny_bind (wpAny_holding (wpAny_truthy_bool ?_))))
    cases t' with
    | false => exact wpAny_pure (i_EAA G3 D3 R3 w3)
    | true =>
      wide_open with if_pos rfl
      refine wpAny_bind (wpAny_holding (wpAny_mono (hr2.use I D3 R3 w3) (fun z s' q => ?_) fun z9 z9 z => z))
      refine o_EAA q fun G4 D4 R4 w4 => ?_; try clear q
      refine wpAny_bind (wpAny_standAt (wpAny_bind ?_))
      refine wpAny_operating (wpAny_mono (cmp_use I.room D4 R4 w4) (fun t s' q => ?_) fun z9 z9 z => z)
      refine o_EAAEA q fun G5 D5 R5 t' e95 w5 => ?_; try clear q; subst e95
      exact wpAny_holding (wpAny_truthy_bool (i_EAA G5 D5 R5 w5))
end Mine
end
section
open PySem PySem.W PySem.Calls PyProof.Rows
namespace Mine
variable {W : Wd} {n : Nat} {A : Around} {H G : GH} {s : Shared}
noncomputable abbrev PostM (W : Wd) (H : GH) (L : Addr) (ls : List Str) (K : Mm → GH → Prop) (s' : Shared) : Prop := ∃ m' G', Disj H G' ∧ W.R ((H.set L (.frame ls m')).un G') s' ∧ K m' G'
theorem Disj.setL {L : Addr} {g o : GO} (D : Disj H G) (h : H L = some g) : Disj (H.set L o) G := D.setH (D.left h)
theorem In.same {σ : Sg} {cs : List Addr} {cd : Value} {env : Env} {m : Mm} (I : In W A n σ cs cd env m H) : H.set env.locals (.frame σ.locs m) = H := GH.set_same _ I.loc
theorem In.set {σ : Sg} {cs : List Addr} {cd : Value} {env : Env} {m m' : Mm} (I : In W A n σ cs cd env m H) : In W A n σ cs cd env m' (H.set env.locals (.frame σ.locs m')) := ⟨I.room, I.fr, GH.set_self _ _ _⟩
theorem Disj.unL {L : Addr} {g o : GO} (D : Disj (H.set L o) G) (h : H L = some g) : Disj H G := by
  intro a ha
  by_cases e : a = L
  · subst e; have := D a ha; wide_line with GH.set_self using this
  · have := D a ha; rwa [GH.set_ne _ _ e] at this
theorem idxOf?_lt {l : List Str} {x : Str} {i : Nat} (h : l.idxOf? x = some i) : i < l.length := (List.findIdx?_eq_some_iff_getElem.mp h).1
set_option tactic.hygienic true in
theorem store_ok {σ : Sg} {cs : List Addr} {cd : Value} {env : Env} {m : Mm} {x : Str} {p : CP} {v : Value} {K : Mm → GH → Prop} (I : In W A n σ cs cd env m H) (D : Disj H G) (R : W.R (H.un G) s)
    (hp : trP σ x = some p) (h : setP cs p (er v) m G K) : WP W A (storeName env x v) (fun z9 => PostM W H env.locals σ.locs K) s := by
  unfold trP at hp
  have cell : ∀ {i}, σ.cels.idxOf? x = some i → CP.cel i = p → ∃ c v₀, env.cells.lookup x = some c ∧ s.heap.IsCell c v₀ ∧ ∀ h', h'.IsCell c (some v) → Heap.SameBut c s.heap h' → PostM W H env.locals σ.locs K { s with heap := h' } := by
    rintro i hi rfl
    refine o_EA (I.fr.cel x i hi) fun c h1 h2 => ?_
    refine o_EEAA h fun c' y h3 h4 h5 => ?_; try clear h
    wide_line with h2 using h3
    refine o_EEA (R.at (GH.un_right h4)) fun z9 v' h6 h7 => ?_
    refine (i_EEAA c v' h1 h6 (fun h' z hs => (i_EEAA m _ (D.setG (D.right h4)) ?_ h5)))
    (wide_line using I.same; wide_open with GH.un_set)
    exact R.ext (GH.un_right h4) rfl rfl hs.extBut fun d z9 => (i_EA _ z rfl)
  split at hp
  · rename_i hk
    refine o_EA (Option.map_eq_some_iff.mp hp) fun i hi e93 => ?_; subst e93
    have gL : G env.locals = none := D.left I.loc
    have hU : (H.un G) env.locals = some (.frame σ.locs m) := by wide_open with GH.un_left gL; exact I.loc
    refine o_EEA (R.at hU) fun z9 mm hn hm => ?_
    refine o_EA (optG.ex h) fun z9 hx hK => ?_
    have hlt := (List.getElem?_eq_some_iff.mp hx).1
    refine wpAny_storeName_local (I.fr.kloc x hk) hn (fun h' hn' hs => (i_EEAA _ G D ?_ hK)) (by wide_open with I.fr.kind; rfl)
    wide_open with GH.set_un _ gL
    refine R.ext hU rfl rfl hs.extBut fun d z9 => (i_EA _ hn' (fun y j w hy hw => ?_))
    by_cases e : y = x
    · subst e
      wide_line with hi using hy
      simp only [List.getElem?_set_self hlt, Option.join_some] at hw
      wide_open using hw
      simp
    · simp only [e, if_false]
      have hij : i ≠ j := by rintro rfl; exact e (idxOf?_inj hy hi)
      rw [List.getElem?_set_ne hij] at hw
      exact hm y j w hy hw
  · rename_i hk
    refine o_EA (Option.map_eq_some_iff.mp hp) fun i hi e93 => ?_; subst e93
    refine o_EEAA (cell hi rfl) fun c v₀ h1 h2 h3 => ?_
    have hkk := I.fr.kind
    rcases I.fr.kcel x (.inl hk) with h | h
    · exact wpAny_storeName_cell I.fr.kind h h1 h2 h3
    · unfold storeName
      simp only [h, I.fr.kind]
      exact wpAny_bind (wpAny_cellOf h1 (wpAny_cellSet h2 h3))
  · rename_i hk
    split at hp
    · wide_open using hp
    · refine o_EA (Option.map_eq_some_iff.mp hp) fun i hi e93 => ?_; subst e93
      refine o_EEAA (cell hi rfl) fun c v₀ h1 h2 h3 => ?_
      rcases I.fr.kcel x (.inr hk) with h | h
      · exact wpAny_storeName_cell I.fr.kind h h1 h2 h3
      · unfold storeName
        simp only [h, I.fr.kind]
        exact wpAny_bind (wpAny_cellOf h1 (wpAny_cellSet h2 h3))
  · wide_open using hp
theorem draw_ok {a : Addr} : ∀ (xs ys : List Value) {k : IterK} {chk : GH → Prop} {H : GH} {s : Shared}, Disj H G → W.R (H.un G) s → H a = some (.iter k) → k.Rel (xs ++ ys) chk → chk G →
    WP W A (draw (.ref a) xs.length) (fun r s' => ∃ k', r.map er = xs ∧ k'.Rel ys chk ∧ W.R ((H.set a (.iter k')).un G) s') s
  | [], ys, k, chk, H, s, D, R, hk, hr, hc => wpAny_pure (i_EAA k rfl hr (by wide_open with GH.set_same _ hk; exact R))
  | x :: xs, ys, k, chk, H, s, D, R, hk, hr, hc => by
    refine (?_ : WP W A (pyNext (.ref a) >>= _) _ s)
    refine wpAny_bind (wpAny_mono (next_item D R hk hr hc) (fun r s' q => ?_) fun z9 z9 z => z)
    refine o_EEAAA q fun v k' e93 e94 hr' R' => ?_; try clear q; subst e93; subst e94
    refine wpAny_bind (wpAny_holding (wpAny_mono (draw_ok xs ys (D.setH (D.left hk)) R' (GH.set_self _ _ _) hr' hc) (fun r s'' q => ?_) fun z9 z9 z => z))
    refine o_EAA q fun k2 e hr2 R2 => ?_; try clear q
    rw [GH.set_set] at R2
    exact wpAny_pure (i_EAA k2 (by simp [e]) hr2 R2)
set_option tactic.hygienic true in
theorem iterable_ok {v : Value} {xs : List Value} (R : W.R (H.un G) s) (h : itemsG (er v) G = some xs) {Q : Bool → Shared → Prop} (q : Q false s) : WP W A (notIterableAtAll v) Q s := by
  cases v with
  | ref a =>
    simp only [itemsG, er] at h
    unfold notIterableAtAll
    split at h
    · rename_i ys hg
      wide_open using h
      refine o_EA (R.tup (GH.un_right hg)) fun vs hl z9 => ?_
      exact wpAny_bind (wpAny_specialOf hl.typeIs F.slot_tuple_iter.lookup (wpAny_pure q))
    · rename_i ys hg
      wide_open using h
      refine o_EA (R.list (GH.un_right hg)) fun vs hl z9 => ?_
      exact wpAny_bind (wpAny_specialOf hl.isList.typeIs slot_list_iter.lookup (wpAny_pure q))
    · wide_open using h
  | _ => wide_open using h
set_option tactic.hygienic true in
theorem unpackItems_ok {v : Value} {xs : List Value} (hA : A.handled = none) (D : Disj H G) (R : W.R (H.un G) s) (h : itemsG (er v) G = some xs) :
    WP W A (unpackItems v xs.length none) (fun r s' => r.map er = xs ∧ W.R (H.un G) s') s := by
  have hi : iterG (er v) G fun ys chk => ys = xs := by
    cases v with
    | ref a =>
      simp only [itemsG, er] at h
      simp only [iterG, er]
      split at h
      · rename_i ys hg; wide_open using h; wide_open with hg
      · rename_i ys hg; wide_open using h; wide_open with hg
      · wide_open using h
    | _ => wide_open using h
  unfold unpackItems
  refine wpAny_bind (wpAny_mono (iterable_ok R h (Q := fun b s' => b = false ∧ s' = s) ⟨rfl, rfl⟩) (fun b s' q => ?_) fun z9 z9 z => z)
  obtain ⟨rfl, rfl⟩ := q
  simp only [Bool.false_eq_true, if_false]
  refine wpAny_bind (wpAny_holding (wpAny_mono (iter_ok rfl D R hi) (fun r s' q => ?_) fun z9 z9 z => z))
  refine o_EEEEAAAAAA q fun a k ys chk e95 ha ga R1 hr hc e911 => ?_; try clear q; subst e95; subst e911
  have D1 : Disj (H.set a (.iter k)) G := D.setH ga
  refine wpAny_bind (wpAny_holding (wpAny_mono (draw_ok ys [] D1 R1 (GH.set_self _ _ _) (by simpa using hr) hc) (fun r s' q => ?_) fun z9 z9 z => z))
  refine o_EAA q fun k2 e hr2 R2 => ?_; try clear q
  have hl : r.length = ys.length := by ((first | refine e ▸ ?_ | rewrite [← e]); try with_reducible rfl); simp
  wide_open with if_neg (by lia)
  rw [GH.set_set] at R2
  refine wpAny_bind (wpAny_holding (wpAny_mono (next_end hA (D.setH ga) R2 (GH.set_self _ _ _) hr2 hc) (fun z s' q => ?_) fun z9 z9 z => z))
  obtain ⟨rfl, R3⟩ := q
  have hd : (H.set a (.iter k2)).del a = H := by
    funext b; simp only [GH.del, GH.set]
    by_cases hb : b = a
    · simp [hb, ha]
    · simp [hb]
  rw [hd] at R3
  exact wpAny_pure ⟨e, R3⟩
theorem assign_names {σ : Sg} {env : Env} : ∀ (l : List Expr) (r : List CP), trL (nameP σ) l = some r → (assignEach l env).length = l.length ∧ (assignEach l env).findIdx? (·.1) = none
  | [], _, _ => ⟨rfl, rfl⟩
  | y :: l, _, q => by
    refine o_EEAA (trL_cons q) fun p2 r2 q1 q2 e95 => ?_; subst e95
    refine o_EEA (name_inv q1) fun x px e93 z9 => ?_; subst e93
    obtain ⟨i1, i2⟩ := assign_names l r2 q2
    have hy : assignEach (.Name x px :: l) env = (false, assign (.Name x px) env) :: assignEach l env := rfl
    wide_open with hy
    exact ⟨congrArg (· + 1) i1, by (wide_line using List.findIdx?_cons; wide_open with i2); rfl⟩
theorem setPs_ok {σ : Sg} {cs : List Addr} {cd : Value} {env : Env} : ∀ (es : List Expr) (ps : List CP) (vs : List Value) {m : Mm} {H G : GH} {s : Shared} {K : Mm → GH → Prop}, In W A n σ cs cd env m H → Disj H G → W.R (H.un G) s →
    trL (nameP σ) es = some ps → vs.length = ps.length → setPs cs ps (vs.map er) m G K →
    (assignEach es env).length = es.length ∧ (assignEach es env).findIdx? (·.1) = none ∧
    WP W A (assignInOrder ((assignEach es env).map (·.2)) vs) (fun z9 => PostM W H env.locals σ.locs K) s
  | [], ps, vs, m, H, G, s, K, I, D, R, h, hl, hs => by
    wide_open using h
    have : vs = [] := List.length_eq_zero_iff.mp hl
    subst this
    refine (i_AA rfl rfl (wpAny_assignInOrder_none (i_EEAA m G D (by wide_open with I.same; exact R) hs)))
  | e :: es, ps, vs, m, H, G, s, K, I, D, R, h, hl, hs => by
    refine o_EEAA (trL_cons h) fun p ps' h1 h2 e95 => ?_; subst e95
    cases vs with
    | nil => wide_open using hl
    | cons v vs =>
      simp only [List.length_cons, Nat.add_right_cancel_iff] at hl
      obtain ⟨x, px, rfl, h1⟩ := name_inv h1
      rw [List.map_cons, sPs_cons] at hs
      obtain ⟨r1, r2⟩ := assign_names (env := env) (.Name x px :: es) _ h
      refine (i_AA r1 r2 ?_)
      refine (?_ : WP W A (assignInOrder (assign (.Name x px) env :: (assignEach es env).map (·.2)) (v :: vs)) _ s)
      refine wpAny_assignInOrder_more ?_
      wide_open with arm_assign_Name
      refine wpAny_bind (wpAny_standAt (wpAny_bindName (wpAny_mono (store_ok I D R h1 hs) (fun z9 s' q => ?_) fun z9 z9 z => z)))
      refine o_EEAA q fun m' G' D' R' hs' => ?_; try clear q
      have I' := I.set (m' := m')
      refine wpAny_mono (setPs_ok es ps' vs I' (D'.setL I.loc) R' h2 hl hs').2.2 (fun z9 s'' q => ?_) fun z9 z9 z => z
      refine o_EEAA q fun m2 G2 D2 R2 k2 => ?_; try clear q
      rw [GH.set_set] at R2
      exact (i_EEAA m2 G2 (D2.unL I.loc) R2 k2)
set_option tactic.hygienic true in
theorem assign_ok {σ : Sg} {cs : List Addr} {cd : Value} {env : Env} {m : Mm} {t : Expr} {ct : CT} {v : Value} {K : Mm → GH → Prop} (I : In W A n σ cs cd env m H) (D : Disj H G) (R : W.R (H.un G) s)
    (ht : trT σ t = some ct) (h : setT cs ct (er v) m G K) : WP W A (assign t env v) (fun z9 => PostM W H env.locals σ.locs K) s := by
  cases t <;> try (wide_open using ht; done)
  · rename_i x px
    refine o_EA (Option.map_eq_some_iff.mp ht) fun p hp e93 => ?_; subst e93
    wide_open with arm_assign_Name
    exact wpAny_bind (wpAny_standAt (wpAny_bindName (store_ok I D R hp h)))
  · rename_i es x1 px
    refine o_EA (Option.map_eq_some_iff.mp ht) fun ps hp e93 => ?_; subst e93
    refine o_EAA h fun vs h1 h2 h3 => ?_; try clear h
    wide_open with arm_assign_Tuple
    refine wpAny_bind (wpAny_standAt ?_)
    unfold unpack
    have key : ∀ (ws : List Value) (s' : Shared), ws.map er = vs → W.R (H.un G) s' → (assignEach es env).length = vs.length ∧ (assignEach es env).findIdx? (·.1) = none ∧
        WP W A (assignInOrder ((assignEach es env).map (·.2)) ws) (fun z9 => PostM W H env.locals σ.locs K) s' := fun ws s' e R' => by
      subst e
      have hlen : es.length = ps.length := by
        clear h3 h2 ht
        induction es generalizing ps with
        | nil => wide_open using hp; rfl
        | cons y l il =>
          refine o_EEAA (trL_cons hp) fun p2 r2 q1 q2 e95 => ?_; subst e95
          simp [il r2 q2]
      have := setPs_ok es ps ws I D R' hp (by simpa using h2) h3
      exact (i_AA (by (wide_line using this.1; wide_open with hlen); simpa using h2.symm) this.2.1 this.2.2)
    obtain ⟨vs0, e0⟩ : ∃ ws : List Value, ws.map er = vs := by
      cases v with
      | ref a =>
        simp only [itemsG, er] at h1
        split at h1
        · rename_i ys hg; wide_open using h1; refine o_EAA (R.tup (GH.un_right hg)) fun ws z9 e z9 => ?_; exact ⟨_, e⟩
        · rename_i ys hg; wide_open using h1; refine o_EAA (R.list (GH.un_right hg)) fun ws z9 e z9 => ?_; exact ⟨_, e⟩
        · wide_open using h1
      | _ => wide_open using h1
    refine o_AA (key vs0 s e0 R) fun k1 k2 z9 => ?_
    (wide_line using k1; wide_open with k2)
    refine wpAny_bind (wpAny_holding (wpAny_mono (unpackItems_ok I.room.1 D R h1) (fun ws s' q => ?_) fun z9 z9 z => z))
    exact (key ws s' q.1 q.2).2.2
end Mine
end
section
open PySem PySem.W PySem.Calls PyProof.Rows
namespace Mine
variable {W : Wd} {n : Nat} {A : Around} {H G : GH} {s : Shared}
noncomputable def clos (env : Env) : List (Str × NameKind) → List (Str × Addr) → List (Str × Addr)
  | [], acc => acc
  | (x, k) :: r, acc => clos env r (if k == .free then (match env.cells.lookup x with | some c => (x, c) :: acc | none => acc) else acc)
theorem clos_pure (env : Env) : ∀ (names : List (Str × NameKind)) (acc : List (Str × Addr)), (∀ p ∈ names, p.2 = .free → ∃ c, env.cells.lookup p.1 = some c) →
    (forIn names acc fun x (r : List (Str × Addr)) => match x with
      | (name, kind) => if (kind == NameKind.free) = true then do let __do_lift ← cellOf env name; pure (ForInStep.yield ((name, __do_lift) :: r)) else pure (ForInStep.yield r)) = (pure (clos env names acc) : Sem _)
  | [], acc, _ => rfl
  | (x, k) :: r, acc, h => by
    wide_open with List.forIn_cons
    have ih := fun acc => clos_pure env r acc fun p hp => h p (List.mem_cons_of_mem _ hp)
    unfold clos
    by_cases hk : (k == NameKind.free) = true
    · obtain ⟨c, hc⟩ := h (x, k) List.mem_cons_self (by simpa using hk)
      have e : cellOf env x = pure c := by unfold cellOf; wide_open with hc
      simp only [hk, if_true, e, hc]
      exact ih _
    · simp only [hk, if_false]
      exact ih _
theorem closureFor_pure {scope : Scope} {env : Env} (h : ∀ p ∈ scope.names, p.2 = .free → ∃ c, env.cells.lookup p.1 = some c) : closureFor scope env = pure (clos env scope.names []) := by
  unfold closureFor
  have := clos_pure env scope.names [] h
  exact (congrArg (fun t => t >>= fun x => pure x) this).trans rfl
set_option tactic.hygienic true in
theorem clos_lookup {env : Env} : ∀ (names : List (Str × NameKind)) (acc : List (Str × Addr)) (x : Str) (c : Addr), (∀ p ∈ acc, env.cells.lookup p.1 = some p.2) → env.cells.lookup x = some c →
    ((x, NameKind.free) ∈ names ∨ (acc.lookup x).isSome = true) → (clos env names acc).lookup x = some c
  | [], acc, x, c, ha, hc, h => by
    rcases h with h | h
    · cases h
    · unfold clos
      obtain ⟨d, hd⟩ := Option.isSome_iff_exists.mp h
      have := ha _ (mem_of_lookup hd)
      dsimp only at this
      wide_line with hc using this; exact hd
  | (y, k) :: r, acc, x, c, ha, hc, h => by
    unfold clos
    refine clos_lookup r _ x c ?_ hc ?_
    · split
      · split
        · rename_i d hd
          intro p hp
          rcases List.mem_cons.mp hp with rfl | hp
          · exact hd
          · exact ha p hp
        · exact ha
      · exact ha
    · rcases h with h | h
      · rcases List.mem_cons.mp h with e | h
        · wide_open using e
          right
          simp [hc]
        · exact .inl h
      · right
        split
        · split
          · by_cases hxy : x = y
            · subst hxy; simp
            · have : (x == y) = false := by simpa using hxy
              simp [List.lookup_cons, this, h]
          · exact h
        · exact h
theorem freesOf_mem {names : List (Str × NameKind)} {x : Str} {i : Nat} (h : (freesOf names).idxOf? x = some i) : (x, NameKind.free) ∈ names := by
  have hlt := idxOf?_lt h
  have := (List.findIdx?_eq_some_iff_getElem.mp h).2.1
  have hx : (freesOf names)[i] = x := beq_iff_eq.mp this
  have hm : x ∈ freesOf names := hx ▸ List.getElem_mem hlt
  unfold freesOf at hm
  refine o_EA (List.mem_map.mp hm) fun p hp e => ?_
  obtain ⟨h1, h2⟩ := List.mem_filter.mp hp
  obtain ⟨y, k⟩ := p
  have : k = .free := by simpa using h2
  subst this
  wide_open using e
  exact h1
theorem compNames_kind {names : List (Str × NameKind)} (h : compNamesOk names = true) {p : Str × NameKind} (hp : p ∈ names) : (p.2 = .local ∨ p.2 = .free ∨ p.2 = .globalImplicit) ∧ names.lookup p.1 = some p.2 := by
  have := List.all_eq_true.mp h p hp
  simp only [Bool.and_eq_true, Bool.or_eq_true, beq_iff_eq] at this
  exact ⟨by rcases this.1 with (h | h) | h <;> simp [h], this.2⟩
theorem lookup_mem_kind {names : List (Str × NameKind)} {x : Str} {k : NameKind} (h : names.lookup x = some k) : (x, k) ∈ names := mem_of_lookup h
theorem relabel_lookup {env : Env} : ∀ {names : List (Str × NameKind)} {x : Str}, 
    ((names.map fun (n, k) => if (k == NameKind.free && env.scope.kind == .function && env.kindOf n == some .cell) then (n, NameKind.cell) else (n, k)).lookup x) =
      (names.lookup x).map fun k => if (k == NameKind.free && env.scope.kind == .function && env.kindOf x == some .cell) then NameKind.cell else k
  | [], _ => rfl
  | (n, k) :: r, x => by
    have ih := @relabel_lookup env r x
    simp only [List.map_cons]
    by_cases hx : x = n
    · subst hx
      by_cases hc : (k == NameKind.free && env.scope.kind == .function && env.kindOf x == some .cell) = true
      · wide_open with if_pos hc; simp only [List.lookup_cons, beq_self_eq_true, Option.map_some]; wide_open with if_pos hc
      · wide_open with if_neg hc; simp only [List.lookup_cons, beq_self_eq_true, Option.map_some]; wide_open with if_neg hc
    · have hb : (x == n) = false := by simpa using hx
      by_cases hc : (k == NameKind.free && env.scope.kind == .function && env.kindOf n == some .cell) = true
      · (wide_line using if_pos hc; wide_line using List.lookup_cons; wide_line using hb; wide_line using List.lookup_cons; wide_open with hb); exact ih
      · (wide_line using if_neg hc; wide_line using List.lookup_cons; wide_line using hb; wide_line using List.lookup_cons; wide_open with hb); exact ih
set_option tactic.hygienic true in
theorem comp_fr {σ : Sg} {cs : List Addr} {cd : Value} {env : Env} {scope : Scope} {caps : List Nat} {C : Addr} (F : FrOK σ cs cd env) (hk : scope.kind = .function) (hn : compNamesOk scope.names = true)
    (hc : trL (fun (x : Str) => (if x == ("__classdict__" : Str) then none else σ.cels.idxOf? x)) (freesOf scope.names) = some caps) :
    closureFor scope env = pure (clos env scope.names []) ∧
    FrOK (compSg scope.names) (caps.filterMap fun j => cs[j]?) cd (compEnvC scope (clos env scope.names []) C env) := by
  have caps_get : ∀ (l : List Str) (r : List Nat), trL (fun (x : Str) => (if x == ("__classdict__" : Str) then none else σ.cels.idxOf? x)) l = some r →
      (∀ x ∈ l, (x ≠ ("__classdict__" : Str) ∧ ∃ c, env.cells.lookup x = some c)) ∧ ∀ (x : Str) (i : Nat), l.idxOf? x = some i → ∃ c, env.cells.lookup x = some c ∧ (r.filterMap fun j => cs[j]?)[i]? = some c := by
    intro l
    induction l with
    | nil => intro r q; wide_open using q; exact ⟨(fun z9 h => (nomatch h)), fun x i h => by wide_open using h⟩
    | cons y l il =>
      intro r q
      refine o_EEAA (trL_cons q) fun j r' q1 q2 e95 => ?_; subst e95
      obtain ⟨i1, i2⟩ := il r' q2
      split at q1
      · wide_open using q1
      · rename_i hy
        refine o_EA (F.cel y j q1) fun c h1 h2 => ?_
        refine ⟨fun x hx => ?_, fun x i hx => ?_⟩
        · rcases List.mem_cons.mp hx with rfl | hx
          · exact (i_AE (by simpa using hy) c h1)
          · exact i1 x hx
        · have e : (j :: r').filterMap (fun j => cs[j]?) = c :: r'.filterMap fun j => cs[j]? := by (wide_line using List.filterMap_cons; wide_open with h2)
          wide_open with e
          by_cases hxy : x = y
          · subst hxy
            have : i = 0 := by
              have h0 : (x :: l).idxOf? x = some 0 := by simp [List.idxOf?, List.findIdx?_cons]
              wide_line with h0 using hx; rfl
            subst this
            exact (i_EA c h1 rfl)
          · have hb : (y == x) = false := by simpa using Ne.symm hxy
            have h0 : (y :: l).idxOf? x = (l.idxOf? x).map (· + 1) := by simp [List.idxOf?, List.findIdx?_cons, hb]
            rw [h0] at hx
            refine o_EA (Option.map_eq_some_iff.mp hx) fun i' hi' e93 => ?_; subst e93
            refine o_EA (i2 x i' hi') fun c' g1 g2 => ?_
            exact (i_EA c' g1 (by simpa using g2))
  obtain ⟨c1, c2⟩ := caps_get _ _ hc
  have free_mem : ∀ p ∈ scope.names, p.2 = .free → p.1 ∈ freesOf scope.names := fun p hp e => List.mem_map.mpr (i_EA p (List.mem_filter.mpr ⟨hp, by simp [e]⟩) rfl)
  have hcl := closureFor_pure (scope := scope) (env := env) fun p hp e => (c1 p.1 (free_mem p hp e)).2
  refine ⟨hcl, hk, fun x hx => ?_, fun x hx => ?_, fun x hx => ?_, fun x i hx => ?_, fun x hx hf => ?_, F.glob, F.blt, F.code⟩
  · refine (?_ : (relabel scope env).names.lookup x = _)
    unfold relabel
    have hx : scope.names.lookup x = some .local := hx
    (wide_line using relabel_lookup; wide_open with hx); rfl
  · refine (?_ : (relabel scope env).names.lookup x = _ ∨ (relabel scope env).names.lookup x = _)
    unfold relabel
    have hx : scope.names.lookup x = some .cell ∨ scope.names.lookup x = some .free := hx
    wide_open with relabel_lookup
    rcases hx with hx | hx
    · have := compNames_kind hn (lookup_mem_kind hx)
      simp at this
    · wide_open with hx
      simp only [Option.map_some]
      split <;> simp
  · refine (?_ : (relabel scope env).names.lookup x = _)
    unfold relabel
    have hx : scope.names.lookup x = some .globalImplicit := hx
    (wide_line using relabel_lookup; wide_open with hx); rfl
  · refine o_EA (c2 x i hx) fun c h1 h2 => ?_
    exact (i_EA c (clos_lookup scope.names [] x c (fun z9 h => nomatch h) h1 (.inl (freesOf_mem hx))) h2)
  · have hx : scope.names.lookup x = some .cell := hx
    have := compNames_kind hn (lookup_mem_kind hx)
    simp at this
theorem un_swap {a : Addr} {g : GO} (hG : G a = none) : GH.un (H.set a g) G = GH.un H (G.set a g) := by
  (wide_line using GH.set_un _ hG; wide_open with GH.un_set)
end Mine
end
section
open PySem PySem.W PySem.Calls PyProof.Rows
namespace Mine
variable {W : Wd} {n : Nat} {A : Around} {H G : GH} {s : Shared}
noncomputable def HS (H : GH) (C D I : Addr) (f l k : GO) : GH := fun a => if a = I then some k else if a = D then some l else if a = C then some f else H a
theorem HS_I {C D I : Addr} {f l k : GO} : HS H C D I f l k I = some k := by simp [HS]
theorem HS_D {C D I : Addr} {f l k : GO} (h : D ≠ I) : HS H C D I f l k D = some l := by simp [HS, h]
theorem HS_C {C D I : Addr} {f l k : GO} (h : C ≠ I) (h2 : C ≠ D) : HS H C D I f l k C = some f := by simp [HS, h, h2]
theorem HS_setI {C D I : Addr} {f l k k' : GO} : (HS H C D I f l k).set I k' = HS H C D I f l k' := by
  funext a; simp only [GH.set, HS]; split <;> rfl
theorem HS_setD {C D I : Addr} {f l l' k : GO} (h : D ≠ I) : (HS H C D I f l k).set D l' = HS H C D I f l' k := by
  funext a; simp only [GH.set, HS]
  by_cases h1 : a = D
  · subst h1; simp [h]
  · simp [h1]
theorem HS_setC {C D I : Addr} {f f' l k : GO} (h : C ≠ I) (h2 : C ≠ D) : (HS H C D I f l k).set C f' = HS H C D I f' l k := by
  funext a; simp only [GH.set, HS]
  by_cases h1 : a = C
  · subst h1; simp [h, h2]
  · simp [h1]
theorem HS_delI {C D I : Addr} {f l k : GO} (h : H I = none) (h1 : D ≠ I) (h2 : C ≠ I) : (HS H C D I f l k).del I = (H.set C f).set D l := by
  funext a; simp only [GH.del, GH.set, HS]
  by_cases e : a = I
  · subst e; simp [h, Ne.symm h1, Ne.symm h2]
  · simp [e]
theorem letOwned_ok {a : Addr} {k : IterK} {t : Expr} {v : Value} {Q : Unit → Shared → Prop} (D : Disj H G) (R : W.R (H.un G) s) (hk : H a = some (.iter k)) (q : Q () s) : WP W A (letOwnedTupleGo t (.ref a) v) Q s := by
  have hU : (H.un G) a = some (.iter k) := by wide_open with GH.un_left (D.left hk); exact hk
  obtain ⟨_, hit⟩ := R.at hU
  have key : ∀ b : Addr, WP W A (do
      let o ← load a
      match o.cls, o.data with
      | .type n, .fields vs =>
        if ["enumerate", "zip", "dict_itemiterator", "dict_reverseitemiterator", "odict_iterator", "itertools.zip_longest", "itertools.pairwise"].contains n && vs[0]? == some (rawInt b) then
          rule "for.unpacks-the-owned-tuple"
          updateField a 0 .none
      | _, _ => pure () : Sem Unit) Q s := by
    intro b
    cases k with
    | list l i =>
      refine o_EAA hit fun o h1 h2 h3 => ?_; try clear hit
      refine wpAny_bind (wpAny_load h1 ?_)
      (wide_line using h2; wide_open with h3)
      dsimp only
      wide_open with (if_neg (by wide_open with (show (["enumerate", "zip", "dict_itemiterator", "dict_reverseitemiterator", "odict_iterator", "itertools.zip_longest", "itertools.pairwise"].contains "list_iterator") = false from by decide); simp))
      exact wpAny_pure q
    | tup l i =>
      refine o_EAA hit fun o h1 h2 h3 => ?_; try clear hit
      refine wpAny_bind (wpAny_load h1 ?_)
      (wide_line using h2; wide_open with h3)
      dsimp only
      wide_open with (if_neg (by wide_open with (show (["enumerate", "zip", "dict_itemiterator", "dict_reverseitemiterator", "odict_iterator", "itertools.zip_longest", "itertools.pairwise"].contains "tuple_iterator") = false from by decide); simp))
      exact wpAny_pure q
    | range u w =>
      refine wpAny_bind (wpAny_load hit ?_)
      dsimp only
      wide_open with (if_neg (by wide_open with (show (["enumerate", "zip", "dict_itemiterator", "dict_reverseitemiterator", "odict_iterator", "itertools.zip_longest", "itertools.pairwise"].contains "range_iterator") = false from by decide); simp))
      exact wpAny_pure q
    | dict d i m ep =>
      refine o_EAA hit fun o h1 h2 h3 => ?_; try clear hit
      refine wpAny_bind (wpAny_load h1 ?_)
      (wide_line using h2; wide_open with h3)
      dsimp only
      wide_open with (if_neg (by wide_open with (show (["enumerate", "zip", "dict_itemiterator", "dict_reverseitemiterator", "odict_iterator", "itertools.zip_longest", "itertools.pairwise"].contains "dict_keyiterator") = false from by decide); simp))
      exact wpAny_pure q
  unfold letOwnedTupleGo
  cases t <;> first | exact wpAny_pure q | (cases v <;> first | exact wpAny_pure q | exact key _)
theorem weaken_frame {C : Addr} {ls : List Str} {m : Mm} {k : Nat} {U : GH} (R : W.R U s) (h : U C = some (.frame ls m)) : W.R (U.set C (.frame ls (List.replicate k none))) s := by
  refine Repr.ext (s := s) (h' := s.heap) (tk := s.toks) (dr := s.drawn) R h rfl rfl (Heap.ExtBut.refl _ _) fun d o => ?_
  refine o_EA o fun mm h1 z9 => ?_; try clear o
  refine (i_EA mm h1 (fun x i v z9 hv => ?_))
  rw [List.getElem?_replicate] at hv
  split at hv <;> wide_open using hv
theorem append_hid {D : Addr} {accs : List Value} {v : Value} (hD : H D = some (.list accs)) (hz : accs.length < sizeLine) (Dj : Disj H G) (R : W.R (H.un G) s) :
    WP W A (call (.builtin "list.append") [.ref D, v]) (fun z9 s' => W.R ((H.set D (.list (accs ++ [er v]))).un G) s') s := by
  have gD : G D = none := Dj.left hD
  have hU : (H.un G) D = some (.list accs) := by wide_open with GH.un_left gD; exact hD
  refine o_EAA (R.list hU) fun vs hl e93 hz' => ?_; subst e93
  have hz2 : vs.size < sizeLine := by simpa using hz
  refine wpAny_list_append_plain hl (fun h' hl' hs => ?_) (Nat.le_of_lt hz2)
  wide_open with GH.set_un _ gD
  exact R.ext hU rfl rfl hs.extBut fun d z9 => (i_EAA _ hl' (by simp) (by wide_open with Array.size_push; exact hz2))
section
variable {σ : Sg} {cs : List Addr} {cd : Value} {cenv : Env} {elt t iter : Expr} {ifs : List Expr} {scope : Scope} {pos : Pos} {ce : CE} {cb : CB} {ct : CT} {nl : Nat} {chk : GH → Prop} {K : KV} {D I : Addr}
noncomputable def turnC (W : Wd) (n : Nat) (cs : List Addr) (ct : CT) (cb : CB) (ce : CE) (nl : Nat) (x : Value) (G2 : GH) (kk : Option Value → GH → Prop) : Prop := setT cs ct x (List.replicate nl none) G2 fun m' G3 => wpB W n cs m' cb G3 fun c G4 => match c with
  | true => wpE W n cs m' ce G4 fun v G5 => kk (some v) G5
  | false => kk none G4
set_option tactic.hygienic true in
theorem compLoop_ok (hA : A.handled = none) (hR : Room A n) (hF : FrOK σ cs cd cenv) (helt : SE W σ elt ce) (hc : (ifs = [] ∧ cb = .tt) ∨ ∃ c0, ifs = [c0] ∧ SB W σ c0 cb) (ht : trT σ t = some ct)
    (hDI : D ≠ I) (hCI : cenv.locals ≠ I) (hCD : cenv.locals ≠ D) (hI0 : H I = none) (hD0 : H D = none)
    {xs accs : List Value} {m : Mm} {k : IterK} (hz : accs.length + xs.length ≤ 8000000) (Dj : Disj (HS H cenv.locals D I (.frame σ.locs m) (.list accs) (.iter k)) G) (R : W.R ((HS H cenv.locals D I (.frame σ.locs m) (.list accs) (.iter k)).un G) s)
    (hk : k.Rel xs chk)
    (w : compG chk (turnC W n cs ct cb ce nl) xs accs G K) :
    codeAny W.M A (.compLoop (.ListComp elt [⟨t, iter, ifs, 0⟩] scope pos) 0 (.ref I) (.ref D) cenv) (fun r s' => r = .ok .next ∧ ∃ m2 G', Disj (H.set cenv.locals (.frame σ.locs m2)) G' ∧ W.R ((H.set cenv.locals (.frame σ.locs m2)).un G') s' ∧ K (.ref D) G') s := by
  refine codeAny_loop rfl (fun j s => ∃ xs accs m k G, j = xs.length ∧ accs.length + xs.length ≤ 8000000 ∧ Disj (HS H cenv.locals D I (.frame σ.locs m) (.list accs) (.iter k)) G ∧ W.R ((HS H cenv.locals D I (.frame σ.locs m) (.list accs) (.iter k)).un G) s ∧ k.Rel xs chk ∧
      compG chk (turnC W n cs ct cb ce nl) xs accs G K) ?_ xs.length (i_EEEEEAAAAA xs accs m k G rfl hz Dj R hk w)
  clear w hk R Dj hz k m xs accs
  intro j s hx9; refine o_EEEEEAAAAA hx9 fun xs accs m k G e96 hz Dj R hk w => ?_; try clear hx9; subst e96
  show wpAny _ A ((compTurn (.ListComp elt [⟨t, iter, ifs, 0⟩] scope pos) 0 (.ref I) (.ref D) cenv).onRaise (fun x => do noteFrame x cenv; theTreesLotGoes x)) _ _ s
  refine wpAny_noted ?_
  wide_open with compTurn_list
  refine wpAny_bind (wpAny_standAt (wpAny_bind ?_))
  cases xs with
  | nil =>
    obtain ⟨w1, w2⟩ := w
    refine wpAny_mono (next_end hA Dj R HS_I hk w1) (fun r s' q => ?_) fun z9 z9 z => z.elim
    obtain ⟨rfl, R'⟩ := q
    refine wpAny_pure (i_AEEAA rfl m _ ?_ ?_ (w2 D (Dj.left (HS_D hDI))))
    · refine Disj.setG (fun a ha => ?_) (by wide_open with GH.set_ne _ _ (Ne.symm hCD); exact hD0)
      have h0 := Dj a ha
      simp only [HS] at h0
      simp only [GH.set]
      split at h0
      · wide_open using h0
      · split at h0
        · wide_open using h0
        · exact h0
    · rw [HS_delI hI0 hDI hCI] at R'
      ((first | refine (un_swap (Dj.left (HS_D hDI))) ▸ ?_ | rewrite [← un_swap (Dj.left (HS_D hDI))]); try with_reducible rfl)
      exact R'
  | cons x xs =>
    obtain ⟨w1, w2⟩ := w
    refine wpAny_mono (next_item Dj R HS_I hk w1) (fun r s1 q => ?_) fun z9 z9 z => z.elim
    refine o_EEAAA q fun v k' e93 e94 hk' R1 => ?_; try clear q; subst e93; subst e94
    rw [HS_setI] at R1
    have Dj1 : Disj (HS H cenv.locals D I (.frame σ.locs m) (.list accs) (.iter k')) G := fun a ha => by
      have h0 := Dj a ha
      simp only [HS] at h0 ⊢
      split
      · rename_i e; rw [if_pos e] at h0; wide_open using h0
      · rename_i e; rw [if_neg e] at h0; exact h0
    have R2 := weaken_frame (k := nl) R1 (by rw [GH.un_left (Dj1.left (HS_C hCI hCD))]; exact HS_C hCI hCD)
    rw [← GH.set_un _ (Dj1.left (HS_C hCI hCD)), HS_setC hCI hCD] at R2
    have Dj2 : Disj (HS H cenv.locals D I (.frame σ.locs (List.replicate nl none)) (.list accs) (.iter k')) G := by
      have := Dj1.setL (L := cenv.locals) (o := .frame σ.locs (List.replicate nl none)) (HS_C hCI hCD)
      rwa [HS_setC hCI hCD] at this
    have I2 : In W A n σ cs cd cenv (List.replicate nl none) (HS H cenv.locals D I (.frame σ.locs (List.replicate nl none)) (.list accs) (.iter k')) := ⟨hR, hF, HS_C hCI hCD⟩
    refine wpAny_bind (wpAny_mono (letOwned_ok (Q := fun z9 s' => s' = s1) Dj1 R1 HS_I rfl) (fun z9 s' q => ?_) fun z9 z9 z => z.elim)
    subst q
    refine wpAny_bind (wpAny_mono (assign_ok I2 Dj2 R2 ht w2) (fun z9 s2 q => ?_) fun z9 z9 z => z.elim)
    refine o_EEAA q fun m' G3 Dj3 R3 w3 => ?_; try clear q
    rw [HS_setC hCI hCD] at R3
    have Dj3' := Dj3.setL (L := cenv.locals) (o := .frame σ.locs m') (HS_C hCI hCD)
    rw [HS_setC hCI hCD] at Dj3'
    have I3 : In W A n σ cs cd cenv m' (HS H cenv.locals D I (.frame σ.locs m') (.list accs) (.iter k')) := ⟨hR, hF, HS_C hCI hCD⟩
    have tests : WP W A (forIn ifs true fun c r => if r = true then do let ok ← isTrue c cenv (eval c cenv); pure (ForInStep.yield ok) else pure (ForInStep.yield r)) (Post W (HS H cenv.locals D I (.frame σ.locs m') (.list accs) (.iter k')) fun c G4 => match c with
          | true => wpE W n cs m' ce G4 fun v G5 => compG chk (turnC W n cs ct cb ce nl) xs (accs ++ (some v).toList) G5 K
          | false => compG chk (turnC W n cs ct cb ce nl) xs (accs ++ (none : Option Value).toList) G4 K) s2 := by
      rcases hc with ⟨rfl, rfl⟩ | ⟨c0, rfl, hc⟩
      · refine wpAny_tests_nil (i_EAA G3 Dj3' R3 ?_)
        exact w3
      · exact wpAny_tests_one (hc.use I3 Dj3' R3 w3)
    refine wpAny_bind (wpAny_mono tests (fun ok s3 q => ?_) fun z9 z9 z => z.elim)
    refine o_EAA q fun G4 Dj4 R4 w4 => ?_; try clear q
    cases ok with
    | false =>
      refine wpAny_pure (i_AEAEEEEEAAAAA rfl xs.length (by simp) xs accs m' k' G4 rfl (by simp only [List.length_cons] at hz; lia) Dj4 R4 hk' ?_)
      simpa using w4
    | true =>
      refine wpAny_bind (wpAny_bind (wpAny_mono (helt.use I3 Dj4 R4 w4) (fun y s4 q => ?_) fun z9 z9 z => z.elim))
      refine o_EAA q fun G5 Dj5 R5 w5 => ?_; try clear q
      have hlen : accs.length < sizeLine := by wide_open with sizeLine_eq; simp only [List.length_cons] at hz; lia
      refine wpAny_bind (wpAny_mono (append_hid (HS_D hDI) hlen Dj5 R5) (fun z9 s5 R6 => ?_) fun z9 z9 z => z.elim)
      rw [HS_setD hDI] at R6
      have Dj6 := Dj5.setL (L := D) (o := .list (accs ++ [er y])) (HS_D hDI)
      rw [HS_setD hDI] at Dj6
      refine wpAny_pure (wpAny_pure (i_AEAEEEEEAAAAA rfl xs.length (by simp) xs _ m' k' G5 rfl (by simp only [List.length_append, List.length_cons, List.length_nil] at hz ⊢; lia) Dj6 R6 hk' ?_))
      simpa using w5
end
end Mine
end
section
open PySem PySem.W PySem.Calls PyProof.Rows
namespace Mine
variable {W : Wd} {n : Nat} {A : Around} {H G : GH} {s : Shared}
section
variable {σ : Sg} {cs : List Addr} {cd : Value} {env : Env} {m : Mm} {elt t iter : Expr} {ifs : List Expr} {scope : Scope} {pos : Pos} {it ce : CE} {cb : CB} {ct : CT} {caps : List Nat} {K : KV} {use : Option (Value → Sem Unit)} {Q : Value → Shared → Prop}
theorem comp_core (I : In W A n σ cs cd env m H) (D : Disj H G) (R : W.R (H.un G) s) (hit : SE W σ iter it) (helt : SE W (compSg scope.names) elt ce)
    (hc : (ifs = [] ∧ cb = .tt) ∨ ∃ c0, ifs = [c0] ∧ SB W (compSg scope.names) c0 cb) (ht : trT (compSg scope.names) t = some ct) (hset : notSet iter = true) (hk : scope.kind = .function) (hn : compNamesOk scope.names = true)
    (hcaps : trL (fun (x : Str) => (if x == ("__classdict__" : Str) then none else σ.cels.idxOf? x)) (freesOf scope.names) = some caps)
    (w : wpE W n cs m (.comp ce ct it cb (locsOf scope.names).length caps) G K)
    (fin : ∀ C acc m2 G' s', H C = none → Disj (H.set C (.frame (locsOf scope.names) m2)) G' → W.R ((H.set C (.frame (locsOf scope.names) m2)).un G') s' → K acc G' → er acc = acc → compPost W.M A NoE use Q acc C (.ok .next) s') :
    WP W A (comprehension (.ListComp elt [⟨t, iter, ifs, 0⟩] scope pos) scope env (firstIterPos [⟨t, iter, ifs, 0⟩] pos) (newList []) (firstAsync [⟨t, iter, ifs, 0⟩]) (firstIter [⟨t, iter, ifs, 0⟩] env) use) Q s := by
  have hs : ∀ x, foldedSetIterable iter env x = pure x := fun x => by cases iter <;> first | rfl | wide_open using hset
  refine wpAny_comprehension_free (scope := scope) (cl := clos env scope.names []) rfl hs (comp_fr (C := 0) I.fr hk hn hcaps).1 hk (fun x hx hl => by (wide_line using (compNames_kind hn hx).2; wide_open with hl)) ?_
  refine (?_ : wpAny W.M A (eval iter env) _ NoE s)
  refine wpAny_mono (hit.use I D R w) (fun x s1 q => ?_) fun z9 z9 z => z
  refine o_EAA q fun G1 D1 R1 w1 => ?_; try clear q
  refine wpAny_mono (iter_ok rfl D1 R1 w1) (fun r s2 q => ?_) fun z9 z9 z => z
  refine o_EEEEAAAAAAA q fun Ia k xs chk e95 hIa gIa R2 hr hchk hsm w2 => ?_; try clear q; subst e95
  have D2 : Disj (H.set Ia (.iter k)) G1 := D1.setH gIa
  -- the list
  refine wpAny_newObj_type (T := "list") ?_ (by size_fits)
  have fD := R2.fr
  have R3 := R2.pushH { cls := .type "list", data := .seq #[] } (.list []) rfl rfl (tk := s2.toks) (dr := s2.drawn) fun d e => (i_EAA (#[]) ⟨0, e⟩ rfl (by wide_open with sizeLine_eq; exact Nat.zero_le _))
  generalize hDa : s2.heap.objs.size = Da at *
  have hDI : Da ≠ Ia := by rintro rfl; have := fD.1; wide_line with GH.set_self using this
  have hD0 : H Da = none := by have := fD.1; rwa [GH.set_ne _ _ hDI] at this
  have D3 : Disj ((H.set Ia (.iter k)).set Da (.list [])) G1 := D2.setH fD.2
  -- the frame
  refine wpAny_newFunctionEnv (fun x hx => ?_) (fun x hx => nomatch hx) (fun h' hns hsb => ?_) hk
  · rcases (compNames_kind hn hx).1 with h | h | h <;> wide_open with h <;> decide
  have fC := R3.fr
  have R4 := R3.pushH { cls := .type "dict", data := .dict #[] } (.raw { cls := .type "dict", data := .dict #[] }) rfl rfl (tk := s2.toks) (dr := s2.drawn) fun d e => e
  have hsz : (s2.heap.push { cls := .type "list", data := .seq #[] }).objs.size = Da + 1 := by (wide_line using Heap.size_push; wide_open with hDa)
  generalize hCa : (s2.heap.push { cls := .type "list", data := .seq #[] }).objs.size = Ca at *
  have hCI : Ca ≠ Ia := by
    rintro rfl
    have := fC.1
    by_cases e : Ca = Da
    · rw [e, GH.set_self] at this; wide_open using this
    · rw [GH.set_ne _ _ e, GH.set_self] at this; wide_open using this
  have hCD : Ca ≠ Da := by rintro rfl; have := fC.1; wide_line with GH.set_self using this
  have hC0 : H Ca = none := by have := fC.1; rwa [GH.set_ne _ _ hCD, GH.set_ne _ _ hCI] at this
  have gC : G1 Ca = none := fC.2
  have hU : ((((H.set Ia (.iter k)).set Da (.list [])).set Ca (.raw { cls := .type "dict", data := .dict #[] })).un G1) Ca = some (.raw { cls := .type "dict", data := .dict #[] }) := by wide_open with GH.un_left gC; exact GH.set_self _ _ _
  have R5 := R4.ext (h' := h') (tk := s2.toks + ([] : List (Str × Value)).length) (dr := s2.drawn) hU (g' := .frame (locsOf scope.names) (List.replicate (locsOf scope.names).length none)) rfl rfl hsb.extBut fun d z9 => ⟨_, hns, fun x i v z9 hv => by
    rw [List.getElem?_replicate] at hv
    split at hv <;> wide_open using hv⟩
  rw [← GH.set_un _ gC, GH.set_set] at R5
  have eH : (((H.set Ia (.iter k)).set Da (.list [])).set Ca (.frame (locsOf scope.names) (List.replicate (locsOf scope.names).length none))) = HS H Ca Da Ia (.frame (locsOf scope.names) (List.replicate (locsOf scope.names).length none)) (.list []) (.iter k) := by
    funext a
    simp only [GH.set, HS]
    by_cases h1 : a = Ca
    · subst h1; simp [hCI, hCD]
    · by_cases h2 : a = Da
      · subst h2; simp [hDI, h1]
      · by_cases h3 : a = Ia
        · subst h3; simp [h1, h2]
        · simp [h1, h2, h3]
  rw [eH] at R5
  have D5 : Disj (HS H Ca Da Ia (.frame (locsOf scope.names) (List.replicate (locsOf scope.names).length none)) (.list []) (.iter k)) G1 := by
    ((first | refine eH ▸ ?_ | rewrite [← eH]); try with_reducible rfl); exact D3.setH gC
  have hI0 : H Ia = none := hIa
  have F2 := (comp_fr (C := Ca) I.fr hk hn hcaps).2
  have loop : ∀ st, W.R ((HS H Ca Da Ia (.frame (locsOf scope.names) (List.replicate (locsOf scope.names).length none)) (.list []) (.iter k)).un G1) st →
      codeAny W.M A (.compLoop (.ListComp elt [⟨t, iter, ifs, 0⟩] scope pos) 0 (.ref Ia) (.ref Da) (compEnvC scope (clos env scope.names []) Ca env)) (compPost W.M A NoE use Q (.ref Da) Ca) st := fun st Rst => by
    refine codeAny_mono (compLoop_ok (cenv := compEnvC scope (clos env scope.names []) Ca env) (σ := compSg scope.names) I.room.1 I.room F2 helt hc ht hDI hCI hCD hI0 hD0 (m := List.replicate (locsOf scope.names).length none) (by simp only [small] at hsm; simp only [List.length_nil]; omega) D5 Rst hr w2) fun r s' q => ?_
    refine o_AEEAA q fun e91 m2 G' D' R' k' => ?_; try clear q; subst e91
    exact fin Ca (.ref Da) m2 G' s' hC0 D' R' k' rfl
  refine codeAny_compStart_list (loop _ R5) ?_
  exact wpAny_mono (iter_again (Q := fun v st => v = .ref Ia ∧ st = _) D5 R5 HS_I ⟨rfl, rfl⟩) (fun v st q => by obtain ⟨rfl, rfl⟩ := q; exact loop _ R5) fun z9 z9 z => z.elim
theorem comp_ok (I : In W A n σ cs cd env m H) (D : Disj H G) (R : W.R (H.un G) s) (hit : SE W σ iter it) (helt : SE W (compSg scope.names) elt ce)
    (hc : (ifs = [] ∧ cb = .tt) ∨ ∃ c0, ifs = [c0] ∧ SB W (compSg scope.names) c0 cb) (ht : trT (compSg scope.names) t = some ct) (hset : notSet iter = true) (hk : scope.kind = .function) (hn : compNamesOk scope.names = true)
    (hcaps : trL (fun (x : Str) => (if x == ("__classdict__" : Str) then none else σ.cels.idxOf? x)) (freesOf scope.names) = some caps)
    (w : wpE W n cs m (.comp ce ct it cb (locsOf scope.names).length caps) G K) :
    WP W A (eval (.ListComp elt [⟨t, iter, ifs, 0⟩] scope pos) env) (Post W H fun v => K (er v)) s := by
  wide_open with arm_eval_ListComp
  refine comp_core (use := none) I D R hit helt hc ht hset hk hn hcaps w fun C acc m2 G' s' hC D' R' k' he => ?_
  have gC : G' C = none := D'.left (GH.set_self _ _ _)
  have hU : ((H.set C (.frame (locsOf scope.names) m2)).un G') C = some (.frame (locsOf scope.names) m2) := by wide_open with GH.un_left gC; exact GH.set_self _ _ _
  refine o_EEA (R'.at hU) fun z9 mm hns z9 => ?_
  refine (i_EA mm hns (fun h' hs => (i_EAA G' (fun a ha => ?_) ?_ (by refine (?_ : K (er acc) G'); wide_open with he; exact k'))))
  · have := D' a ha
    by_cases e : a = C
    · subst e; exact hC
    · rwa [GH.set_ne _ _ e] at this
  · have R2 := R'.extDel (h' := h') (tk := s'.toks) (dr := s'.drawn) hU hs.extBut
    rw [← GH.un_del gC] at R2
    have e : (H.set C (.frame (locsOf scope.names) m2)).del C = H := by
      funext a; simp only [GH.del, GH.set]
      by_cases e : a = C
      · subst e; simp [hC]
      · simp [e]
    rw [e] at R2
    exact R2
theorem comp_use_ok {x : Expr} {p : CT} {K' : Mm → GH → Prop} (I : In W A n σ cs cd env m H) (D : Disj H G) (R : W.R (H.un G) s) (hit : SE W σ iter it) (helt : SE W (compSg scope.names) elt ce)
    (hc : (ifs = [] ∧ cb = .tt) ∨ ∃ c0, ifs = [c0] ∧ SB W (compSg scope.names) c0 cb) (ht : trT (compSg scope.names) t = some ct) (hset : notSet iter = true) (hk : scope.kind = .function) (hn : compNamesOk scope.names = true)
    (hcaps : trL (fun (x : Str) => (if x == ("__classdict__" : Str) then none else σ.cels.idxOf? x)) (freesOf scope.names) = some caps) (hp : trT σ x = some p)
    (w : wpE W n cs m (.comp ce ct it cb (locsOf scope.names).length caps) G fun v G' => setT cs p v m G' K') :
    WP W A (comprehension (.ListComp elt [⟨t, iter, ifs, 0⟩] scope pos) scope env (firstIterPos [⟨t, iter, ifs, 0⟩] pos) (newList []) (firstAsync [⟨t, iter, ifs, 0⟩]) (firstIter [⟨t, iter, ifs, 0⟩] env) (some fun v => assign x env v))
      (fun z9 => PostM W H env.locals σ.locs K') s := by
  refine comp_core (use := some fun v => assign x env v) I D R hit helt hc ht hset hk hn hcaps w fun C acc m2 G' s' hC D' R' k' he => ?_
  have hCL : C ≠ env.locals := by rintro rfl; wide_line with I.loc using hC
  have I' : In W A n σ cs cd env m (H.set C (.frame (locsOf scope.names) m2)) := ⟨I.room, I.fr, by wide_open with GH.set_ne _ _ (Ne.symm hCL); exact I.loc⟩
  refine wpAny_mono (assign_ok I' D' R' hp (by rw [he]; exact k')) (fun z9 s2 q => ?_) fun z9 z9 z => z
  refine o_EEAA q fun m' G2 D2 R2 k2 => ?_; try clear q
  have gC : G2 C = none := D2.left (GH.set_self _ _ _)
  have hU : (((H.set C (.frame (locsOf scope.names) m2)).set env.locals (.frame σ.locs m')).un G2) C = some (.frame (locsOf scope.names) m2) := by
    (wide_line using GH.un_left gC; wide_open with GH.set_ne _ _ hCL); exact GH.set_self _ _ _
  refine o_EEA (R2.at hU) fun z9 mm hns z9 => ?_
  refine (i_EA mm hns (fun h' hs => (i_EEAA m' G2 (fun a ha => ?_) ?_ k2)))
  · have := D2 a ha
    by_cases e : a = C
    · subst e; exact hC
    · rwa [GH.set_ne _ _ e] at this
  · have R3 := R2.extDel (h' := h') (tk := s2.toks) (dr := s2.drawn) hU hs.extBut
    rw [← GH.un_del gC] at R3
    have e : ((H.set C (.frame (locsOf scope.names) m2)).set env.locals (.frame σ.locs m')).del C = H.set env.locals (.frame σ.locs m') := by
      funext a; simp only [GH.del, GH.set]
      by_cases e : a = C
      · subst e; simp [hC, hCL]
      · simp [e]
    rw [e] at R3
    exact R3
end
end Mine
end
section
open PySem PySem.W PySem.Calls PyProof.Rows
namespace Mine
variable {W : Wd} {n : Nat} {A : Around} {H G : GH} {s : Shared} {mg mb : Str → Option Value}
theorem put_map {kvs : List (Int × Value)} {k : Int} {v : Value} : (stored kvs k v).map (fun p => (p.1, er p.2)) = put (kvs.map fun p => (p.1, er p.2)) k (er v) := by
  unfold stored put
  have e : (kvs.map fun p => (p.1, er p.2)).any (fun kv => decide (kv.1 = k)) = kvs.any (fun kv => decide (kv.1 = k)) := by
    wide_open with List.any_map; rfl
  wide_open with e
  split
  · (wide_line using List.map_map; wide_open with List.map_map)
    apply List.map_congr_left
    intro p _
    simp only [Function.comp]
    split <;> rfl
  · simp
theorem merged_map {more : List (Int × Value)} : ∀ {kvs : List (Int × Value)}, (merged kvs more).map (fun p => (p.1, er p.2)) = (more.map fun p => (p.1, er p.2)).foldl (fun l p => put l p.1 p.2) (kvs.map fun p => (p.1, er p.2)) := by
  unfold merged
  induction more with
  | nil => intro kvs; rfl
  | cons p r ih => intro kvs; (wide_line using List.foldl_cons; wide_line using ih; wide_open with put_map); rfl
theorem stored_len (kvs : List (Int × Value)) (k : Int) (v : Value) : (stored kvs k v).length ≤ kvs.length + 1 := by
  unfold stored; split <;> simp
theorem merged_len {more : List (Int × Value)} : ∀ {kvs : List (Int × Value)}, (merged kvs more).length ≤ kvs.length + more.length := by
  unfold merged
  induction more with
  | nil => intro kvs; simp
  | cons p r ih => intro kvs; wide_open with List.foldl_cons; have := ih (kvs := stored kvs p.1 p.2); have := stored_len kvs p.1 p.2; simp only [List.length_cons]; lia
noncomputable def dpairs (env : Env) (pos : Pos) (js : List Int) (vs : List Expr) : List (Sem Value × Sem Value) := (js.zip vs).map fun p => (mkInt p.1, do let x ← eval p.2 env; standAt pos; pure x)
set_option tactic.hygienic true in
theorem dpairs_shape {env : Env} {pos : Pos} : ∀ {ks : List (Option Expr)} {js : List Int} {vs : List Expr}, intKeys ks = some js → ks.length = vs.length →
    (evalEachOpt ks env).zip ((evalEach vs env).map fun v => do let x ← v; standAt pos; pure x) = (dpairs env pos js vs).map fun p => (some p.1, p.2)
  | [], js, vs, h, hl => by wide_open using h; rfl
  | k :: ks, js, [], h, hl => by wide_open using hl
  | k :: ks, js, v :: vs, h, hl => by
    cases k with
    | none => wide_open using h
    | some e =>
      cases e <;> try (wide_open using h; done)
      rename_i c x1 x2
      cases c <;> try (wide_open using h; done)
      rename_i j
      refine o_EA (Option.map_eq_some_iff.mp h) fun js' h' e93 => ?_; subst e93
      have ih := @dpairs_shape env pos ks js' vs h' (by simpa using hl)
      show ((some (mkInt j), do let x ← eval v env; standAt pos; pure x) :: (evalEachOpt ks env).zip ((evalEach vs env).map _)) = _
      wide_open with ih
      rfl
theorem dpairs_ok {AT : Names} {gl : List (Str × Value)} {k : Nat} {σ : Sg} (ih : ∀ e ce, trE AT gl k σ e = some ce → SE W σ e ce) : ∀ (js : List Int) (vs : List Expr) (ces : List CE), trL (trE AT gl k σ) vs = some ces → js.length = vs.length →
    ∀ {A n cs cd env m H G s pos} {K : List Value → GH → Prop}, In W A n σ cs cd env m H → Disj H G → W.R (H.un G) s → wpEs W n cs m ces G K →
    WP W A (evalPairs (dpairs env pos js vs)) (fun ps s' => ∃ kvs, Carries (intKind W.prog W.w) ps kvs ∧ kvs.map (·.1) = js ∧ Post W H (fun ws => K ws) (kvs.map fun p => er p.2) s') s
  | [], [], ces, h, _, A, n, cs, cd, env, m, H, G, s, pos, K, I, D, R, w => by
    wide_open using h
    exact evalPairs_nil (i_EAAEAA ([]) trivial rfl G D R w)
  | [], v :: vs, ces, h, hl, _, _, _, _, _, _, _, _, _, _, _, _, _, _, _ => by wide_open using hl
  | j :: js, [], ces, h, hl, _, _, _, _, _, _, _, _, _, _, _, _, _, _, _ => by wide_open using hl
  | j :: js, v :: vs, ces, h, hl, A, n, cs, cd, env, m, H, G, s, pos, K, I, D, R, w => by
    refine o_EEAA (trL_cons h) fun a r h1 h2 e95 => ?_; subst e95
    show WP W A (evalPairs ((mkInt j, do let x ← eval v env; standAt pos; pure x) :: dpairs env pos js vs)) _ s
    refine evalPairs_cons (wpAny_mkInt ?_)
    refine wpAny_bind (wpAny_mono ((ih v a h1).use I D (R.irr rfl rfl rfl) w) (fun vv s1 q => ?_) fun z9 z9 z => z)
    refine o_EAA q fun G1 D1 R1 w1 => ?_; try clear q
    refine wpAny_bind (wpAny_standAt (wpAny_pure ?_))
    refine wpAny_mono (dpairs_ok ih js vs r h2 (by simpa using hl) I D1 R1 w1) (fun ps s2 q => ?_) fun z9 z9 z => z
    refine o_EAAEAA q fun kvs c1 c2 G2 D2 R2 w2 => ?_; try clear q
    exact (i_EAAEAA ((j, vv) :: kvs) (i_AA (by simp [intKind, Value.isInt]) rfl c1) (by simp [c2]) G2 D2 R2 (by simpa using w2))
theorem size_big (O : WdOK W mg mb) {U : GH} (R : W.R U s) : 1 < s.heap.objs.size := by
  have h := O.hmg.keeps R.keep
  have := h.lt
  exact Nat.lt_of_le_of_lt (by decide) this
theorem DictAt_of {knd : KeyKind W.prog W.w Int} {h : Heap} {a : Addr} {kvs : List (Int × Value)} (x : h.DictOf knd a kvs) : ∃ ep, h.DictAt knd a kvs ep := by
  refine o_EEE x fun o es ep r => ?_; try clear x; exact (i_EEE ep o es r)
set_option tactic.hygienic true in
theorem dict_ok (O : WdOK W mg mb) {AT : Names} {gl : List (Str × Value)} {k : Nat} {σ : Sg} (ih : ∀ e ce, trE AT gl k σ e = some ce → SE W σ e ce) {ks : List (Option Expr)} {js : List Int} {vs : List Expr} {ces : List CE} {pos : Pos}
    (h : trL (trE AT gl k σ) vs = some ces) (hk : intKeys ks = some js) (hl : ks.length = vs.length) (hs : ks.length ≤ 15)
    {cs cd env m} {K : KV} (I : In W A n σ cs cd env m H) (D : Disj H G) (R : W.R (H.un G) s) (w : wpE W n cs m (.dict js ces) G K) : WP W A (eval (.Dict ks vs pos) env) (Post W H fun v => K (er v)) s := by
  have jl : ∀ {ks js}, intKeys ks = some js → js.length = ks.length := by
    intro ks
    induction ks with
    | nil => intro js h; wide_open using h; rfl
    | cons y l il =>
      intro js h
      cases y with
      | none => wide_open using h
      | some e =>
        cases e <;> try (wide_open using h; done)
        rename_i c x1 x2
        cases c <;> try (wide_open using h; done)
        refine o_EA (Option.map_eq_some_iff.mp h) fun js' h' e93 => ?_; subst e93
        simp [il h']
  have hjl := jl hk
  have big := size_big O R
  have hne : s.heap.objs.size ≠ sysModules := by
    intro e; rw [e] at big; exact absurd big (by decide)
  have dict0 : (s.heap.push { cls := .type "dict", data := .dict #[] }).DictAt (intKind W.prog W.w) s.heap.objs.size [] 0 :=
    (i_EEAAAAA _ (#[]) (Heap.get?_push_size _ rfl) (i_AA rfl rfl rfl) rfl (fun z9 he => by simp at he) .nil List.nodup_nil)
  have R1 := fun tk dr => R.pushH { cls := .type "dict", data := .dict #[] } (.dict [] 0) rfl rfl (tk := tk) (dr := dr) fun d e => (i_EAAA ([]) dict0 rfl (by wide_open with sizeLine_eq; exact Nat.zero_le _) hne)
  have fr := R.fr
  generalize hd : s.heap.objs.size = d at *
  have I1 : In W A n σ cs cd env m (H.set d (.dict [] 0)) := ⟨I.room, I.fr, by
    wide_open with (GH.set_ne _ _ (fun e => by have := I.loc; rw [e, fr.1] at this; wide_open using this)); exact I.loc⟩
  have D1 : Disj (H.set d (.dict [] 0)) G := D.setH fr.2
  by_cases h0 : ks = []
  · subst h0
    have : vs = [] := List.length_eq_zero_iff.mp hl.symm
    subst this
    wide_open using hk
    wide_open using h
    refine wpAny_Dict_empty ?_
    wide_open with hd
    refine (i_EAA _ (D.setG fr.1) ?_ (w 0 d fr.2))
    ((first | refine (un_swap fr.2) ▸ ?_ | rewrite [← un_swap fr.2]); try with_reducible rfl)
    exact R1 s.toks s.drawn
  · refine wpAny_Dict_pairs (knd := intKind W.prog W.w) (pairs := dpairs env pos js vs) (dpairs_shape hk hl) ?_ (by unfold dpairs; simp; lia) ?_
    · intro e
      have : (dpairs env pos js vs).length = 0 := by wide_open with e; rfl
      unfold dpairs at this
      simp only [List.length_map, List.length_zip] at this
      have : ks.length = 0 := by lia
      exact h0 (List.length_eq_zero_iff.mp this)
    · wide_open with hd
      refine wpAny_mono (dpairs_ok ih js vs ces h (by lia) I1 D1 (R1 s.toks s.drawn) w) (fun ps s1 q => ?_) fun z9 z9 z => z
      refine o_EAAEAA q fun kvs c1 c2 G2 D2 R2 w2 => ?_; try clear q
      have g2 : G2 d = none := D2.left (GH.set_self _ _ _)
      have hU : ((H.set d (.dict [] 0)).un G2) d = some (.dict [] 0) := by wide_open with GH.un_left g2; exact GH.set_self _ _ _
      refine o_EEAA (R2.at hU) fun z9 kv0 e1 e2 z9 => ?_
      have : kv0 = [] := by cases kv0 with | nil => rfl | cons _ _ => wide_open using e2
      subst this
      refine (i_EAA kvs c1 e1.dictOf (fun h' hd' hsb => ?_))
      obtain ⟨ep, ha⟩ := DictAt_of hd'
      have hlen : (merged [] kvs).length ≤ sizeLine := by
        have := merged_len (more := kvs) (kvs := [])
        have hk2 : kvs.length = js.length := by ((first | refine c2 ▸ ?_ | rewrite [← c2]); try with_reducible rfl); simp
        simp only [List.length_nil] at this
        wide_open with sizeLine_eq
        lia
      have R3 := R2.ext (h' := h') (tk := s1.toks + ps.length) (dr := s1.drawn) hU (g' := .dict ((merged [] kvs).map fun p => (p.1, er p.2)) ep) rfl rfl hsb.extBut fun dd z9 => (i_EAAA _ ha rfl hlen hne)
      rw [← GH.set_un _ g2, GH.set_set, un_swap g2] at R3
      refine (i_EAA _ ?_ R3 ?_)
      · have : Disj H G2 := fun a ha => by
          have := D2 a ha
          by_cases e : a = d
          · subst e; exact fr.1
          · rwa [GH.set_ne _ _ e] at this
        exact this.setG fr.1
      · have := w2 ep d g2
        wide_open with merged_map
        have ez : js.zip (kvs.map fun p => er p.2) = kvs.map fun p => (p.1, er p.2) := by
          ((first | refine c2 ▸ ?_ | rewrite [← c2]); wide_open with List.zip_map')
        rw [ez] at this
        exact this
end Mine
end
section
open PySem PySem.W PySem.Calls PyProof.Rows
namespace Mine
variable {W : Wd} {n : Nat} {A : Around} {H G : GH} {s : Shared} {mg mb : Str → Option Value}
theorem attributeBase_plain {o : Expr} {name : Str} {env : Env} {t : Sem Value} (h : plainBase o = true) : attributeBase o name env t = t := by
  cases o with
  | Call f args kws p => wide_open using h
  | _ => rfl
theorem AT_of {AT : Names} {x : Str} {i : Nat} (h : AT.idxOf? x = some i) : AT[i]? = some x := by
  have hlt := idxOf?_lt h
  have := (List.findIdx?_eq_some_iff_getElem.mp h).2.1
  (wide_line using List.getElem?_eq_getElem hlt; wide_open with beq_iff_eq.mp this)
theorem spl_args {AT : Names} {gl : List (Str × Value)} {k : Nat} {σ : Sg} (ih : ∀ e ce, trE AT gl k σ e = some ce → SE W σ e ce) {es : List Expr} {ces : List CE} (h : trL (trE AT gl k σ) es = some ces)
    {A n cs cd env m H G pos} {K : List Value → GH → Prop} (I : In W A n σ cs cd env m H) (w : wpEs W n cs m ces G K) : Args1 W A H (backTo pos (starEach es env)) G K :=
  fun z9 D R => wpAny_mono ((spl_ok ih es ces h).use pos I D R w).2.2 (fun z9 z9 q => q.2) fun z9 z9 z => z
theorem meth_er {o fv : Value} {i : Nat} (hf : methG W o i G = some fv) : er fv = fv := by
  unfold methG at hf
  (repeat' split at hf) <;> first | wide_open using hf | skip
  all_goals first | rfl | (refine o_EA (Option.map_eq_some_iff.mp hf) fun f' z9 e93 => ?_; subst e93; rfl)
theorem post_del {a : Addr} {o : GO} {K : GH → Prop} (hn : H a = none) (q : ∃ G', Disj (H.set a o) G' ∧ W.R ((H.set a o).un G') s ∧ K G') : ∃ G', Disj H G' ∧ W.R (H.un G') s ∧ K G' := by
  refine o_EAA q fun G5 D5 R6 w5 => ?_; try clear q
  refine (i_EAA G5 (fun b hb => ?_) (R6.drop (fun b g e => ?_)) w5)
  · have := D5 b hb
    by_cases e : b = a
    · subst e; exact hn
    · rwa [GH.set_ne _ _ e] at this
  · by_cases hb : (G5 b).isSome = true
    · obtain ⟨g5, h5⟩ := Option.isSome_iff_exists.mp hb
      rw [GH.un_right h5] at e ⊢; exact e
    · have h5 : G5 b = none := by simpa using hb
      rw [GH.un_left h5] at e ⊢
      by_cases e2 : b = a
      · subst e2; wide_line with hn using e
      · wide_open with GH.set_ne _ _ e2; exact e
theorem evalPart_ok {f : Expr → Option CE} {σ : Sg} (ih : ∀ e ce, f e = some ce → SE W σ e ce) {x : Option Expr} {ce : CE} (h : trO f x = some ce)
    {A n cs cd env m H G s} {K : KV} (I : In W A n σ cs cd env m H) (D : Disj H G) (R : W.R (H.un G) s) (w : wpE W n cs m ce G K) : WP W A (evalPart x env) (Post W H fun v => K (er v)) s := by
  cases x with
  | none => wide_open using h; exact wpAny_pure (i_EAA G D R w)
  | some e => exact (ih e ce h).use I D R w
section
variable {σ : Sg} {p : Pos}
theorem s_const {c : Const} {k : Nat} {ce : CE} (h : trC c = some ce) : SE W σ (.Constant c k p) ce := fun A n cs cd env m H G s K I D R w => by
  cases c with
  | none => wide_open using h; exact wpAny_pure (i_EAA G D R w)
  | bool b => wide_open using h; exact wpAny_pure (i_EAA G D R w)
  | int i => wide_open using h; exact wpAny_mkInt (i_EAA G D (R.irr rfl rfl rfl) w)
  | str x => wide_open using h; exact wpAny_mkText (i_EAA G D (R.irr rfl rfl rfl) w)
  | _ => wide_open using h
theorem s_name (O : WdOK W mg mb) {x : Str} {ce : CE} (h : trN W.globs σ x = some ce) : SE W σ (.Name x p) ce := fun A n cs cd env m H G s K I D R w => by
  obtain ⟨hd, h⟩ := cnd' h
  cases hp : trP σ x with
  | some q =>
    rw [hp] at h
    wide_open using h
    refine o_EA (optG.ex w) fun v hv w => ?_
    exact wpAny_Name (var_ok I.fr I.loc D R hp hv fun v' e => (i_EAA G D R (by subst e; exact w))) hd
  | none =>
    rw [hp] at h
    obtain ⟨hg, h⟩ := cnd h
    refine o_EA (mpd h) fun v hv e93 => ?_; subst e93
    exact glob_ok O I.fr R (eq_of_beq hg) hv (fun v' e => (i_EAA G D R (by subst e; exact w))) hd
theorem s_bin {l r : Expr} {op : Operator} {a b : CE} (ha : SE W σ l a) (hb : SE W σ r b) : SE W σ (.BinOp l op r p) (.bin op a b) := fun A n cs cd env m H G s K I D R w => by
  refine wpAny_BinOp (wpAny_mono (ha.use I D R w) (fun x s1 q => ?_) fun z9 z9 z => z)
  refine o_EAA q fun G1 D1 R1 w1 => ?_; try clear q
  refine wpAny_mono (hb.use I D1 R1 w1) (fun y s2 q => ?_) fun z9 z9 z => z
  refine o_EAA q fun G2 D2 R2 w2 => ?_; try clear q
  exact bin_use I.room D2 R2 w2
theorem s_un {op : UnaryOp} {x : Expr} {o : Option CE} {ce : CE} (hx : ∀ a, o = some a → SE W σ x a) (h : trU op o = some ce) : SE W σ (.UnaryOp op x p) ce := fun A n cs cd env m H G s K I D R w => by
  cases op with
  | USub =>
    refine o_EA (mpd h) fun a ha e93 => ?_; subst e93
    refine wpAny_UnaryOp (wpAny_mono ((hx a ha).use I D R w) (fun x s1 q => ?_) fun z9 z9 z => z)
    refine o_EAA q fun G1 D1 R1 w1 => ?_; try clear q
    exact neg_ok rfl D1 R1 w1
  | Not =>
    refine o_EA (mpd h) fun a ha e93 => ?_; subst e93
    refine wpAny_UnaryOp (wpAny_mono ((hx a ha).use I D R w) (fun x s1 q => ?_) fun z9 z9 z => z)
    refine o_EAA q fun G1 D1 R1 w1 => ?_; try clear q
    refine (?_ : WP W A (holding [x] (do return Value.bool (!(← truthy x)) : Sem Value)) _ s1)
    refine wpAny_holding (wpAny_bind (wpAny_mono (truth_ok rfl D1 R1 w1) (fun t s2 q => ?_) fun z9 z9 z => z))
    refine o_EAA q fun G2 D2 R2 w2 => ?_; try clear q
    exact wpAny_pure (i_EAA G2 D2 R2 w2)
  | _ => wide_open using h
theorem s_ite {t a b : Expr} {ct : CB} {ca cb : CE} (ht : SB W σ t ct) (ha : SE W σ a ca) (hb : SE W σ b cb) : SE W σ (.IfExp t a b p) (.ite ct ca cb) := fun A n cs cd env m H G s K I D R w => by
  refine wpAny_IfExp (wpAny_mono (ht.use I D R w) (fun x s1 q => ?_) fun z9 z9 z => z)
  refine o_EAA q fun G1 D1 R1 w1 => ?_; try clear q
  cases x with
  | true => exact ha.use I D1 R1 w1
  | false => exact hb.use I D1 R1 w1
theorem s_cmp {f : Expr → Option CE} {l : Expr} {ops : List CmpOp} {rs : List Expr} {c : CB} (ih : ∀ e ce, f e = some ce → SE W σ e ce) (h : cmpE f l ops rs = some c) : SE W σ (.Compare l ops rs p) (.ofB c) ∧ SB W σ (.Compare l ops rs p) c := by
  have fin : ∀ {A : Around} {H : GH} {K : KV} {e : Sem Value} {s : Shared}, WP W A e (Post W H fun v G' => ∃ b, v = .bool b ∧ K (.bool b) G') s → WP W A e (Post W H fun v => K (er v)) s := fun z => wpAny_mono z (fun v s1 q => by
    refine o_EAAEA q fun G1 D1 R1 t e95 w1 => ?_; try clear q; subst e95
    exact (i_EAA G1 D1 R1 w1)) fun z9 z9 z => z
  rcases ops with _ | ⟨op, ops⟩
  · wide_open using h
  rcases rs with _ | ⟨r, rs⟩
  · wide_open using h
  rcases ops with _ | ⟨o2, ops⟩
  · rcases rs with _ | ⟨r2, rs⟩
    · obtain ⟨hm, h⟩ := cnd' h
      refine o_EA (bnd h) fun a ha h => ?_
      refine o_EA (bnd h) fun b hb h => ?_
      wide_open using h
      refine ⟨fun A n cs cd env m H G s K I D R w => fin (cmp1_ok hm (ih _ _ ha) (ih _ _ hb) I D R w), fun A n cs cd env m H G s K I D R w => ?_⟩
      refine wpAny_isTrue_Compare1 (wpAny_mono ((ih _ _ ha).use I D R w) (fun x s1 q => ?_) fun z9 z9 z => z) hm
      refine o_EAA q fun G1 D1 R1 w1 => ?_; try clear q
      refine wpAny_mono ((ih _ _ hb).use I D1 R1 w1) (fun y s2 q => ?_) fun z9 z9 z => z
      refine o_EAA q fun G2 D2 R2 w2 => ?_; try clear q
      refine wpAny_mono (cmp_use I.room D2 R2 w2) (fun t s3 q => ?_) fun z9 z9 z => z
      refine o_EAAEA q fun G3 D3 R3 b' e95 w3 => ?_; try clear q; subst e95
      exact wpAny_truthy_bool (i_EAA G3 D3 R3 w3)
    · wide_open using h
  rcases rs with _ | ⟨r2, rs⟩
  · wide_open using h
  rcases ops with _ | ⟨o3, ops⟩
  · rcases rs with _ | ⟨r3, rs⟩
    · obtain ⟨hm, h⟩ := cnd' h
      refine o_EA (bnd h) fun a ha h => ?_
      refine o_EA (bnd h) fun b hb h => ?_
      refine o_EA (bnd h) fun c hc h => ?_
      wide_open using h
      exact ⟨fun A n cs cd env m H G s K I D R w => fin (cmp2_ok hm (ih _ _ ha) (ih _ _ hb) (ih _ _ hc) I D R w).1, fun A n cs cd env m H G s K I D R w => (cmp2_ok hm (ih _ _ ha) (ih _ _ hb) (ih _ _ hc) I D R w).2 _⟩
    · wide_open using h
  · wide_open using h
end
section
variable {k : Nat} {σ : Sg} {p : Pos} (O : WdOK W mg mb) (ih : ∀ e ce, trE W.AT W.globs k σ e = some ce → SE W σ e ce)
include O ih
theorem s_meth {o : Expr} {name : Str} {apos : Pos} {args : List Expr} {i : Nat} {a : CE} {as : List CE} (hc : (plainBase o && apos.endLine == p.line && decide (args.length < 30)) = true) (hi : W.AT.idxOf? name = some i)
    (ha : trE W.AT W.globs k σ o = some a) (has : trL (trE W.AT W.globs k σ) args = some as) : SE W σ (.Call (.Attribute o name apos) args [] p) (.meth a i as) := fun A n cs cd env m H G s K I D R w => by
  simp only [Bool.and_eq_true, beq_iff_eq, decide_eq_true_eq] at hc
  obtain ⟨⟨hb, hp⟩, hn⟩ := hc
  (wide_line using arm_eval_Call; wide_open with attributeBase_plain hb)
  refine wpAny_bind (wpAny_mono ((ih _ _ ha).use I D R w) (fun x s1 q => ?_) fun z9 z9 z => z)
  refine o_EAAEA q fun G1 D1 R1 fv hf w1 => ?_; try clear q
  refine wpAny_bind (wpAny_standAt ?_)
  have hargs := (star_any (pos := p) (env := env) args as has).1
  unfold methodCall
  have hfew : methodCallForm (args.length + ([] : List Keyword).length) (backTo p (starEach args env)) (backToKw p (keywordEach [] env)) = true := by
    unfold methodCallForm
    have : (backTo p (starEach args env)).all (fun x => !x.1) = true := by
      wide_open with List.all_eq_not_any_not
      simp only [Bool.not_not]
      wide_open with hargs; rfl
    rw [this]
    exact decide_eq_true hn
  wide_open with hfew
  refine wpAny_bind (wpAny_holding (meth_ok O rfl (AT_of hi) R1 hf ?_))
  dsimp only
  have hpos : methodCallPos true o env apos p = pure p := if_pos (by wide_open with hp; exact beq_self_eq_true _)
  wide_open with hpos
  refine wpAny_bind (wpAny_pure ?_)
  refine callWith_ok O hargs D1 R1 I.room ?_
  have he : er fv = fv := meth_er hf
  wide_open with he
  exact spl_args ih has I w1
theorem s_call {x : Str} {q : Pos} {args : List Expr} {a : CE} {as : List CE} (ha : trE W.AT W.globs k σ (.Name x q) = some a) (has : trL (trE W.AT W.globs k σ) args = some as) : SE W σ (.Call (.Name x q) args [] p) (.call a as) := fun A n cs cd env m H G s K I D R w => by
  refine (?_ : WP W A (eval (.Name x q) env >>= fun f => callWith p f [] (backTo p (starEach args env)) []) _ s)
  refine wpAny_bind (wpAny_mono ((ih _ _ ha).use I D R w) (fun f s1 q => ?_) fun z9 z9 z => z)
  refine o_EAA q fun G1 D1 R1 w1 => ?_; try clear q
  exact callWith_ok O (star_any args as has).1 D1 R1 I.room (spl_args ih has I w1)
theorem s_attr {o : Expr} {name : Str} {i : Nat} {a : CE} (hb : plainBase o = true) (hi : W.AT.idxOf? name = some i) (ha : trE W.AT W.globs k σ o = some a) : SE W σ (.Attribute o name p) (.attr a i) := fun A n cs cd env m H G s K I D R w => by
  (wide_line using arm_eval_Attribute; wide_open with attributeBase_plain hb)
  refine wpAny_bind (wpAny_mono ((ih _ _ ha).use I D R w) (fun x s1 q => ?_) fun z9 z9 z => z)
  refine o_EAA q fun G1 D1 R1 w1 => ?_; try clear q
  refine wpAny_bind (wpAny_standAt (wpAny_bind (wpAny_holding (wpAny_mono (attr_ok O rfl (AT_of hi) D1 R1 w1) (fun v s2 q => ?_) fun z9 z9 z => z))))
  exact wpAny_bind (wpAny_letTemporaryGo (wpAny_pure q))
omit O
theorem s_slice {o : Expr} {l u st : Option Expr} {q : Pos} {a cl cu cst : CE} (ha : trE W.AT W.globs k σ o = some a) (hl : trO (trE W.AT W.globs k σ) l = some cl) (hu : trO (trE W.AT W.globs k σ) u = some cu) (hst : trO (trE W.AT W.globs k σ) st = some cst) :
    SE W σ (.Subscript o (.Slice l u st q) p) (.slice a cl cu cst) := fun A n cs cd env m H G s K I D R w => by
  refine Subscript_ (wpAny_mono ((ih _ _ ha).use I D R w) (fun x s1 q => ?_) fun z9 z9 z => z)
  refine o_EAA q fun G1 D1 R1 w1 => ?_; try clear q
  refine wpAny_Slice (wpAny_mono (evalPart_ok ih hl I D1 R1 w1) (fun vl s2 q => ?_) fun z9 z9 z => z)
  refine o_EAA q fun G2 D2 R2 w2 => ?_; try clear q
  refine wpAny_mono (evalPart_ok ih hu I D2 R2 w2) (fun vu s3 q => ?_) fun z9 z9 z => z
  refine o_EAA q fun G3 D3 R3 w3 => ?_; try clear q
  refine wpAny_mono (evalPart_ok ih hst I D3 R3 w3) (fun vs s4 q => ?_) fun z9 z9 z => z
  refine o_EAA q fun G4 D4 R4 w4 => ?_; try clear q
  have R5 := R4.pushH { cls := .type "slice", data := .fields #[vl, vu, vs] } (.raw { cls := .type "slice", data := .fields #[vl, vu, vs] }) rfl rfl (tk := s4.toks) (dr := s4.drawn) fun d e => e
  refine wpAny_mono (w4 A x vl vu vs s4.heap.objs.size o (.Slice l u st _) I.room rfl rfl rfl rfl (by cases st <;> exact ⟨_, rfl⟩) _ _ (GH.set_self _ _ _) (D4.setH R4.fr.2) R5) (fun v s5 q => ?_) fun z9 z9 z => z
  exact post_del R4.fr.1 q
theorem s_sub {o i : Expr} {a b : CE} (hns : ∀ l u st q, i ≠ .Slice l u st q) (ha : trE W.AT W.globs k σ o = some a) (hb : trE W.AT W.globs k σ i = some b) : SE W σ (.Subscript o i p) (.sub a b) := fun A n cs cd env m H G s K I D R w => by
  refine Subscript_ (wpAny_mono ((ih _ _ ha).use I D R w) (fun x s1 q => ?_) fun z9 z9 z => z)
  refine o_EAA q fun G1 D1 R1 w1 => ?_; try clear q
  refine wpAny_mono ((ih _ _ hb).use I D1 R1 w1) (fun y s2 q => ?_) fun z9 z9 z => z
  refine o_EAA q fun G2 D2 R2 w2 => ?_; try clear q
  exact sub_ok rfl rfl D2 R2 w2 fun o' i' => by
    cases i <;> first | rfl | (exact absurd rfl (hns _ _ _ _))
theorem s_list {es : List Expr} {as : List CE} (hl : es.length ≤ 100) (has : trL (trE W.AT W.globs k σ) es = some as) : SE W σ (.List es p) (.list as) := fun A n cs cd env m H G s K I D R w => by
  refine List_ (wpAny_mono ((spl_ok ih _ _ has).use _ I D R w).2.2 (fun vs s1 q => ?_) fun z9 z9 z => z)
  refine o_AEAA q fun hlen G1 D1 R1 w1 => ?_; try clear q
  exact new_list D1 R1 (by (wide_line using sizeLine_eq; wide_open with hlen); exact Nat.le_trans hl (by decide)) w1
theorem s_tup {es : List Expr} {j : Nat} {as : List CE} (hl : es.length ≤ 100) (has : trL (trE W.AT W.globs k σ) es = some as) : SE W σ (.Tuple es j p) (.tup as) := fun A n cs cd env m H G s K I D R w => by
  refine Tuple_ (wpAny_mono ((spl_ok ih _ _ has).use _ I D R w).2.2 (fun vs s1 q => ?_) fun z9 z9 z => z)
  refine o_AEAA q fun hlen G1 D1 R1 w1 => ?_; try clear q
  exact new_tup D1 R1 (by (wide_line using sizeLine_eq; wide_open with hlen); exact Nat.le_trans hl (by decide)) w1
end
theorem lc_parts {P : Prop} {fE : Sg → Expr → Option CE} {fB : Sg → Expr → Option CB} {σ : Sg} {elt : Expr} {gens : List Comprehension} {scope : Scope} {ce : CE} (h : trLC fE fB σ elt gens scope = some ce) (go : ∀ t iter ifs it ct cb cel caps, gens = [⟨t, iter, ifs, 0⟩] →
    notSet iter = true → scope.kind = .function → compNamesOk scope.names = true → fE σ iter = some it → trT (compSg scope.names) t = some ct → ((ifs = [] ∧ cb = .tt) ∨ ∃ c0, ifs = [c0] ∧ fB (compSg scope.names) c0 = some cb) → fE (compSg scope.names) elt = some cel →
    trL (fun (x : Str) => (if x == ("__classdict__" : Str) then none else σ.cels.idxOf? x)) (freesOf scope.names) = some caps → ce = .comp cel ct it cb (locsOf scope.names).length caps → P) : P := by
  cases gens with
  | nil => wide_open using h
  | cons g r =>
    obtain ⟨t, iter, ifs, j⟩ := g
    obtain ⟨hc, h'⟩ := cnd h
    clear h
    obtain ⟨hc, h4⟩ := Bool.and_eq_true_iff.mp hc
    obtain ⟨hc, h3⟩ := Bool.and_eq_true_iff.mp hc
    obtain ⟨hc, h2⟩ := Bool.and_eq_true_iff.mp hc
    obtain ⟨h0, h1⟩ := Bool.and_eq_true_iff.mp hc
    obtain rfl := List.isEmpty_iff.mp h0
    obtain rfl : j = 0 := eq_of_beq h1
    refine o_EA (bnd h') fun it hit h => ?_
    refine o_EA (bnd h) fun ct hct h => ?_
    refine o_EA (bnd h) fun cb hcb h => ?_
    refine o_EA (bnd h) fun cel he h => ?_
    refine o_EA (bnd h) fun caps hcaps h => ?_
    refine go t iter ifs it ct cb cel caps rfl h2 (eq_of_beq h3) h4 hit hct ?_ he hcaps (Option.some.inj h).symm
    clear h go h' he hit hct hcaps
    rcases ifs with _ | ⟨c0, ifs⟩
    · wide_open using hcb; exact .inl ⟨rfl, rfl⟩
    · rcases ifs with _ | ⟨c1, ifs⟩
      · exact .inr (i_EA c0 rfl hcb)
      · wide_open using hcb
theorem s_lc {fE : Sg → Expr → Option CE} {fB : Sg → Expr → Option CB} {σ : Sg} {elt : Expr} {gens : List Comprehension} {scope : Scope} {ce : CE} {p : Pos} (ihE : ∀ σ e ce, fE σ e = some ce → SE W σ e ce) (ihB : ∀ σ e cb, fB σ e = some cb → SB W σ e cb)
    (h : trLC fE fB σ elt gens scope = some ce) : SE W σ (.ListComp elt gens scope p) ce :=
  lc_parts h fun t iter ifs it ct cb cel caps e h1 h2 h3 hit hct hcb he hcaps e2 A n cs cd env m H G s K I D R w => by
    subst e e2
    exact comp_ok I D R (ihE _ _ _ hit) (ihE _ _ _ he) (hcb.imp id fun ⟨c, e, q⟩ => (i_EA c e (ihB _ _ _ q))) hct h1 h2 h3 hcaps w
theorem sound_step (O : WdOK W mg mb) (k : Nat) (ihE : ∀ σ e ce, trE W.AT W.globs k σ e = some ce → SE W σ e ce) (ihB : ∀ σ e cb, trB W.AT W.globs k σ e = some cb → SB W σ e cb) (σ : Sg) (e : Expr) (ce : CE) (h : trE W.AT W.globs (k + 1) σ e = some ce) : SE W σ e ce := by
  cases e with
  | Constant c j p => exact s_const h
  | Name x p => exact s_name O h
  | BinOp l op r p =>
    refine o_EA (bnd h) fun a ha h => ?_
    refine o_EA (bnd h) fun b hb h => ?_
    wide_open using h
    exact s_bin (ihE _ _ _ ha) (ihE _ _ _ hb)
  | UnaryOp op x p => exact s_un (fun a ha => ihE _ _ _ ha) h
  | BoolOp op vs p =>
    refine o_EA (bnd h) fun as has h => ?_
    intro A n cs cd env m H G s K I D R w
    wide_open with arm_eval_BoolOp
    exact boolOp_ok (ihE σ) _ _ _ has h _ _ _ _ _ _ _ _ _ _ I D R w
  | Compare l ops rs p =>
    refine o_EA (mpd h) fun c hc e93 => ?_; subst e93
    exact (s_cmp (ihE σ) hc).1
  | IfExp t a b p =>
    refine o_EA (bnd h) fun ct ht h => ?_
    refine o_EA (bnd h) fun ca ha h => ?_
    refine o_EA (bnd h) fun cb hb h => ?_
    wide_open using h
    exact s_ite (ihB _ _ _ ht) (ihE _ _ _ ha) (ihE _ _ _ hb)
  | Call f args kws p =>
    cases kws with
    | cons _ _ => wide_open using h
    | nil =>
      cases f with
      | Attribute o name apos =>
        obtain ⟨hc, h⟩ := cnd h
        refine o_EA (bnd h) fun i hi h => ?_
        refine o_EA (bnd h) fun a ha h => ?_
        refine o_EA (bnd h) fun as has h => ?_
        wide_open using h
        exact s_meth O (ihE σ) hc hi ha has
      | Name x q =>
        refine o_EA (bnd h) fun a ha h => ?_
        refine o_EA (bnd h) fun as has h => ?_
        wide_open using h
        exact s_call O (ihE σ) ha has
      | _ => wide_open using h
  | Attribute o name p =>
    obtain ⟨hb, h⟩ := cnd h
    refine o_EA (bnd h) fun i hi h => ?_
    refine o_EA (bnd h) fun a ha h => ?_
    wide_open using h
    exact s_attr O (ihE σ) hb hi ha
  | Subscript o i p =>
    have sub : (∀ l u st q, i ≠ .Slice l u st q) → (trE W.AT W.globs k σ o).bind (fun a => (trE W.AT W.globs k σ i).bind fun b => some (.sub a b)) = some ce → SE W σ (.Subscript o i p) ce := fun hns h => by
      refine o_EA (bnd h) fun a ha h => ?_
      refine o_EA (bnd h) fun b hb h => ?_
      wide_open using h
      exact s_sub (ihE σ) hns ha hb
    cases i with
    | Slice l u st q =>
      refine o_EA (bnd h) fun a ha h => ?_
      refine o_EA (bnd h) fun cl hl h => ?_
      refine o_EA (bnd h) fun cu hu h => ?_
      refine o_EA (bnd h) fun cst hst h => ?_
      wide_open using h
      exact s_slice (ihE σ) ha hl hu hst
    | _ => exact sub (fun z9 z9 z9 z9 z => by wide_open using z) h
  | List es p =>
    obtain ⟨hl, h⟩ := cnd h
    refine o_EA (mpd h) fun as has e93 => ?_; subst e93
    exact s_list (ihE σ) (of_decide_eq_true hl) has
  | Tuple es j p =>
    obtain ⟨hl, h⟩ := cnd h
    refine o_EA (mpd h) fun as has e93 => ?_; subst e93
    exact s_tup (ihE σ) (of_decide_eq_true hl) has
  | Dict ks vs p =>
    obtain ⟨hc, h⟩ := cnd h
    simp only [Bool.and_eq_true, beq_iff_eq, decide_eq_true_eq] at hc
    refine o_EA (bnd h) fun js hjs h => ?_
    refine o_EA (mpd h) fun as has e93 => ?_; subst e93
    intro A n cs cd env m H G s K I D R w
    exact dict_ok O (ihE σ) has hjs hc.1 hc.2 I D R w
  | ListComp elt gens scope p => exact s_lc ihE ihB h
  | _ => wide_open using h
end Mine
end
section
open PySem PySem.W PySem.Calls PyProof.Rows
namespace Mine
variable {W : Wd} {n : Nat} {A : Around} {H G : GH} {s : Shared} {mg mb : Str → Option Value}
theorem tr_ok {σ : Sg} {e : Expr} {a : CE} (ih : SE W σ e a) (he : ∀ env whole, isTrue e env whole = (do let v ← whole; standAt e.pos; holding [v] (truthy v))) : SB W σ e (.tr a) := by
  intro A n cs cd env m H G s K I D R w
  refine wpAny_isTrue_value (wpAny_mono (ih.use I D R w) (fun v s1 q => ?_) fun z9 z9 z => z) (he _ _)
  refine o_EAA q fun G1 D1 R1 w1 => ?_; try clear q
  exact truth_ok rfl D1 R1 w1
theorem plain_test {e : Expr} (h : plainTest e = true) (env : Env) (whole : Sem Value) : isTrue e env whole = (do let v ← whole; standAt e.pos; holding [v] (truthy v)) := by
  cases e <;> first | rfl | wide_open using h
theorem sound_stepB (k : Nat) (ihE : ∀ σ e ce, trE W.AT W.globs k σ e = some ce → SE W σ e ce) (ihB : ∀ σ e cb, trB W.AT W.globs k σ e = some cb → SB W σ e cb) (σ : Sg) (e : Expr) (cb : CB) (h : trB W.AT W.globs (k + 1) σ e = some cb) : SB W σ e cb := by
  have h : (bif plainTest e then (trE W.AT W.globs k σ e).map .tr else _) = some cb := h
  cases hp : plainTest e with
  | true =>
    rw [hp] at h
    refine o_EA (mpd h) fun a ha e93 => ?_; subst e93
    exact tr_ok (ihE _ _ _ ha) (plain_test hp)
  | false =>
    rw [hp] at h
    cases e with
    | UnaryOp op x p =>
      cases op with
      | Not =>
        refine o_EA (mpd h) fun a ha e93 => ?_; subst e93
        intro A n cs cd env m H G s K I D R w
        wide_open with arm_isTrue_UnaryOp
        refine wpAny_bind (wpAny_mono ((ihB _ _ _ ha).use I D R w) (fun t s1 q => ?_) fun z9 z9 z => z)
        exact wpAny_pure q
      | _ =>
        refine o_EA (mpd h) fun a ha e93 => ?_; subst e93
        exact tr_ok (ihE _ _ _ ha) fun z9 z9 => rfl
    | BoolOp op vs p =>
      refine o_EA (bnd h) fun as has h => ?_
      intro A n cs cd env m H G s K I D R w
      wide_open with arm_isTrue_BoolOp
      exact allTrue_ok (ihB σ) _ _ _ has h _ _ _ _ _ _ _ _ _ _ I D R w
    | IfExp t a b p =>
      refine o_EA (bnd h) fun ct ht h => ?_
      refine o_EA (bnd h) fun ca ha h => ?_
      refine o_EA (bnd h) fun cb hb h => ?_
      wide_open using h
      intro A n cs cd env m H G s K I D R w
      wide_open with arm_isTrue_IfExp
      refine wpAny_bind (wpAny_mono ((ihB _ _ _ ht).use I D R w) (fun x s1 q => ?_) fun z9 z9 z => z)
      refine o_EAA q fun G1 D1 R1 w1 => ?_; try clear q
      cases x with
      | true => exact (ihB _ _ _ ha).use I D1 R1 w1
      | false => exact (ihB _ _ _ hb).use I D1 R1 w1
    | Compare l ops rs p => exact (s_cmp (ihE σ) h).2
    | Starred _ _ => wide_open using h
    | _ => wide_open using hp
theorem sound (O : WdOK W mg mb) : ∀ k, (∀ σ e ce, trE W.AT W.globs k σ e = some ce → SE W σ e ce) ∧ (∀ σ e cb, trB W.AT W.globs k σ e = some cb → SB W σ e cb)
  | 0 => ⟨(fun σ e ce h => by wide_open using h), (fun σ e cb h => by wide_open using h)⟩
  | k + 1 => ⟨sound_step O k (sound O k).1 (sound O k).2, sound_stepB k (sound O k).1 (sound O k).2⟩
end Mine
end
section
open PySem PySem.W PySem.Calls PyProof.Rows
namespace Mine
variable {W : Wd} {n : Nat} {A : Around} {H G : GH} {s : Shared} {mg mb : Str → Option Value}
noncomputable def notComp (e : Expr) : Bool := e.ctorIdx != 8 && e.ctorIdx != 9 && e.ctorIdx != 10
noncomputable def isTupleE (e : Expr) : Bool := e.ctorIdx == 25
noncomputable def isSlice (e : Expr) : Bool := e.ctorIdx == 26
noncomputable def hasCell (σ : Sg) (es : List Expr) : Bool := es.any fun
  | .Name x _ => σ.names.lookup x == some .cell || σ.names.lookup x == some .free
  | _ => false
noncomputable def plainArgs : Arguments → Bool
  | ⟨[], as, none, [], [], none, []⟩ => as.all (·.annotation.isNone)
  | _ => false
noncomputable def trA (AT : Names) (fE : Expr → Option CE) (σ : Sg) (t v : Expr) : Option CS := match t with
  | .Name x p => (fE v).bind fun e => (trT σ (.Name x p)).bind fun t => some (.set t e)
  | .Tuple es j p => bif notComp v && (!isTupleE v || hasCell σ es) then (fE v).bind fun e => (trT σ (.Tuple es j p)).bind fun t => some (.set t e) else none
  | .Attribute o name _ => (AT.idxOf? name).bind fun i => (fE v).bind fun e => (fE o).bind fun o => some (.seta o i e)
  | .Subscript o i _ => bif isSlice i then none else (fE v).bind fun e => (fE o).bind fun o => (fE i).bind fun i => some (.seti o i e)
  | _ => none
noncomputable def stepS (AT : Names) (fE : Expr → Option CE) (fB : Expr → Option CB) (fS : Stmt → Option CS) (σ : Sg) : Stmt → Option CS
  | .Expr v _ => bif notComp v then (fE v).map .expr else none
  | .Pass _ => some (.expr (.val .none))
  | .Return v _ => (trO fE v).map .ret
  | .Assign ts v _ => (match ts with
    | [] => none
    | t :: r => bif r.isEmpty then trA AT fE σ t v else none)
  | .If t a b _ => (fB t).bind fun t => (trL fS a).bind fun a => (trL fS b).bind fun b => some (.ite t a b)
  | .While t b e _ => bif e.isEmpty then (fB t).bind fun t => (trL fS b).bind fun b => some (.while t b) else none
  | .For t it b e _ => bif e.isEmpty && notSet it then (trT σ t).bind fun t => (fE it).bind fun it => (trL fS b).bind fun b => some (.for t it b) else none
  | .Continue _ => some .cont
  | .FunctionDef name args body decs ret typs scope tscope bind pos => bif plainArgs args && bind == name && decs.isEmpty && ret.isNone && typs.isEmpty && tscope.isNone then (trP σ name).bind fun p => some (.fdef p (.FunctionDef name args body [] none [] scope none name pos)) else none
  | _ => none
noncomputable def trS (AT : Names) (gl : List (Str × Value)) (k : Nat) : Nat → Sg → Stmt → Option CS
  | 0, _, _ => none
  | n + 1, σ, st => stepS AT (trE AT gl k σ) (trB AT gl k σ) (trS AT gl k n σ) σ st
inductive FlR : Flow → Fl → Prop
  | next : FlR .next .next
  | cont : FlR .cont .cont
  | ret (v : Value) : FlR (.ret v) (.ret (er v))
noncomputable abbrev PostS (W : Wd) (H : GH) (L : Addr) (ls : List Str) (K : Fl → Mm → GH → Prop) (f : Flow) (s' : Shared) : Prop := ∃ fl m' G', FlR f fl ∧ Disj H G' ∧ W.R ((H.set L (.frame ls m')).un G') s' ∧ K fl m' G'
noncomputable def SS (W : Wd) (σ : Sg) (celn : List Str) (st : Stmt) (c : CS) : Prop := ∀ A n cs cd env m H G s (K : Fl → Mm → GH → Prop), In W A n σ cs cd env m H → Disj H G → W.R (H.un G) s → wpS W n cd celn cs c m G K →
  WP W A (exec st env) (PostS W H env.locals σ.locs K) s
theorem SS.use {σ celn st c} (h : SS W σ celn st c) {A n cs cd env m H G s} {K : Fl → Mm → GH → Prop} (I : In W A n σ cs cd env m H) (D : Disj H G) (R : W.R (H.un G) s) (w : wpS W n cd celn cs c m G K) : WP W A (exec st env) (PostS W H env.locals σ.locs K) s := h _ _ _ _ _ _ _ _ _ _ I D R w
theorem postS_set {L : Addr} {g : GO} {ls : List Str} {m : Mm} {K : Fl → Mm → GH → Prop} {f : Flow} (h : H L = some g) (q : PostS W (H.set L (.frame ls m)) L ls K f s) : PostS W H L ls K f s := by
  refine o_EEEAAA q fun fl m2 G2 hf D2 R2 w2 => ?_; try clear q
  rw [GH.set_set] at R2
  exact (i_EEEAAA fl m2 G2 hf (D2.unL h) R2 w2)
theorem seq_ok {σ : Sg} {celn : List Str} {f : Stmt → Option CS} (ih : ∀ st c, f st = some c → SS W σ celn st c) : ∀ (ss : List Stmt) (cs' : List CS), trL f ss = some cs' →
    ∀ A n cs cd env m H G s (K : Fl → Mm → GH → Prop), In W A n σ cs cd env m H → Disj H G → W.R (H.un G) s → wpSs W n cd celn cs cs' m G K → WP W A (execs ss env) (PostS W H env.locals σ.locs K) s
  | [], _, h, _, _, _, _, _, m, _, G, _, _, I, D, R, w => by
    wide_open using h
    exact wpAny_pure (i_EEEAAA .next m G .next D (by wide_open with I.same; exact R) w)
  | st :: ss, _, h, A, n, cs, cd, env, m, H, G, s, K, I, D, R, w => by
    refine o_EEAA (trL_cons h) fun c r h1 h2 e95 => ?_; subst e95
    refine wpAny_execs_cons (wpAny_mono ((ih st c h1).use I D R w) (fun f s1 q => ?_) fun z9 z9 z => z)
    refine o_EEEAAA q fun fl m1 G1 hf D1 R1 w1 => ?_; try clear q
    cases hf with
    | next => exact wpAny_mono (seq_ok ih ss r h2 _ _ _ _ _ _ _ _ _ _ (I.set (m' := m1)) (D1.setL I.loc) R1 w1) (fun f2 s2 q => postS_set I.loc q) fun z9 z9 z => z
    | cont => exact (i_EEEAAA .cont m1 G1 .cont D1 R1 w1)
    | ret v => exact (i_EEEAAA (.ret (er v)) m1 G1 (.ret v) D1 R1 w1)
theorem swaps_not {v : Expr} (h : notComp v = true) (t : Option Expr) (l : Nat) (env : Env) : swapsWith v t l env = pure false := by
  cases v <;> first | rfl | wide_open using h
theorem swaps_name {v : Expr} {x : Str} {p : Pos} (l : Nat) (env : Env) : ∃ b, swapsWith v (some (.Name x p)) l env = pure b ∧ (b = true → notComp v = false) := by
  cases hv : notComp v with
  | true => exact (i_EA false (swaps_not hv _ _ _) (fun h => by wide_open using h))
  | false => cases v <;> first | exact (i_EA _ rfl (fun z9 => rfl)) | cases hv
set_option tactic.hygienic true in
theorem swapped_none {σ : Sg} {cs : List Addr} {cd : Value} {env : Env} {es : List Expr} {x1 : Nat} {p : Pos} {v : Expr} (F : FrOK σ cs cd env) (h : (!isTupleE v || hasCell σ es) = true) : swappedStores [.Tuple es x1 p] v env = pure none := by
  unfold swappedStores
  cases v <;> try rfl
  rename_i vs x2 p2
  replace h : hasCell σ es = true := h
  dsimp only
  have key : (es.filterMap fun | .Name id pos => if (env.kindOf id == some .local && pos.line == (es.head?.map (·.pos.line)).getD 0) = true then some id else none | _ => none).length < es.length := by
    generalize (es.head?.map (·.pos.line)).getD 0 = line
    unfold hasCell at h
    induction es with
    | nil => wide_open using h
    | cons e r ih =>
      have le : ∀ (r : List Expr), (r.filterMap fun | .Name id pos => if (env.kindOf id == some .local && pos.line == line) = true then some id else none | _ => none).length ≤ r.length := fun r => List.length_filterMap_le _ _
      simp only [List.any_cons, Bool.or_eq_true] at h
      wide_open with List.filterMap_cons
      rcases h with h | h
      · cases e <;> try (wide_open using h; done)
        rename_i x px
        simp only [Bool.or_eq_true, beq_iff_eq] at h
        have hk := F.kcel x h
        have hn : (env.kindOf x == some .local) = false := by rcases hk with hk | hk <;> wide_open with hk <;> rfl
        simp only [hn, Bool.false_and, Bool.false_eq_true, if_false]
        exact Nat.lt_succ_of_le (le r)
      · have := ih h
        split
        · exact Nat.lt_succ_of_lt this
        · simpa using Nat.succ_lt_succ this
  split
  · rfl
  · split
    · rfl
    · wide_open with if_pos (by simp only [Bool.or_eq_true, bne_iff_ne, ne_eq]; left; exact Nat.ne_of_lt key)
theorem setItem_plain {l : Addr} {items : Array Value} {k : Int} {t : Tok} {v : Value} {Q : Unit → Shared → Prop} (hl : s.heap.PlainList l items) (h0 : 0 ≤ k) (hk : k < items.size) (hz : items.size ≤ sizeLine)
    (hQ : ∀ h', h'.PlainList l (items.setIfInBounds k.toNat v) → Heap.SameBut l s.heap h' → Q () { s with heap := h' }) : WP W A (setItem (.ref l) (.int k t) v) Q s := by
  have hi := hl.isList
  obtain ⟨m, hg⟩ := hl
  have hfit : k < 2 ^ 63 := by have := sizeLine_lt; lia
  unfold setItem
  refine wpAny_holding ?_
  refine wpAny_bind (wpAny_sequenceKey hi.typeIs (by decide) ?_)
  refine wpAny_bind (wpAny_callSpecial?_slot (name := Str.ofString "__setitem__") hi.typeIs slot_list_setitem (wpAny_call_entry slot_list_setitem hi.typeIs entry_list_setitem ?_ (args_list_setitem _ _ _)))
  refine (?_ : wpAny _ _ (Builtin.List.listSubscript? (.int k t) >>= _) _ _ s)
  refine wpAny_bind (wpAny_listSubscript_int (fitsIndex_of h0 hfit) ?_)
  clear hfit
  obtain ⟨j, rfl⟩ := Int.eq_ofNat_of_zero_le h0
  have hj : j < items.size := by lia
  refine (?_ : wpAny _ _ ((seqItemAt l j >>= fun r => pure (r.map (j, ·))) >>= _) _ _ s)
  refine wpAny_bind (wpAny_bind (wpAny_seqItemAt hg rfl (wpAny_pure ?_)))
  wide_open with Array.getElem?_eq_getElem hj
  refine (?_ : wpAny _ _ (setSeqItemAt l j v >>= _) _ _ s)
  have fin : (s.heap.update l (Obj.mapSeq (·.setIfInBounds j v))).PlainList l (items.setIfInBounds j v) := by
    refine ⟨m, ?_⟩
    wide_open with Heap.get?_update_self _ hg rfl
    simp [Obj.mapSeq]
  refine wpAny_bind (wpAny_setSeqItemAt hg rfl ?_)
  have last := hQ _ fin (Heap.SameBut.update ..)
  first
    | exact wpAny_pure (i_EA .none rfl (wpAny_pure last))
    | exact wpAny_bind (wpAny_pure (wpAny_pure ⟨.none, rfl, wpAny_pure last⟩))
set_option tactic.hygienic true in
theorem seti_ok {vo vi v o i : Value} {K : GH → Prop} (ho : er vo = o) (hi : er vi = i) (D : Disj H G) (R : W.R (H.un G) s) (h : setiG o i (er v) G K) : WP W A (setItem vo vi v) (Post W H fun z9 => K) s := by
  subst ho hi
  generalize hev : er v = ev at h
  cases vo with
  | ref a =>
    cases vi with
    | int k u =>
      simp only [setiG, er] at h
      subst hev
      split at h
      · rename_i xs hg
        refine o_EA h fun ys h1 h2 => ?_; try clear h
        refine o_EAA (R.list (GH.un_right hg)) fun vs hl e93 hz => ?_; subst e93
        unfold setIdx at h1
        split at h1
        · rename_i hb
          wide_open using h1
          simp only [List.length_map, Array.length_toList] at hb
          have hlt : k.toNat < vs.size := by lia
          refine setItem_plain hl hb.1 hb.2 hz fun h' hl' hs => (i_EAA _ (D.setG (D.right hg)) ?_ h2)
          wide_open with GH.un_set
          refine R.ext (GH.un_right hg) rfl rfl hs.extBut fun d z9 => (i_EAA _ hl' ?_ (by simpa using hz))
          simp [List.map_set, er]
        · wide_open using h1
      · rename_i es ep hg
        obtain ⟨h1, h2⟩ := h
        refine o_EEAAA (R.at (GH.un_right hg)) fun z9 kvs hd he hz hne => ?_
        have hlen : kvs.length ≤ 4000000 := by rw [← he] at h1; simpa [small] using h1
        refine wpAny_setItem_pairs (knd := intKind W.prog W.w) (k := k) (by simp [intKind, Value.isInt]) hd.dictOf (fun h' hd' hsb => ?_) (by wide_open with sizeLine_eq; lia)
        obtain ⟨ep', ha⟩ := DictAt_of hd'
        refine (i_EAA _ (D.setG (D.right hg)) ?_ (h2 ep'))
        wide_open with GH.un_set
        refine R.ext (GH.un_right hg) rfl rfl hsb.extBut fun dd z9 => (i_EAAA _ ha ?_ ?_ hne)
        · (wide_line using put_map; wide_open with he)
        · have := stored_len kvs k v; wide_open with sizeLine_eq; lia
      · exact h.elim
    | _ => exact h.elim
  | _ => exact h.elim
end Mine
end
section
open PySem PySem.W PySem.Calls PyProof.Rows
namespace Mine
variable {W : Wd} {n : Nat} {A : Around} {H G : GH} {s : Shared} {mg mb : Str → Option Value}
theorem while_ok {σ : Sg} {celn : List Str} {f : Stmt → Option CS} (ih : ∀ st c, f st = some c → SS W σ celn st c) {t : Expr} {body : List Stmt} {pos : Pos} {ct : CB} {cb : List CS}
    (ht : SB W σ t ct) (hb : trL f body = some cb) : SS W σ celn (.While t body [] pos) (.while ct cb) := by
  intro A n cs cd env m H G s K I D R w
  refine o_EEA w fun Inv j0 h0 step => ?_; try clear w
  refine wpAny_While ?_
  refine codeAny_whileLoop (fun j s => ∃ m G, Disj H G ∧ W.R ((H.set env.locals (.frame σ.locs m)).un G) s ∧ Inv j m G) (fun j s hI => ?_) j0 (i_EEAA m G D (by wide_open with I.same; exact R) h0)
  refine o_EEAA hI fun m1 G1 D1 R1 hi => ?_; try clear hI
  have I1 := I.set (m' := m1)
  refine wpAny_mono (ht.use I1 (D1.setL I.loc) R1 (step j m1 G1 hi)) (fun b s2 q => ?_) fun z9 z9 z => z.elim
  refine o_EAA q fun G2 D2 R2 w2 => ?_; try clear q
  cases b with
  | true =>
    wide_open with if_pos rfl
    refine wpAny_mono (seq_ok ih body cb hb _ _ _ _ _ _ _ _ _ _ I1 D2 R2 w2) (fun f s3 q => ?_) fun z9 z9 z => z.elim
    refine o_EEEAAA q fun fl m3 G3 hf D3 R3 w3 => ?_; try clear q
    rw [GH.set_set] at R3
    cases hf with
    | next => refine o_EA w3 fun i hi w3 => ?_; exact (i_EAEEAA i hi m3 G3 (D3.unL I.loc) R3 w3)
    | cont => refine o_EA w3 fun i hi w3 => ?_; exact (i_EAEEAA i hi m3 G3 (D3.unL I.loc) R3 w3)
    | ret v => exact (i_EEEAAA (.ret (er v)) m3 G3 (.ret v) (D3.unL I.loc) R3 w3)
  | false =>
    simp only [Bool.false_eq_true, if_false]
    exact wpAny_pure (i_EEEAAA .next m1 G2 .next (D2.unL I.loc) R2 w2)
theorem forLoop_ok {σ : Sg} {celn : List Str} {f : Stmt → Option CS} (ih : ∀ st c, f st = some c → SS W σ celn st c) {t : Expr} {body : List Stmt} {ct : CT} {cb : List CS} {cs : List Addr} {cd : Value} {env : Env} {m : Mm} {Ia : Addr} {ik : IterK} {xs : List Value} {chk : GH → Prop} {K : Fl → Mm → GH → Prop}
    (ht : trT σ t = some ct) (hb : trL f body = some cb) (I : In W A n σ cs cd env m H) (hI0 : H Ia = none) (D : Disj (H.set Ia (.iter ik)) G) (R : W.R ((H.set Ia (.iter ik)).un G) s) (hr : ik.Rel xs chk)
    (w : forG chk (fun x m G k => setT cs ct x m G fun m' G' => wpSs W n cd celn cs cb m' G' k) xs m G K) :
    codeAny W.M A (.forLoop t (.ref Ia) body [] env) (fun r s' => ∃ f, r = .ok f ∧ PostS W H env.locals σ.locs K f s') s := by
  have hLI : env.locals ≠ Ia := by intro e; have := I.loc; rw [e, hI0] at this; wide_open using this
  refine codeAny_loop' rfl (fun q s => ∃ xs m ik G, q = xs.length ∧ Disj ((H.set env.locals (.frame σ.locs m)).set Ia (.iter ik)) G ∧ W.R (((H.set env.locals (.frame σ.locs m)).set Ia (.iter ik)).un G) s ∧ ik.Rel xs chk ∧
    forG chk (fun x m G k => setT cs ct x m G fun m' G' => wpSs W n cd celn cs cb m' G' k) xs m G K) ?_ xs.length (i_EEEEAAAA xs m ik G rfl (by wide_open with I.same; exact D) (by wide_open with I.same; exact R) hr w)
  clear w hr R D
  intro q s hx9; refine o_EEEEAAAA hx9 fun xs m ik G e95 D R hr w => ?_; try clear hx9; subst e95
  show wpAny _ A ((forTurn t (.ref Ia) body [] env).onRaise (fun x => do noteFrame x env; theTreesLotGoes x)) _ _ s
  refine wpAny_noted ?_
  simp only [forTurn]
  refine wpAny_bind (wpAny_standAt (wpAny_bind (wpAny_onRaise ?_)))
  have gI : G Ia = none := D.left (GH.set_self _ _ _)
  have unI : ∀ {m' ik'}, ((H.set env.locals (.frame σ.locs m')).set Ia (.iter ik')).del Ia = H.set env.locals (.frame σ.locs m') := fun {m' ik'} => by
    funext a; simp only [GH.del, GH.set]
    by_cases e : a = Ia
    · subst e; simp [hI0, Ne.symm hLI]
    · simp [e]
  have unD : ∀ {m' ik' G'}, Disj ((H.set env.locals (.frame σ.locs m')).set Ia (.iter ik')) G' → Disj H G' := fun {m' ik' G'} D a ha => by
    have := D a ha
    by_cases e : a = Ia
    · subst e; exact hI0
    · rw [GH.set_ne _ _ e] at this
      by_cases e2 : a = env.locals
      · subst e2; wide_line with GH.set_self using this
      · rwa [GH.set_ne _ _ e2] at this
  cases xs with
  | nil =>
    obtain ⟨w1, w2⟩ := w
    refine wpAny_mono (next_end I.room.1 D R (GH.set_self _ _ _) hr w1) (fun r s1 q => ?_) fun z9 z9 z => z.elim
    obtain ⟨rfl, R1⟩ := q
    rw [unI] at R1
    exact wpAny_pure (.inr ⟨rfl, codeAny_block (wpAny_pure (i_EAEEEAAA .next rfl .next m G .next (unD D) R1 w2))⟩)
  | cons x xs =>
    obtain ⟨w1, w2⟩ := w
    refine wpAny_mono (next_item D R (GH.set_self _ _ _) hr w1) (fun r s1 q => ?_) fun z9 z9 z => z.elim
    refine o_EEAAA q fun v ik' e93 e94 hr' R1 => ?_; try clear q; subst e93; subst e94
    rw [GH.set_set] at R1
    have D1 : Disj ((H.set env.locals (.frame σ.locs m)).set Ia (.iter ik')) G := by
      have := D.setL (L := Ia) (o := .iter ik') (GH.set_self _ _ _)
      rwa [GH.set_set] at this
    have I1 : In W A n σ cs cd env m ((H.set env.locals (.frame σ.locs m)).set Ia (.iter ik')) := ⟨I.room, I.fr, by wide_open with GH.set_ne _ _ hLI; exact GH.set_self _ _ _⟩
    refine wpAny_bind (wpAny_mono (letOwned_ok (Q := fun z9 s' => s' = s1) D1 R1 (GH.set_self _ _ _) rfl) (fun z9 s' q => ?_) fun z9 z9 z => z.elim)
    subst q
    refine wpAny_bind (wpAny_mono (assign_ok I1 D1 R1 ht w2) (fun z9 s2 q => ?_) fun z9 z9 z => z.elim)
    refine o_EEAA q fun m2 G2 D2 R2 w3 => ?_; try clear q
    have comm : ∀ {m m' : Mm}, ((H.set env.locals (.frame σ.locs m)).set Ia (.iter ik')).set env.locals (.frame σ.locs m') = (H.set env.locals (.frame σ.locs m')).set Ia (.iter ik') := fun {m m'} => by
      (wide_line using GH.set_comm _ _ _ (Ne.symm hLI); wide_open with GH.set_set)
    rw [comm] at R2
    have D2' : Disj ((H.set env.locals (.frame σ.locs m2)).set Ia (.iter ik')) G2 := by
      have := D2.setL (L := env.locals) (o := .frame σ.locs m2) I1.loc
      rwa [comm] at this
    have I2 : In W A n σ cs cd env m2 ((H.set env.locals (.frame σ.locs m2)).set Ia (.iter ik')) := ⟨I.room, I.fr, by wide_open with GH.set_ne _ _ hLI; exact GH.set_self _ _ _⟩
    refine wpAny_bind (wpAny_mono (seq_ok ih body cb hb _ _ _ _ _ _ _ _ _ _ I2 D2' R2 w3) (fun f s3 q => ?_) fun z9 z9 z => z.elim)
    refine o_EEEAAA q fun fl m3 G3 hf D3 R3 w4 => ?_; try clear q
    rw [comm] at R3
    have D3' : Disj ((H.set env.locals (.frame σ.locs m3)).set Ia (.iter ik')) G3 := by
      have := D3.setL (L := env.locals) (o := .frame σ.locs m3) I2.loc
      rwa [comm] at this
    cases hf with
    | next => exact wpAny_pure (.inl (i_AEAEEEEAAAA rfl xs.length (by simp) xs m3 ik' G3 rfl D3' R3 hr' w4))
    | cont => exact wpAny_pure (.inl (i_AEAEEEEAAAA rfl xs.length (by simp) xs m3 ik' G3 rfl D3' R3 hr' w4))
    | ret v =>
      have gI3 : G3 Ia = none := D3'.left (GH.set_self _ _ _)
      have R4 := R3.drop (U' := (H.set env.locals (.frame σ.locs m3)).un G3) fun a g e => by
        cases hg : G3 a with
        | some g3 => rw [GH.un_right hg] at e ⊢; exact e
        | none =>
          rw [GH.un_left hg] at e ⊢
          have : a ≠ Ia := by
            rintro rfl
            rw [GH.set_ne _ _ (Ne.symm hLI), hI0] at e; wide_open using e
          wide_open with GH.set_ne _ _ this; exact e
      exact wpAny_pure (i_EAEEEAAA (.ret v) rfl (.ret (er v)) m3 G3 (.ret v) (unD D3') R4 w4)
theorem for_ok {σ : Sg} {celn : List Str} {f : Stmt → Option CS} (ih : ∀ st c, f st = some c → SS W σ celn st c) {t it : Expr} {body : List Stmt} {pos : Pos} {ct : CT} {ci : CE} {cb : List CS}
    (hs : notSet it = true) (ht : trT σ t = some ct) (hi : SE W σ it ci) (hb : trL f body = some cb) : SS W σ celn (.For t it body [] pos) (.for ct ci cb) := by
  intro A n cs cd env m H G s K I D R w
  refine wpAny_For (wpAny_mono (hi.use I D R w) (fun x s1 q => ?_) fun z9 z9 z => z) (fun x => by cases it <;> first | rfl | wide_open using hs)
  refine o_EAA q fun G1 D1 R1 w1 => ?_; try clear q
  refine wpAny_mono (iter_ok rfl D1 R1 w1) (fun r s2 q => ?_) fun z9 z9 z => z
  refine o_EEEEAAAAAA q fun Ia ik xs chk e95 hIa gIa R2 hr hchk w2 => ?_; try clear q; subst e95
  refine codeAny_mono (forLoop_ok ih ht hb I hIa (D1.setH gIa) R2 hr w2) fun r s3 q => ?_
  obtain ⟨f, rfl, q⟩ := q
  exact q
end Mine
end
section
open PySem PySem.W PySem.Calls PyProof.Rows
namespace Mine
variable {W : Wd} {n : Nat} {A : Around} {H G : GH} {s : Shared} {mg mb : Str → Option Value}
theorem ann_nil (env : Env) : ∀ (as : List Arg), as.all (·.annotation.isNone) = true → annotationsOf as env = []
  | [], _ => rfl
  | ⟨x, none, p⟩ :: r, h => by wide_open with arm_annotationsOf_cons_2; exact ann_nil env r h
  | ⟨x, some e, p⟩ :: r, h => by wide_open using h
theorem fdef_ok {σ : Sg} {celn : List Str} {name : Str} {args : Arguments} {body : List Stmt} {scope : Scope} {pos : Pos} {p : CP} (hce : celn = σ.cels) (ha : plainArgs args = true) (hp : trP σ name = some p) :
    SS W σ celn (.FunctionDef name args body [] none [] scope none name pos) (.fdef p (.FunctionDef name args body [] none [] scope none name pos)) := by
  intro A n cs cd env m H G s K I D R w
  wide_open with exec_def
  have hd : defaultsOf args env = ([], []) ∧ annTrees args none env = [] := by
    obtain ⟨po, as, va, ko, kd, kw, de⟩ := args
    rcases po with _ | _
    · rcases va with _ | _
      · rcases ko with _ | _
        · rcases kd with _ | _
          · rcases kw with _ | _
            · rcases de with _ | _
              · refine ⟨rfl, ?_⟩
                unfold annTrees
                refine (?_ : annotationsOf (as ++ [] ++ [] ++ [] ++ []) env ++ _ = [])
                simp only [List.append_nil]
                wide_open with ann_nil env as ha
                rfl
              · wide_open using ha
            · wide_open using ha
          · wide_open using ha
        · wide_open using ha
      · wide_open using ha
    · wide_open using ha
  (wide_line using hd.1; wide_open with hd.2)
  refine wpAny_bind (wpAny_standAt (wpAny_bind (wpAny_holding ?_)))
  refine wpAny_bind (wpAny_pure (wpAny_bind (wpAny_holding (wpAny_pure (wpAny_holding (wpAny_bind (wpAny_pure ?_)))))))
  refine wpAny_mono (w A env I.room I.fr.kind I.fr.glob I.fr.blt I.fr.code (by wide_open with hce; exact I.fr.cel) H s trivial D R) (fun f s1 q => ?_) fun z9 z9 z => z
  refine o_EAA q fun G1 D1 R1 w1 => ?_; try clear q
  refine wpAny_bind (wpAny_standAt (wpAny_bind (wpAny_bindName (wpAny_mono (store_ok I D1 R1 hp w1) (fun z9 s2 q => ?_) fun z9 z9 z => z))))
  refine o_EEAA q fun m' G2 D2 R2 w2 => ?_; try clear q
  exact wpAny_pure (i_EEEAAA .next m' G2 .next D2 R2 w2)
theorem assign_sts {σ : Sg} {cs : List Addr} {cd : Value} {env : Env} {m : Mm} {t : Expr} {ct : CT} {v : Value} {K : Fl → Mm → GH → Prop} (I : In W A n σ cs cd env m H) (D : Disj H G) (R : W.R (H.un G) s)
    (ht : trT σ t = some ct) (hsep : (assignEach [t] env).map (·.2) = [assign t env]) (h : setT cs ct (er v) m G fun m' G' => K .next m' G') :
    WP W A (assignStores env v none ((assignEach [t] env).map (·.2))) (PostS W H env.locals σ.locs K) s := by
  wide_open with hsep
  refine (?_ : WP W A (assign t env v >>= fun z9 => (pure Flow.next : Sem Flow)) _ s)
  refine wpAny_bind (wpAny_mono (assign_ok I D R ht h) (fun z9 s2 q => ?_) fun z9 z9 z => z)
  refine o_EEAA q fun m' G2 D2 R2 w2 => ?_; try clear q
  exact wpAny_pure (i_EEEAAA .next m' G2 .next D2 R2 w2)
section
variable {σ : Sg} {celn : List Str} {pos : Pos}
theorem s_ret {f : Expr → Option CE} (ih : ∀ e ce, f e = some ce → SE W σ e ce) {v : Option Expr} {c : CE} (h : trO f v = some c) : SS W σ celn (.Return v pos) (.ret c) := fun A n cs cd env m H G s K I D R w => by
  cases v with
  | none => wide_open using h; exact wpAny_Return_none (i_EEEAAA (.ret .none) m G (.ret .none) D (by wide_open with I.same; exact R) w)
  | some e =>
    refine wpAny_Return_some (wpAny_mono ((ih e c h).use I D R w) (fun v s1 q => ?_) fun z9 z9 z => z)
    refine o_EAA q fun G1 D1 R1 w1 => ?_; try clear q
    exact (i_EEEAAA (.ret (er v)) m G1 (.ret v) D1 (by wide_open with I.same; exact R1) w1)
theorem s_expr {v : Expr} {c : CE} (hn : notComp v = true) (hv : SE W σ v c) : SS W σ celn (.Expr v pos) (.expr c) := fun A n cs cd env m H G s K I D R w => by
  refine wpAny_Expr_any (wpAny_mono (hv.use I D R w) (fun v s1 q => ?_) fun z9 z9 z => z) (by unfold interactive; wide_open with I.fr.kind; rfl) (swaps_not hn _ _ _)
  refine o_EAA q fun G1 D1 R1 w1 => ?_; try clear q
  exact (i_EEEAAA .next m G1 .next D1 (by wide_open with I.same; exact R1) w1)
theorem s_if {t : Expr} {a b : List Stmt} {ct : CB} {ca cb : List CS} {f : Stmt → Option CS} (ih : ∀ st c, f st = some c → SS W σ celn st c) (ht : SB W σ t ct) (ha : trL f a = some ca) (hb : trL f b = some cb) : SS W σ celn (.If t a b pos) (.ite ct ca cb) := fun A n cs cd env m H G s K I D R w => by
  refine wpAny_If (wpAny_mono (ht.use I D R w) (fun x s1 q => ?_) fun z9 z9 z => z)
  refine o_EAA q fun G1 D1 R1 w1 => ?_; try clear q
  cases x with
  | true => exact seq_ok ih _ _ ha _ _ _ _ _ _ _ _ _ _ I D1 R1 w1
  | false => exact seq_ok ih _ _ hb _ _ _ _ _ _ _ _ _ _ I D1 R1 w1
theorem s_tuple {es : List Expr} {j : Nat} {p : Pos} {v : Expr} {t : CT} {e : CE} (hc : notComp v = true) (hs : (!isTupleE v || hasCell σ es) = true) (he : SE W σ v e) (ht : trT σ (.Tuple es j p) = some t) : SS W σ celn (.Assign [.Tuple es j p] v pos) (.set t e) := fun A n cs cd env m H G s K I D R w => by
  wide_open with arm_exec_Assign
  refine wpAny_bind (wpAny_standAt ?_)
  refine (?_ : WP W A (swapsWith v (some (.Tuple es j p)) pos.line env >>= _) _ s)
  wide_open with swaps_not hc
  refine wpAny_bind (wpAny_pure ?_)
  refine wpAny_bind (wpAny_mono (he.use I D R w) (fun v1 s1 q => ?_) fun z9 z9 z => z)
  refine o_EAA q fun G1 D1 R1 w1 => ?_; try clear q
  wide_open with swapped_none I.fr hs
  exact wpAny_bind (wpAny_pure (assign_sts I D1 R1 ht rfl w1))
theorem s_attrS (O : WdOK W mg mb) {o v : Expr} {name : Str} {p : Pos} {i : Nat} {e ob : CE} (hi : W.AT.idxOf? name = some i) (he : SE W σ v e) (ho : SE W σ o ob) : SS W σ celn (.Assign [.Attribute o name p] v pos) (.seta ob i e) := fun A n cs cd env m H G s K I D R w => by
  wide_open with arm_exec_Assign
  refine wpAny_bind (wpAny_standAt ?_)
  have hsw : swapsWith v (some (.Attribute o name p)) pos.line env = pure false := by cases v <;> rfl
  refine (?_ : WP W A (swapsWith v (some (.Attribute o name p)) pos.line env >>= _) _ s)
  wide_open with hsw
  refine wpAny_bind (wpAny_pure ?_)
  refine wpAny_bind (wpAny_mono (he.use I D R w) (fun v1 s1 q => ?_) fun z9 z9 z => z)
  refine o_EAA q fun G1 D1 R1 w1 => ?_; try clear q
  refine wpAny_bind (wpAny_pure ?_)
  refine (?_ : WP W A (assign (.Attribute o name p) env v1 >>= fun z9 => (pure Flow.next : Sem Flow)) _ s1)
  wide_open with arm_assign_Attribute
  refine wpAny_bind (wpAny_bind (wpAny_holding (wpAny_mono (ho.use I D1 R1 w1) (fun ov s2 q => ?_) fun z9 z9 z => z)))
  refine o_EAA q fun G2 D2 R2 w2 => ?_; try clear q
  refine wpAny_bind (wpAny_standAt (wpAny_bind (wpAny_holding (wpAny_mono (seta_ok O rfl (AT_of hi) D2 R2 w2) (fun z9 s3 q => ?_) fun z9 z9 z => z))))
  refine o_EAA q fun G3 D3 R3 w3 => ?_; try clear q
  exact wpAny_release (wpAny_pure (i_EEEAAA .next m G3 .next D3 (by wide_open with I.same; exact R3) w3))
theorem s_item {o i v : Expr} {p : Pos} {e ob ix : CE} (he : SE W σ v e) (ho : SE W σ o ob) (hi : SE W σ i ix) : SS W σ celn (.Assign [.Subscript o i p] v pos) (.seti ob ix e) := fun A n cs cd env m H G s K I D R w => by
  wide_open with arm_exec_Assign
  refine wpAny_bind (wpAny_standAt ?_)
  have hsw : swapsWith v (some (.Subscript o i p)) pos.line env = pure false := by cases v <;> rfl
  refine (?_ : WP W A (swapsWith v (some (.Subscript o i p)) pos.line env >>= _) _ s)
  wide_open with hsw
  refine wpAny_bind (wpAny_pure ?_)
  refine wpAny_bind (wpAny_mono (he.use I D R w) (fun v1 s1 q => ?_) fun z9 z9 z => z)
  refine o_EAA q fun G1 D1 R1 w1 => ?_; try clear q
  refine wpAny_bind (wpAny_pure ?_)
  refine (?_ : WP W A (assign (.Subscript o i p) env v1 >>= fun z9 => (pure Flow.next : Sem Flow)) _ s1)
  wide_open with arm_assign_Subscript
  refine wpAny_bind (wpAny_bind (wpAny_holding (wpAny_mono (ho.use I D1 R1 w1) (fun ov s2 q => ?_) fun z9 z9 z => z)))
  refine o_EAA q fun G2 D2 R2 w2 => ?_; try clear q
  refine wpAny_bind (wpAny_holding (wpAny_mono (hi.use I D2 R2 w2) (fun iv s3 q => ?_) fun z9 z9 z => z))
  refine o_EAA q fun G3 D3 R3 w3 => ?_; try clear q
  refine wpAny_bind (wpAny_standAt (wpAny_bind (wpAny_holding (wpAny_mono (seti_ok rfl rfl D3 R3 w3) (fun z9 s4 q => ?_) fun z9 z9 z => z))))
  refine o_EAA q fun G4 D4 R4 w4 => ?_; try clear q
  exact wpAny_release (wpAny_pure (i_EEEAAA .next m G4 .next D4 (by wide_open with I.same; exact R4) w4))
theorem s_nameS {k : Nat} {x : Str} {p : Pos} {v : Expr} {t : CT} {e : CE} (O : WdOK W mg mb) (he : trE W.AT W.globs k σ v = some e) (ht : trT σ (.Name x p) = some t) : SS W σ celn (.Assign [.Name x p] v pos) (.set t e) := fun A n cs cd env m H G s K I D R w => by
  wide_open with arm_exec_Assign
  refine wpAny_bind (wpAny_standAt ?_)
  refine o_EA (swaps_name (v := v) (x := x) (p := p) pos.line env) fun b hb hbc => ?_
  refine (?_ : WP W A (swapsWith v (some (.Name x p)) pos.line env >>= _) _ s)
  wide_open with hb
  refine wpAny_bind (wpAny_pure ?_)
  cases b with
  | false =>
    refine wpAny_bind (wpAny_mono (((sound O k).1 _ _ _ he).use I D R w) (fun v1 s1 q => ?_) fun z9 z9 z => z)
    refine o_EAA q fun G1 D1 R1 w1 => ?_; try clear q
    exact wpAny_bind (wpAny_pure (assign_sts I D1 R1 ht rfl w1))
  | true =>
    cases k with
    | zero => wide_open using he
    | succ k =>
      cases v with
      | ListComp elt gens scope pos2 =>
        refine lc_parts he fun tt iter ifs it ct cb cel caps e1 h1 h2 h3 hit hct hcb hel hcaps e2 => ?_
        subst e1 e2
        refine wpAny_bind (Q := PostS W H env.locals σ.locs K) ?_
        refine (?_ : WP W A (evalThenUse (.ListComp elt _ scope pos2) env fun v => assign (.Name x p) env v) _ s)
        unfold evalThenUse
        refine wpAny_bind (wpAny_mono (comp_use_ok I D R ((sound O k).1 _ _ _ hit) ((sound O k).1 _ _ _ hel) (hcb.imp id fun ⟨c, e, q⟩ => (i_EA c e ((sound O k).2 _ _ _ q))) hct h1 h2 h3 hcaps ht w) (fun z9 s1 q => wpAny_pure ?_) fun z9 z9 z => z)
        refine o_EEAA q fun m' G2 D2 R2 w2 => ?_; try clear q
        exact wpAny_pure (i_EEEAAA .next m' G2 .next D2 R2 w2)
      | SetComp _ _ _ _ => wide_open using he
      | DictComp _ _ _ _ _ => wide_open using he
      | _ => cases hbc rfl
end
theorem sound_S (O : WdOK W mg mb) (k : Nat) : ∀ j σ celn, celn = σ.cels → ∀ st c, trS W.AT W.globs k j σ st = some c → SS W σ celn st c
  | 0, σ, celn, _, st, c, h => by wide_open using h
  | j + 1, σ, celn, hce, st, c, h => by
    have ih := sound_S O k j σ celn hce
    have ihE := (sound O k).1 σ
    have ihB := (sound O k).2 σ
    cases st with
    | Expr v p =>
      obtain ⟨hn, h⟩ := cnd h
      refine o_EA (mpd h) fun e he e93 => ?_; subst e93
      exact s_expr hn (ihE _ _ he)
    | Pass p =>
      wide_open using h
      exact fun A n cs cd env m H G s K I D R w => wpAny_Pass (i_EEEAAA .next m G .next D (by wide_open with I.same; exact R) w)
    | Return v p =>
      refine o_EA (mpd h) fun e he e93 => ?_; subst e93
      exact s_ret ihE he
    | Assign ts v p =>
      cases ts with
      | nil => wide_open using h
      | cons t r =>
        cases r with
        | cons _ _ => wide_open using h
        | nil =>
          cases t with
          | Name x q =>
            refine o_EA (bnd h) fun e he h => ?_
            refine o_EA (bnd h) fun t ht h => ?_
            wide_open using h
            exact s_nameS O he ht
          | Tuple es i q =>
            obtain ⟨hc, h⟩ := cnd h
            refine o_EA (bnd h) fun e he h => ?_
            refine o_EA (bnd h) fun t ht h => ?_
            wide_open using h
            exact s_tuple (Bool.and_eq_true_iff.mp hc).1 (Bool.and_eq_true_iff.mp hc).2 (ihE _ _ he) ht
          | Attribute o name q =>
            refine o_EA (bnd h) fun i hi h => ?_
            refine o_EA (bnd h) fun e he h => ?_
            refine o_EA (bnd h) fun ob ho h => ?_
            wide_open using h
            exact s_attrS O hi (ihE _ _ he) (ihE _ _ ho)
          | Subscript o i q =>
            obtain ⟨_, h⟩ := cnd' h
            refine o_EA (bnd h) fun e he h => ?_
            refine o_EA (bnd h) fun ob ho h => ?_
            refine o_EA (bnd h) fun ix hi h => ?_
            wide_open using h
            exact s_item (ihE _ _ he) (ihE _ _ ho) (ihE _ _ hi)
          | _ => wide_open using h
    | If t a b p =>
      refine o_EA (bnd h) fun ct ht h => ?_
      refine o_EA (bnd h) fun ca ha h => ?_
      refine o_EA (bnd h) fun cb hb h => ?_
      wide_open using h
      exact s_if ih (ihB _ _ ht) ha hb
    | While t b e p =>
      cases e with
      | cons _ _ => wide_open using h
      | nil =>
        refine o_EA (bnd h) fun ct ht h => ?_
        refine o_EA (bnd h) fun cb hb h => ?_
        wide_open using h
        exact while_ok ih (ihB _ _ ht) hb
    | For t it b e p =>
      cases e with
      | cons _ _ => wide_open using h
      | nil =>
        obtain ⟨hs, h⟩ := cnd h
        refine o_EA (bnd h) fun ct ht h => ?_
        refine o_EA (bnd h) fun ci hi h => ?_
        refine o_EA (bnd h) fun cb hb h => ?_
        wide_open using h
        exact for_ok ih hs ht (ihE _ _ hi) hb
    | Continue p =>
      wide_open using h
      exact fun A n cs cd env m H G s K I D R w => wpAny_Continue (i_EEEAAA .cont m G .cont D (by wide_open with I.same; exact R) w)
    | FunctionDef name args body decs ret typs scope tscope bind pos =>
      obtain ⟨hc, h⟩ := cnd h
      refine o_EA (bnd h) fun p hp h => ?_
      wide_open using h
      cases tscope with
      | some _ => cases (Bool.and_eq_true_iff.mp hc).2
      | none =>
        obtain ⟨hc, h4⟩ := Bool.and_eq_true_iff.mp (Bool.and_eq_true_iff.mp hc).1
        obtain ⟨hc, h3⟩ := Bool.and_eq_true_iff.mp hc
        obtain ⟨hc, h2⟩ := Bool.and_eq_true_iff.mp hc
        obtain ⟨h0, h1⟩ := Bool.and_eq_true_iff.mp hc
        obtain rfl := eq_of_beq h1
        obtain rfl := List.isEmpty_iff.mp h2
        obtain rfl := List.isEmpty_iff.mp h4
        cases ret with
        | some _ => wide_open using h3
        | none => exact fdef_ok hce h0 hp
    | _ => wide_open using h
end Mine
end
section
open PySem PySem.W PySem.Calls PyProof.Rows
namespace Mine
variable {W : Wd} {n : Nat} {A : Around} {H G : GH} {s : Shared} {mg mb : Str → Option Value}
noncomputable def GH.empty : GH := fun z9 => none
theorem Repr.grow {prog w AT B os₀} {U N : GH} (R : Repr prog w AT B os₀ U s) {h' : Heap} {tk : Nat} {dr : Drawn} (hk : ∀ b o, s.heap.get? b = some o → h'.get? b = some o)
    (hN : ∀ a g, N a = some g → s.heap.objs.size ≤ a ∧ g.isInst = false ∧ ∀ d, Own prog w AT h' d a g) : Repr prog w AT B os₀ (GH.un U N) ⟨h', s.gens, dr, tk, s.os⟩ := by
  have lt := fun {a g} (e : U a = some g) => R.lt e
  have fb := fun {a : Addr} (ha : s.heap.objs.size ≤ a) => R.freshB ha
  obtain ⟨d, k, o, i, gn, os⟩ := R
  have low : ∀ {b C fs}, (GH.un U N) b = some (.inst C fs) → U b = some (.inst C fs) := fun {b C fs} e => by
    cases hn : N b with
    | some g =>
      wide_line with GH.un_right hn using e
      have := (hN b _ hn).2.1
      wide_open using this
    | none => rwa [GH.un_left hn] at e
  refine ⟨d, fun b ob eb => hk _ _ (k _ _ eb), fun b g e => ?_, fun b C fs e => ?_, gn, os⟩
  · cases hn : N b with
    | some g' =>
      wide_line with GH.un_right hn using e
      refine o_AA (hN b _ hn) fun h1 z9 h3 => ?_
      exact ⟨fb h1, h3 d⟩
    | none =>
      rw [GH.un_left hn] at e
      exact ⟨(o b g e).1, (o b g e).2.move _ _ _ (hk b) (fun z9 => rfl) fun z9 => hk _⟩
  · refine o_AA (i b C fs (low e)) fun i1 i2 i3 => ?_
    refine (i_AA i1 ?_ (fun c C' fs' ec hc => i3 c C' fs' (low ec) hc))
    cases hn : N (d b) with
    | none => wide_open with GH.un_left hn; exact i2
    | some g =>
      have h1 := (hN _ _ hn).1
      refine o_AAEA ((o b _ (low e)).2) fun z9 z9 mm n94 z9 => ?_; obtain ⟨od, _, _, ed, _⟩ := n94
      exact absurd (lt_of_get ed) (Nat.not_lt.mpr h1)
structure FnSpec where
  params : List Str
  locs : List Str
  cels : List Str
  lsrc : List (Option Nat)
  csrc : List (Option Nat)
  body : List CS
noncomputable def fnFuel : Nat := 40
structure FnOK (W : Wd) (fd : FuncData) (sp : FnSpec) : Prop where
  kind : fd.scope.kind = .function
  co : fd.scope.isCoroutine = false
  gen : fd.scope.isGenerator = false
  body : ∃ b, fd.body = .stmts b ∧ trL (trS W.AT W.globs fnFuel fnFuel ⟨fd.scope.names, sp.locs, sp.cels⟩) b = some sp.body
  glob : fd.globals = mainGlobals
  blt : fd.builtins = builtinsNs
  nd : sp.params.Nodup
  cnd : sp.cels.Nodup
  lsrc : ∀ (x : Str) (i j : Nat), sp.locs.idxOf? x = some i → (sp.lsrc[i]?).join = some j → sp.params[j]? = some x ∧ fd.scope.names.lookup x = some .local
  csrc : ∀ (i j : Nat), (sp.csrc[i]?).join = some j → ∃ x, sp.cels[i]? = some x ∧ sp.params[j]? = some x
  csrc0 : ∀ (x : Str) (i : Nat), sp.cels.idxOf? x = some i → (sp.csrc[i]?).join = none → x ∉ sp.params
  clen : sp.csrc.length = sp.cels.length
  pk : ∀ x ∈ sp.params, fd.scope.names.lookup x = some .local ∨ fd.scope.names.lookup x = some .cell
noncomputable def srcM (src : List (Option Nat)) (vals : List Value) : Mm := src.map fun o => o.bind fun j => vals[j]?
noncomputable def setCs (G : GH) : List Addr → Mm → GH
  | c :: cs, v :: vs => (setCs G cs vs).set c (.cell v)
  | _, _ => G
theorem setCs_cons {G : GH} {c : Addr} {cs : List Addr} {v : Option Value} {vs : Mm} : setCs G (c :: cs) (v :: vs) = (setCs G cs vs).set c (.cell v) := rfl
theorem setCs_nil {G : GH} {vs : Mm} : setCs G [] vs = G := rfl
theorem setCs_nil2 {G : GH} {c : Addr} {cs : List Addr} : setCs G (c :: cs) [] = G := rfl
theorem setCs_other {G : GH} : ∀ {cs : List Addr} {vs : Mm} {a : Addr}, a ∉ cs → setCs G cs vs a = G a
  | [], vs, a, _ => rfl
  | c :: cs, [], a, _ => rfl
  | c :: cs, v :: vs, a, h => by
    simp only [List.mem_cons, not_or] at h
    refine (?_ : ((setCs G cs vs).set c (.cell v)) a = G a)
    wide_open with GH.set_ne _ _ h.1
    exact setCs_other h.2
theorem setCs_un {U : GH} : ∀ {cs : List Addr} {vs : Mm}, setCs U cs vs = GH.un U (setCs (fun z9 => none) cs vs)
  | [], vs => by funext a; simp [setCs_nil, GH.un]
  | c :: cs, [] => by funext a; simp [setCs_nil2, GH.un]
  | c :: cs, v :: vs => by
    refine (?_ : (setCs U cs vs).set c (.cell v) = GH.un U ((setCs (fun z9 => none) cs vs).set c (.cell v)))
    (wide_line using GH.un_set; (first | refine setCs_un ▸ ?_ | rewrite [← setCs_un]); try with_reducible rfl)
theorem setCs_get : ∀ {cs : List Addr} {vs : Mm} {a : Addr} {g : GO}, setCs (fun z9 => none) cs vs a = some g → ∃ (i : Nat) (v : Option Value), cs[i]? = some a ∧ vs[i]? = some v ∧ g = .cell v
  | [], vs, a, g, h => by simp [setCs_nil] at h
  | c :: cs, [], a, g, h => by simp [setCs_nil2] at h
  | c :: cs, v :: vs, a, g, h => by
    by_cases e : a = c
    · subst e
      have h' : ((setCs (fun z9 => none) cs vs).set a (.cell v)) a = some g := h
      rw [GH.set_self] at h'
      wide_open using h'
      exact (i_EEAA 0 v rfl rfl rfl)
    · have h' : ((setCs (fun z9 => none) cs vs).set c (.cell v)) a = some g := h
      rw [GH.set_ne _ _ e] at h'
      refine o_EEAA (setCs_get h') fun i w h1 h2 h3 => ?_
      exact (i_EEAA (i + 1) w (by simpa using h1) (by simpa using h2) h3)
theorem zip_fst_sub : ∀ (ks : List Str) (vs : List Value), ((ks.zip vs).map (·.1)).Sublist ks
  | [], _ => List.Sublist.slnil
  | k :: ks, [] => List.nil_sublist _
  | k :: ks, v :: vs => (zip_fst_sub ks vs).cons₂ k
theorem lookup_zip_rev {ks : List Str} {vs : List Value} (hn : ks.Nodup) {x : Str} {j : Nat} {v : Value} (hx : ks[j]? = some x) (hv : vs[j]? = some v) : (ks.zip vs).reverse.lookup x = some v := by
  have key : ∀ (l : List (Str × Value)), (l.map (·.1)).Nodup → (x, v) ∈ l → l.lookup x = some v := by
    intro l
    induction l with
    | nil => intro _ h; cases h
    | cons p r ih =>
      intro hn h
      obtain ⟨y, w⟩ := p
      simp only [List.map_cons, List.nodup_cons] at hn
      wide_open with List.lookup_cons
      rcases List.mem_cons.mp h with e | h
      · wide_open using e; simp
      · have hne : x ≠ y := by intro e; exact hn.1 (List.mem_map.mpr (i_EA (x, v) h e))
        have : (x == y) = false := by simpa using hne
        wide_open with this; exact ih hn.2 h
  refine key _ ?_ ?_
  · wide_open with List.map_reverse
    unfold List.Nodup
    wide_open with List.pairwise_reverse
    exact (hn.sublist (zip_fst_sub ks vs)).imp fun h => Ne.symm h
  · (wide_line using List.mem_reverse; wide_open with List.mem_iff_getElem?)
    exact ⟨j, by wide_open with List.getElem?_zip_eq_some; exact ⟨hx, hv⟩⟩
theorem srcM_get {src : List (Option Nat)} {vals : List Value} {i : Nat} {v : Value} (h : ((srcM src (vals.map er))[i]?).join = some v) : ∃ j w, (src[i]?).join = some j ∧ vals[j]? = some w ∧ er w = v := by
  unfold srcM at h
  rw [List.getElem?_map] at h
  cases hs : src[i]? with
  | none => wide_line with hs using h
  | some o =>
    rw [hs] at h
    cases o with
    | none => wide_open using h
    | some j =>
      simp only [Option.map_some, Option.bind_some, Option.join_some, List.getElem?_map] at h
      refine o_EA (Option.map_eq_some_iff.mp h) fun w h1 h2 => ?_
      exact (i_EEAA j w rfl h1 h2)
noncomputable def bodyK (K : KV) : Fl → Mm → GH → Prop := fun fl z9 G' => ∃ G'', Sub G'' G' ∧ K (match fl with | .ret v => v | _ => .none) G''
theorem body_end {L : Addr} {ls : List Str} {K : KV} {f : Flow} (hL : H L = none) (q : PostS W (H.set L (.frame ls ([] : Mm))) L ls (bodyK K) f s) :
    Post W H (fun v => K (er v)) (match f with | .ret v => v | _ => .none) s := by
  refine o_EEEAAAEA q fun fl m' G' hf D R G'' hs k => ?_; try clear q
  rw [GH.set_set] at R
  have Dj : Disj H G'' := fun a ha => by
    obtain ⟨g, hg⟩ := Option.isSome_iff_exists.mp ha
    have := D a (by wide_open with hs a g hg; rfl)
    by_cases e : a = L
    · subst e; exact hL
    · rwa [GH.set_ne _ _ e] at this
  refine (i_EAA G'' Dj (R.drop fun a g e => ?_) ?_)
  · cases hg : G'' a with
    | some g2 => rw [GH.un_right hg] at e; wide_open with GH.un_right (hs a g2 hg); exact e
    | none =>
      rw [GH.un_left hg] at e
      have hne : a ≠ L := by rintro rfl; wide_line with hL using e
      have hg' : G' a = none := by
        cases q : G' a with
        | none => rfl
        | some g3 =>
          have := D a (by wide_open with q; rfl)
          rw [GH.set_ne _ _ hne, e] at this; wide_open using this
      (wide_line using GH.un_left hg'; wide_open with GH.set_ne _ _ hne); exact e
  · cases hf with
    | next => exact k
    | cont => exact k
    | ret v => exact k
theorem Room.deeper {A : Around} {n : Nat} (h : Room A (n + 1)) (env : Env) : Room (A.deeper env) n := (i_AA h.1 (by have := h.2.1; refine (?_ : A.depth + 1 + 3 * n < _); lia) (by have := h.2.2; refine (?_ : A.units + 3 + 16 * n < _); lia))
noncomputable abbrev RP (W : Wd) (H : GH) (K : KV) : Result → Shared → Prop := fun r s' => match r with
  | .ok (.ret v) => Post W H (fun v => K (er v)) v s'
  | .ok _ => False
  | .error e => NoE e s'
theorem call_fn (O : WdOK W mg mb) {f : Addr} {fo : Obj} {fd : FuncData} {sp : FnSpec} {cs : List Addr} {args ds : List Value} {K : KV} {vs : List Value} (hA : Room A (n + 1)) (D : Disj H G) (R : W.R (H.un G) s)
    (hf : s.heap.get? f = some fo) (hd : fo.data = .func fd) (hcode : s.heap.CodeRec fd.code fd.qualname) (F : FnOK W fd sp)
    (hcell : ∀ x ∈ fd.scope.names, x.2 ≠ .cell) (hcs : ∀ x i, sp.cels.idxOf? x = some i → ∃ c, fd.closure.lookup x = some c ∧ cs[i]? = some c) 
    (hb : Looks W.M s.heap (bindArgs fd ⟨args, []⟩) (sp.params.zip (args ++ ds))) (hvs : args.map er ++ ds.map er = vs)
    (w : wpSs W n fd.code sp.cels cs sp.body (srcM sp.lsrc vs) G (bodyK K)) :
    codeAny W.M A (.call (.ref f) ⟨args, []⟩) (RP W H K) s := by
  subst hvs
  refine o_EA F.body fun b hb1 hb2 => ?_
  refine codeAny_call_function (Nat.lt_of_le_of_lt (Nat.le_add_right _ _) hA.2.1) hf hd F.co F.gen hb1 hcode (hb.here ?_)
  have hloc : ∀ x ∈ sp.params.zip (args ++ ds), fd.scope.names.lookup x.1 = some .local := fun x hx => by
    have hm : x.1 ∈ sp.params := (List.of_mem_zip hx).1
    rcases F.pk _ hm with h | h
    · exact h
    · exact absurd rfl (hcell _ (mem_of_lookup h))
  refine wpAny_newFunctionEnv hcell hloc (fun h' hns hsb => ⟨(O.lim.keeps R.keep).fresh _ hsb, codeAny_func ?_⟩) F.kind
  have fr := R.fr
  have R1 := R.grow (N := GH.empty.set s.heap.objs.size (.frame sp.locs (srcM sp.lsrc (args.map er ++ ds.map er)))) (h' := h') (tk := s.toks + (sp.params.zip (args ++ ds)).length) (dr := s.drawn)
    (fun b o e => hsb.extBut b o (Nat.ne_of_lt (Heap.lt_size e)) (Heap.get?_push_of_some _ e)) (fun a g e => by
      by_cases ea : a = s.heap.objs.size
      · subst ea
        wide_line with GH.set_self using e
        refine (i_AA (Nat.le_refl _) rfl (fun d => (i_EA _ hns (fun x i v hx hv => ?_))))
        rw [← List.map_append] at hv
        refine o_EEAA (srcM_get hv) fun j wv h1 h2 h3 => ?_
        have h4 := (F.lsrc x i j hx h1).1
        (wide_line using lookup_zip_rev F.nd h4 h2; wide_line using Option.map_some; wide_open with h3)
      · wide_line with GH.set_ne _ _ ea using e)
  generalize hL : s.heap.objs.size = L at *
  have eU : GH.un (H.un G) (GH.empty.set L (.frame sp.locs (srcM sp.lsrc (args.map er ++ ds.map er)))) = (H.set L (.frame sp.locs (srcM sp.lsrc (args.map er ++ ds.map er)))).un G := by
    (wide_line using GH.un_set; wide_open with GH.set_un _ fr.2)
    rfl
  rw [eU] at R1
  have I : In W (A.deeper (newEnv fd.scope L fd.globals fd.closure (fd.qualname ++ ".<locals>.") (some f) fd.code none fd.builtins)) n ⟨fd.scope.names, sp.locs, sp.cels⟩ cs fd.code (newEnv fd.scope L fd.globals fd.closure (fd.qualname ++ ".<locals>.") (some f) fd.code none fd.builtins)
      (srcM sp.lsrc (args.map er ++ ds.map er)) (H.set L (.frame sp.locs (srcM sp.lsrc (args.map er ++ ds.map er)))) :=
    ⟨hA.deeper _, ⟨F.kind, fun x hx => hx, fun x hx => hx, fun x hx => hx, fun x i hx => hcs x i hx, (fun x hx hf => by
      have h2 : fd.scope.names.lookup x = some .free := hf
      have h1 : fd.scope.names.lookup x = some .cell := hx
      wide_line with h1 using h2), F.glob, F.blt, rfl⟩, GH.set_self _ _ _⟩
  have run := seq_ok (sound_S O fnFuel fnFuel ⟨fd.scope.names, sp.locs, sp.cels⟩ sp.cels rfl) b sp.body hb2 _ _ _ _ _ _ _ _ _ _ I (D.setH fr.2) R1 w
  refine wpAny_mono run (fun fl s2 q => ?_) fun z9 z9 z => z.elim
  have q' : PostS W (H.set L (.frame sp.locs ([] : Mm))) L sp.locs (bodyK K) fl s2 := by
    refine o_EEEAAA q fun fl' m' G' h1 h2 h3 h4 => ?_; try clear q
    have h3' : W.R (((H.set L (.frame sp.locs (srcM sp.lsrc (args.map er ++ ds.map er)))).set L (.frame sp.locs m')).un G') s2 := h3
    rw [GH.set_set] at h3'
    refine (i_EEEAAA fl' m' G' h1 (fun a ha => ?_) ?_ h4)
    · have := h2 a ha
      by_cases e : a = L
      · subst e; wide_line with GH.set_self using this
      · rw [GH.set_ne _ _ e] at this ⊢; exact this
    · wide_open with GH.set_set; exact h3'
  have := body_end fr.1 q'
  cases fl <;> exact this
end Mine
end
section
open PySem PySem.W PySem.Calls PyProof.Rows
namespace Mine
variable {W : Wd} {n : Nat} {A : Around} {H G : GH} {s : Shared} {mg mb : Str → Option Value}
theorem bindC_out {k : Str → Option NameKind} {x : Str} : ∀ {l : List (Str × Value)} {m : Str → Option Value}, x ∉ l.map (·.1) → bindC k l m x = m x
  | [], m, _ => rfl
  | (y, v) :: r, m, h => by
    simp only [List.map_cons, List.mem_cons, not_or] at h
    unfold bindC
    wide_open with bindC_out h.2
    split
    · rfl
    · simp [h.1]
theorem bindC_in {k : Str → Option NameKind} {x : Str} {v : Value} (hk : k x ≠ some .local) : ∀ {l : List (Str × Value)} {m : Str → Option Value}, (l.map (·.1)).Nodup → (x, v) ∈ l → bindC k l m x = some v
  | (y, w) :: r, m, hn, h => by
    simp only [List.map_cons, List.nodup_cons] at hn
    unfold bindC
    rcases List.mem_cons.mp h with e | h
    · wide_open using e
      (wide_line using bindC_out hn.1; wide_open with if_neg hk); simp
    · exact bindC_in hk hn.2 h
theorem bindL_out {k : Str → Option NameKind} {x : Str} : ∀ {l : List (Str × Value)} {m : Str → Option Value}, x ∉ l.map (·.1) → bindL k l m x = m x
  | [], m, _ => rfl
  | (y, v) :: r, m, h => by
    simp only [List.map_cons, List.mem_cons, not_or] at h
    unfold bindL
    wide_open with bindL_out h.2
    split
    · simp [h.1]
    · rfl
theorem bindL_in {k : Str → Option NameKind} {x : Str} {v : Value} (hk : k x = some .local) : ∀ {l : List (Str × Value)} {m : Str → Option Value}, (l.map (·.1)).Nodup → (x, v) ∈ l → bindL k l m x = some v
  | (y, w) :: r, m, hn, h => by
    simp only [List.map_cons, List.nodup_cons] at hn
    unfold bindL
    rcases List.mem_cons.mp h with e | h
    · wide_open using e
      (wide_line using bindL_out hn.1; wide_open with if_pos hk); simp
    · exact bindL_in hk hn.2 h
theorem zip_nodup {ks : List Str} {vs : List Value} (hn : ks.Nodup) : ((ks.zip vs).map (·.1)).Nodup := hn.sublist (zip_fst_sub ks vs)
theorem zip_mem {ks : List Str} {vs : List Value} {j : Nat} {x : Str} {v : Value} (h1 : ks[j]? = some x) (h2 : vs[j]? = some v) : (x, v) ∈ ks.zip vs :=
  List.mem_iff_getElem?.mpr ⟨j, by wide_open with List.getElem?_zip_eq_some; exact ⟨h1, h2⟩⟩
theorem idxOf?_get {l : List Str} {x : Str} {i : Nat} (h : l.idxOf? x = some i) : l[i]? = some x := AT_of h
theorem nodup_idx {l : List Str} (hn : l.Nodup) {x : Str} {i : Nat} (h : l[i]? = some x) : l.idxOf? x = some i := by
  induction l generalizing i with
  | nil => wide_open using h
  | cons y r ih =>
    simp only [List.nodup_cons] at hn
    cases i with
    | zero =>
      have e : y = x := by simpa using h
      subst e
      simp [List.idxOf?, List.findIdx?_cons]
    | succ i =>
      have h' : r[i]? = some x := by simpa using h
      have hne : y ≠ x := by
        rintro rfl
        exact hn.1 (List.mem_of_getElem? h')
      have hb : (y == x) = false := by simpa using hne
      have := ih hn.2 h'
      simp only [List.idxOf?] at this ⊢
      (wide_line using List.findIdx?_cons; wide_open with hb)
      simp only [Bool.false_eq_true, if_false, this, Option.map_some]
theorem call_cel (O : WdOK W mg mb) {f : Addr} {fo : Obj} {fd : FuncData} {sp : FnSpec} {args ds : List Value} {K : KV} {vs : List Value} (hA : Room A (n + 1)) (D : Disj H G) (R : W.R (H.un G) s)
    (hf : s.heap.get? f = some fo) (hd : fo.data = .func fd) (hcode : s.heap.CodeRec fd.code fd.qualname) (F : FnOK W fd sp) (hcl : fd.closure = [])
    (hck : ∀ x i, sp.cels.idxOf? x = some i → fd.scope.names.lookup x = some .cell)
    (hb : Looks W.M s.heap (bindArgs fd ⟨args, []⟩) (sp.params.zip (args ++ ds))) (hlen : (args ++ ds).length = sp.params.length) (hvs : args.map er ++ ds.map er = vs)
    (w : ∀ cs : List Addr, cs.length = sp.cels.length → cs.Nodup → (∀ c ∈ cs, G c = none) → wpSs W n fd.code sp.cels cs sp.body (srcM sp.lsrc vs) (setCs G cs (srcM sp.csrc vs)) (bodyK K)) :
    codeAny W.M A (.call (.ref f) ⟨args, []⟩) (RP W H K) s := by
  subst hvs
  refine o_EA F.body fun b hb1 hb2 => ?_
  refine codeAny_call_function (Nat.lt_of_le_of_lt (Nat.le_add_right _ _) hA.2.1) hf hd F.co F.gen hb1 hcode (hb.here ?_)
  wide_open with hcl
  have cellSome : ∀ m x, fd.scope.names.lookup x = some .cell → ((cellsFrom m fd.scope.names []).lookup x).isSome = true := fun m x h => cellsFrom_some _ _ _ (.inl h)
  have hkind : ∀ x ∈ sp.params.zip (args ++ ds), fd.scope.names.lookup x.1 = some .local ∨ (fd.scope.names.lookup x.1 = some .cell ∧ ((cellsFrom (s.heap.objs.size + 1) fd.scope.names []).lookup x.1).isSome = true) := fun x hx => by
    have hm : x.1 ∈ sp.params := (List.of_mem_zip hx).1
    rcases F.pk _ hm with h | h
    · exact .inl h
    · exact .inr ⟨h, cellSome _ _ h⟩
  refine wpAny_newFunctionEnv_cells F.kind hkind fun env he s' x => ?_
  subst he
  refine ⟨(O.lim.keeps R.keep).keeps x.toInCall.keep, codeAny_func ?_⟩
  refine o_EE x.toInCall.same fun h' tk e93 => ?_; subst e93
  have fr := R.fr
  have ns := x.toInCall.ns
  have cell := x.cell
  have apart := x.apart
  have above := x.above
  have keep := x.toInCall.keep
  clear x
  have eL : (newEnv fd.scope s.heap.objs.size fd.globals (cellsFrom (s.heap.objs.size + 1) fd.scope.names []) (fd.qualname ++ ".<locals>.") (some f) fd.code none fd.builtins).locals = s.heap.objs.size := rfl
  have eC : (newEnv fd.scope s.heap.objs.size fd.globals (cellsFrom (s.heap.objs.size + 1) fd.scope.names []) (fd.qualname ++ ".<locals>.") (some f) fd.code none fd.builtins).cells = cellsFrom (s.heap.objs.size + 1) fd.scope.names [] := rfl
  have eK : (newEnv fd.scope s.heap.objs.size fd.globals (cellsFrom (s.heap.objs.size + 1) fd.scope.names []) (fd.qualname ++ ".<locals>.") (some f) fd.code none fd.builtins).kindOf = fun x => fd.scope.names.lookup x := rfl
  rw [eL, eK] at ns
  rw [eC, eK] at cell
  rw [eC] at apart above
  rw [eL] at above
  generalize hcells : cellsFrom (s.heap.objs.size + 1) fd.scope.names [] = cells at *
  have csGet : ∀ y i, sp.cels.idxOf? y = some i → ∃ c, cells.lookup y = some c ∧ (sp.cels.map fun y => (cells.lookup y).getD 0)[i]? = some c := fun y i hy => by
    have h1 := cellSome (s.heap.objs.size + 1) y (hck y i hy)
    rw [hcells] at h1
    obtain ⟨c, hc⟩ := Option.isSome_iff_exists.mp h1
    exact (i_EA c hc (by (wide_line using List.getElem?_map; wide_line using idxOf?_get hy; wide_line using Option.map_some; wide_open with hc); rfl))
  have csInv : ∀ {i c}, (sp.cels.map fun y => (cells.lookup y).getD 0)[i]? = some c → ∃ y, sp.cels.idxOf? y = some i ∧ cells.lookup y = some c := fun {i c} h => by
    rw [List.getElem?_map] at h
    refine o_EA (Option.map_eq_some_iff.mp h) fun y h1 h2 => ?_
    have hy := nodup_idx F.cnd h1
    refine o_EA (csGet y i hy) fun c' h3 h4 => ?_
    rw [h3] at h2
    wide_open using h2
    exact (i_EA y hy h3)
  generalize hcs : (sp.cels.map fun y => (cells.lookup y).getD 0) = cs at csGet csInv
  have csNd : cs.Nodup := by
    ((first | refine hcs ▸ ?_ | rewrite [← hcs]); try with_reducible rfl)
    unfold List.Nodup
    wide_open with List.pairwise_map
    refine List.Pairwise.imp_of_mem ?_ F.cnd
    intro y z hy hz hne e
    obtain ⟨i, hi⟩ := List.mem_iff_getElem?.mp hy
    obtain ⟨j, hj⟩ := List.mem_iff_getElem?.mp hz
    refine o_EA (csGet y i (nodup_idx F.cnd hi)) fun c hc z9 => ?_
    refine o_EA (csGet z j (nodup_idx F.cnd hj)) fun c' hc' z9 => ?_
    rw [hc, hc'] at e
    have e' : c = c' := e
    subst e'
    exact hne (name_of_addr apart (mem_of_lookup hc) (mem_of_lookup hc'))
  have csAbove : ∀ c ∈ cs, s.heap.objs.size < c := fun c hc => by
    obtain ⟨i, hi⟩ := List.mem_iff_getElem?.mp hc
    refine o_EA (csInv hi) fun y z9 hy => ?_
    exact above y c (mem_of_lookup hy)
  have csFresh : ∀ c ∈ cs, (H.un G) c = none := fun c hc => by
    cases q : (H.un G) c with
    | none => rfl
    | some g => exact absurd (R.lt q) (Nat.not_lt.mpr (Nat.le_of_lt (csAbove c hc)))
  have csG : ∀ c ∈ cs, G c = none := fun c hc => by
    cases q : G c with
    | none => rfl
    | some g => have := csFresh c hc; wide_line with GH.un_right q using this
  have csH : ∀ c ∈ cs, H c = none := fun c hc => by
    have := csFresh c hc
    rwa [GH.un_left (csG c hc)] at this
  have Lnot : s.heap.objs.size ∉ cs := fun h => Nat.lt_irrefl _ (csAbove _ h)
  have R1 := R.grow (N := (setCs (fun z9 => none) cs (srcM sp.csrc (args.map er ++ ds.map er))).set s.heap.objs.size (.frame sp.locs (srcM sp.lsrc (args.map er ++ ds.map er)))) (h' := h') (tk := tk) (dr := s.drawn) keep (fun a g e => by
      by_cases ea : a = s.heap.objs.size
      · subst ea
        wide_line with GH.set_self using e
        refine (i_AA (Nat.le_refl _) rfl (fun d => (i_EA _ ns (fun y i v hy hv => ?_))))
        rw [← List.map_append] at hv
        refine o_EEAA (srcM_get hv) fun j wv h1 h2 h3 => ?_
        obtain ⟨h4, h5⟩ := F.lsrc y i j hy h1
        (wide_line using bindL_in h5 (zip_nodup F.nd) (zip_mem h4 h2); wide_line using Option.map_some; wide_open with h3)
      · rw [GH.set_ne _ _ ea] at e
        refine o_EEAA (setCs_get e) fun i v h1 h2 e95 => ?_; subst e95
        refine (i_AA (Nat.le_of_lt (csAbove a (List.mem_of_getElem? h1))) rfl (fun d => ?_))
        refine o_EA (csInv h1) fun y hy1 hy2 => ?_
        refine (i_EA _ (cell y a hy2) ?_)
        have hkc : (fun x => fd.scope.names.lookup x) y ≠ some .local := by
          refine (?_ : fd.scope.names.lookup y ≠ _)
          wide_open with hck y i hy1; decide
        unfold srcM at h2
        rw [List.getElem?_map] at h2
        refine o_EA (Option.map_eq_some_iff.mp h2) fun o h3 h4 => ?_
        cases o with
        | none =>
          have hout := F.csrc0 y i hy1 (by wide_open with h3; rfl)
          have : y ∉ (sp.params.zip (args ++ ds)).map (·.1) := fun hm => hout ((zip_fst_sub _ _).subset hm)
          wide_open with bindC_out this
          ((first | refine h4 ▸ ?_ | rewrite [← h4]); try with_reducible rfl); rfl
        | some j =>
          refine o_EA (F.csrc i j (by wide_open with h3; rfl)) fun y' e1 e2 => ?_
          rw [idxOf?_get hy1] at e1
          wide_open using e1
          have hj : j < (args ++ ds).length := by
            wide_open with hlen
            exact (List.getElem?_eq_some_iff.mp e2).1
          have h5 : (args ++ ds)[j]? = some (args ++ ds)[j] := List.getElem?_eq_getElem hj
          (wide_line using bindC_in hkc (zip_nodup F.nd) (zip_mem e2 h5); (first | refine h4 ▸ ?_ | rewrite [← h4]); try with_reducible rfl)
          simp only [Option.bind_some, ← List.map_append, List.getElem?_map, h5, Option.map_some])
  have eU : GH.un (H.un G) ((setCs (fun z9 => none) cs (srcM sp.csrc (args.map er ++ ds.map er))).set s.heap.objs.size (.frame sp.locs (srcM sp.lsrc (args.map er ++ ds.map er)))) =
      (H.set s.heap.objs.size (.frame sp.locs (srcM sp.lsrc (args.map er ++ ds.map er)))).un (setCs G cs (srcM sp.csrc (args.map er ++ ds.map er))) := by
    (wide_line using GH.un_set; wide_open with GH.set_un _ (by wide_open with setCs_other Lnot; exact fr.2))
    congr 1
    wide_open with setCs_un (U := G)
    funext a
    simp only [GH.un]
    cases setCs (fun z9 => none) cs (srcM sp.csrc (args.map er ++ ds.map er)) a <;> rfl
  rw [eU] at R1
  generalize hL : s.heap.objs.size = L at *
  have Dc : Disj H (setCs G cs (srcM sp.csrc (args.map er ++ ds.map er))) := fun a ha => by
    by_cases hm : a ∈ cs
    · exact csH a hm
    · rw [setCs_other hm] at ha; exact D a ha
  have I : In W (A.deeper (newEnv fd.scope L fd.globals cells (fd.qualname ++ ".<locals>.") (some f) fd.code none fd.builtins)) n ⟨fd.scope.names, sp.locs, sp.cels⟩ cs fd.code (newEnv fd.scope L fd.globals cells (fd.qualname ++ ".<locals>.") (some f) fd.code none fd.builtins)
      (srcM sp.lsrc (args.map er ++ ds.map er)) (H.set L (.frame sp.locs (srcM sp.lsrc (args.map er ++ ds.map er)))) :=
    ⟨hA.deeper _, ⟨F.kind, fun x hx => hx, fun x hx => hx, fun x hx => hx, fun x i hx => csGet x i hx, (fun x hx hf => by
      have h2 : fd.scope.names.lookup x = some .free := hf
      have h1 : fd.scope.names.lookup x = some .cell := hx
      wide_line with h1 using h2), F.glob, F.blt, rfl⟩, GH.set_self _ _ _⟩
  have run := seq_ok (sound_S O fnFuel fnFuel ⟨fd.scope.names, sp.locs, sp.cels⟩ sp.cels rfl) b sp.body hb2 _ _ _ _ _ _ _ _ _ _ I (Dc.setH (by wide_open with setCs_other Lnot; exact fr.2)) R1 (w cs (by ((first | refine hcs ▸ ?_ | rewrite [← hcs]); try with_reducible rfl); simp) csNd csG)
  refine wpAny_mono run (fun fl s2 q => ?_) fun z9 z9 z => z.elim
  have q' : PostS W (H.set L (.frame sp.locs ([] : Mm))) L sp.locs (bodyK K) fl s2 := by
    refine o_EEEAAA q fun fl' m' G' h1 h2 h3 h4 => ?_; try clear q
    have h3' : W.R (((H.set L (.frame sp.locs (srcM sp.lsrc (args.map er ++ ds.map er)))).set L (.frame sp.locs m')).un G') s2 := h3
    rw [GH.set_set] at h3'
    refine (i_EEEAAA fl' m' G' h1 (fun a ha => ?_) ?_ h4)
    · have := h2 a ha
      by_cases e : a = L
      · subst e; wide_line with GH.set_self using this
      · rw [GH.set_ne _ _ e] at this ⊢; exact this
    · wide_open with GH.set_set; exact h3'
  have := body_end fr.1 q'
  cases fl <;> exact this
end Mine
end
section
open PySem PySem.W PySem.Calls PyProof.Rows
namespace Mine
variable {W : Wd} {n : Nat} {A : Around} {H G : GH} {s : Shared} {mg mb : Str → Option Value}
structure FnAt (W : Wd) (f : Addr) (sp : FnSpec) (code : Value) (k : Nat) (dv : List Value) : Prop where
  ex : ∃ fo fd, W.B.get? f = some fo ∧ fo.data = .func fd ∧ fd.code = code ∧ W.B.CodeRec fd.code fd.qualname ∧ FnOK W fd sp ∧ fd.closure = [] ∧
    ((sp.cels = [] ∧ ∀ x ∈ fd.scope.names, x.2 ≠ .cell) ∨ (∀ x i, sp.cels.idxOf? x = some i → fd.scope.names.lookup x = some .cell)) ∧
    k + dv.length = sp.params.length ∧ ∀ args : List Value, args.length = k → ∃ ds, ds.map er = dv ∧ Looks W.M W.B (bindArgs fd ⟨args, []⟩) (sp.params.zip (args ++ ds))
noncomputable def CallC (W : Wd) (n : Nat) (f : Value) (args : List Value) (G : GH) (K : KV) : Prop :=
  ∀ A fv vs, Room A n → er fv = f → vs.map er = args → ∀ H s, Disj H G → W.R (H.un G) s → codeAny W.M A (.call fv ⟨vs, []⟩) (RP W H K) s
theorem CallC.T {f : Value} {args : List Value} {K : KV} (h : CallC W n f args G K) : CallT W n f args G K :=
  fun A fv vs hA hf hv H s z9 D R => wpAny_call (codeAny_mono (h A fv vs hA hf hv H s D R) fun r s' q => by
    rcases r with e | (v | _ | _ | _) <;> exact q)
theorem CallT.mono {f : Value} {args : List Value} {K K' : KV} (h : CallT W n f args G K) (k : ∀ v G', K v G' → K' v G') : CallT W n f args G K' :=
  fun A fv vs hA hf hv H s p D R => wpAny_mono (h A fv vs hA hf hv H s p D R) (fun v s' q => by refine o_EAA q fun G' D' R' w => ?_; try clear q; exact (i_EAA G' D' R' (k _ _ w))) fun z9 z9 z => z
theorem Sub.refl (G : GH) : Sub G G := fun z9 z9 h => h
theorem Room.mono {A : Around} {m : Nat} (h : Room A n) (hm : m ≤ n) : Room A m := (i_AA h.1 (by have := h.2.1; lia) (by have := h.2.2; lia))
theorem CallT.room {f : Value} {args : List Value} {m : Nat} {K : KV} (h : CallT W m f args G K) (hm : m ≤ n) : CallT W n f args G K :=
  fun A fv vs hA hf hv H s p D R => h A fv vs (hA.mono hm) hf hv H s p D R
theorem callT_fn (O : WdOK W mg mb) {f : Addr} {sp : FnSpec} {code : Value} {k : Nat} {dv args : List Value} {K : KV} (F : FnAt W f sp code k dv) (hk : args.length = k) (hc : sp.cels = [])
    (w : wpSs W n code [] [] sp.body (srcM sp.lsrc (args ++ dv)) G (bodyK K)) : CallC W (n + 1) (.ref f) args G K := by
  intro A fv vs hA hf hv H s D R
  wide_open with er_ref hf
  refine o_EEAAAAAAAA F.ex fun fo fd h1 h2 e95 h3 h4 h5 h6 h7 h8 => ?_; subst e95
  refine o_EA (h8 vs (by ((first | refine hk ▸ ?_ | rewrite [← hk]); (first | refine hv ▸ ?_ | rewrite [← hv]); try with_reducible rfl); simp)) fun ds e1 e2 => ?_
  have hcell : ∀ x ∈ fd.scope.names, x.2 ≠ .cell ∨ True := fun z9 z9 => .inr trivial
  rcases h6 with ⟨_, h6⟩ | h6
  · exact call_fn O hA D R (R.keep _ _ h1) h2 (h3.keeps R.keep) h4 h6 (cs := []) (fun x i hx => by wide_line with hc using hx) (e2.keeps R.keep) (by rw [hv, e1]) (by rw [hc]; exact w)
  · refine call_cel O hA D R (R.keep _ _ h1) h2 (h3.keeps R.keep) h4 h5 h6 (e2.keeps R.keep) (by rw [List.length_append, ← h7, ← hk, ← hv, ← e1]; simp) (by rw [hv, e1]) fun cs hl z9 z9 => ?_
    have : cs = [] := by rw [hc] at hl; exact List.length_eq_zero_iff.mp hl
    subst this
    wide_open with hc
    exact w
theorem callT_cel (O : WdOK W mg mb) {f : Addr} {sp : FnSpec} {code : Value} {k : Nat} {dv args : List Value} {K : KV} (F : FnAt W f sp code k dv) (hk : args.length = k) (hc : sp.cels ≠ [])
    (w : ∀ cs : List Addr, cs.length = sp.cels.length → cs.Nodup → (∀ c ∈ cs, G c = none) → wpSs W n code sp.cels cs sp.body (srcM sp.lsrc (args ++ dv)) (setCs G cs (srcM sp.csrc (args ++ dv))) (bodyK K)) :
    CallC W (n + 1) (.ref f) args G K := by
  intro A fv vs hA hf hv H s D R
  wide_open with er_ref hf
  refine o_EEAAAAAAAA F.ex fun fo fd h1 h2 e95 h3 h4 h5 h6 h7 h8 => ?_; subst e95
  refine o_EA (h8 vs (by ((first | refine hk ▸ ?_ | rewrite [← hk]); (first | refine hv ▸ ?_ | rewrite [← hv]); try with_reducible rfl); simp)) fun ds e1 e2 => ?_
  rcases h6 with ⟨h6, _⟩ | h6
  · exact absurd h6 hc
  · exact call_cel O hA D R (R.keep _ _ h1) h2 (h3.keeps R.keep) h4 h5 h6 (e2.keeps R.keep) (by (wide_line using List.length_append; (first | refine h7 ▸ ?_ | rewrite [← h7]); (first | refine hk ▸ ?_ | rewrite [← hk]); (first | refine hv ▸ ?_ | rewrite [← hv]); (first | refine e1 ▸ ?_ | rewrite [← e1]); try with_reducible rfl); simp) (by (wide_line using hv; wide_open with e1)) w
theorem callT_cls (O : WdOK W mg mb) {C : Addr} {sp : ClsSpec} {args : List Value} {K : KV} (hC : W.cls.lookup C = some sp)
    (w : ∀ a, G a = none → CallC W n (.ref sp.init) (.ref a :: args) (G.set a (.inst C [])) fun r G' => r = .none ∧ K (.ref a) G') : CallC W (n + 1) (.ref C) args G K := by
  intro A fv vs hA hf hv H s D R
  wide_open with er_ref hf
  refine o_AAA (cls_of O hC) fun c1 c2 c3 z9 => ?_
  have X := Repr.KIn O R
  have Rn := fun tk dr => R.pushInst C (tk := tk) (dr := dr)
  have fr := R.fr
  have fr1 : (H.un G) (s.heap.objs.size + 1) = none := by
    cases q : (H.un G) (s.heap.objs.size + 1) with
    | none => rfl
    | some g => exact absurd (R.lt q) (Nat.not_lt.mpr (Nat.le_succ _))
  have g1 : G (s.heap.objs.size + 1) = none := by
    cases q : G (s.heap.objs.size + 1) with
    | none => rfl
    | some g => wide_line with GH.un_right q using fr1
  have h1 : H (s.heap.objs.size + 1) = none := by rwa [GH.un_left g1] at fr1
  obtain ⟨hh, gg, dd, tt, oo⟩ := s
  refine make_core (makes_of X c1) (looks_findIn X c2) (fun self => bind_fn X self c3) (.inl rfl) ?_
  have R2 := Rn tt dd
  rw [← GH.un_set] at R2
  have hA2 : Room (A.under (.builtin "type.__call__" ⟨.ref C :: vs, []⟩)) n := by
    have e1 : (Code.builtin "type.__call__" ⟨.ref C :: vs, []⟩).weight = 1 := rfl
    have e2 : (Code.builtin "type.__call__" ⟨.ref C :: vs, []⟩).cUnits = 1 := rfl
    refine (i_AA hA.1 ?_ ?_)
    · refine (?_ : A.depth + _ + 3 * n < _); wide_open with e1; have := hA.2.1; lia
    · refine (?_ : A.units + _ + 16 * n < _); wide_open with e2; have := hA.2.2; lia
  refine codeAny_mono (w (hh.objs.size + 1) g1 _ (.ref sp.init) (.ref (hh.objs.size + 1) :: vs) hA2 rfl (by simp [hv, er]) H _ (D.setG h1) R2) fun r s' q => ?_
  rcases r with e | (_ | _ | _ | v)
  · exact q.elim
  · exact q.elim
  · exact q.elim
  · exact q.elim
  · refine o_EAAA q fun G' D' R' hr k => ?_; try clear q
    exact (i_AEAA (er_none hr) G' D' R' k)
end Mine
end
section
open PySem PySem.W PySem.Calls PyProof.Rows
namespace Mine
variable {W : Wd} {n : Nat} {G : GH}
noncomputable def Still (s s' : Shared) : Prop := s'.heap = s.heap ∧ s'.gens = s.gens ∧ s'.os = s.os
theorem Still.refl (s : Shared) : Still s s := (i_AA rfl rfl rfl)
theorem Still.tok (s : Shared) (k : Nat) : Still s { s with toks := k } := (i_AA rfl rfl rfl)
theorem binG_still {op : Operator} {a b r : Value} {K : KV} (k : K r G)
    (h : ∀ A va vb (H : GH) s, Room A n → er va = a → er vb = b → W.R (H.un G) s → wpAny W.M A (binaryOp op va vb) (fun v s' => er v = r ∧ Still s s') (fun z9 z9 => False) s) : binG W n op a b G K :=
  fun A va vb hA ha hb H s z9 D R => wpAny_mono (h A va vb H s hA ha hb R) (fun v s' q => (i_EAA G D (R.irr q.2.1 q.2.2.1 q.2.2.2) (by refine (?_ : K (er v) G); wide_open with q.1; exact k))) fun z9 z9 z => z
theorem cmpG_still {op : CmpOp} {a b : Value} {r : Bool} {K : Bool → GH → Prop} (k : K r G)
    (h : ∀ A va vb (H : GH) s, Room A n → er va = a → er vb = b → W.R (H.un G) s → wpAny W.M A (compareOp op va vb) (fun v s' => v = .bool r ∧ Still s s') (fun z9 z9 => False) s) : cmpG W n op a b G K :=
  fun A va vb hA ha hb H s z9 D R => wpAny_mono (h A va vb H s hA ha hb R) (fun v s' q => (i_EAAEA G D (R.irr q.2.1 q.2.2.1 q.2.2.2) r q.1 k)) fun z9 z9 z => z
theorem callT_still {f : Value} {as : List Value} {r : Value} {K : KV} (k : K r G)
    (h : ∀ A fv vs (H : GH) s, Room A n → er fv = f → vs.map er = as → W.R (H.un G) s → wpAny W.M A (call fv vs) (fun v s' => er v = r ∧ Still s s') (fun z9 z9 => False) s) : CallT W n f as G K :=
  fun A fv vs hA ha hb H s z9 D R => wpAny_mono (h A fv vs H s hA ha hb R) (fun v s' q => (i_EAA G D (R.irr q.2.1 q.2.2.1 q.2.2.2) (by refine (?_ : K (er v) G); wide_open with q.1; exact k))) fun z9 z9 z => z
variable {a b : Int} {K : KV}
theorem add_ok (k : K (.int (a + b) 0) G) : binG W n .Add (.int a 0) (.int b 0) G K := binG_still k fun A va vb H s hA ha hb R => by
  obtain ⟨t, rfl⟩ := er_int ha; obtain ⟨u, rfl⟩ := er_int hb; exact P.add_int ⟨rfl, Still.tok _ _⟩
theorem sub_int_ok (k : K (.int (a - b) 0) G) : binG W n .Sub (.int a 0) (.int b 0) G K := binG_still k fun A va vb H s hA ha hb R => by
  obtain ⟨t, rfl⟩ := er_int ha; obtain ⟨u, rfl⟩ := er_int hb; exact P.sub_int ⟨rfl, Still.tok _ _⟩
theorem mul_int_ok (h : PySem.IntMulOk a b) (k : K (.int (a * b) 0) G) : binG W n .Mult (.int a 0) (.int b 0) G K := binG_still k fun A va vb H s hA ha hb R => by
  obtain ⟨t, rfl⟩ := er_int ha; obtain ⟨u, rfl⟩ := er_int hb; exact P.mul_int ⟨rfl, Still.tok _ _⟩ h
theorem div_ok (h : b ≠ 0) (h2 : Builtin.divisionGoesByPylong a b = false) (k : K (.int (a.fdiv b) 0) G) : binG W n .FloorDiv (.int a 0) (.int b 0) G K := binG_still k fun A va vb H s hA ha hb R => by
  obtain ⟨t, rfl⟩ := er_int ha; obtain ⟨u, rfl⟩ := er_int hb; exact floordiv_int h ⟨rfl, Still.tok _ _⟩ (.inl h2)
theorem mod_ok (h : b ≠ 0) (k : K (.int (a.fmod b) 0) G) : binG W n .Mod (.int a 0) (.int b 0) G K := binG_still k fun A va vb H s hA ha hb R => by
  obtain ⟨t, rfl⟩ := er_int ha; obtain ⟨u, rfl⟩ := er_int hb; exact mod_int' h ⟨rfl, Still.tok _ _⟩
theorem and_ok (k : K (.int (Builtin.bitAnd a b) 0) G) : binG W n .BitAnd (.int a 0) (.int b 0) G K := binG_still k fun A va vb H s hA ha hb R => by
  obtain ⟨t, rfl⟩ := er_int ha; obtain ⟨u, rfl⟩ := er_int hb; exact and_int ⟨rfl, Still.tok _ _⟩
theorem pow_ok (h0 : 0 ≤ b) (h : b ≤ 1000000) (h1 : a.natAbs < 2 ^ 64) (k : K (.int (a ^ b.toNat) 0) G) : binG W n .Pow (.int a 0) (.int b 0) G K := binG_still k fun A va vb H s hA ha hb R => by
  obtain ⟨t, rfl⟩ := er_int ha; obtain ⟨u, rfl⟩ := er_int hb; exact pow_int_small h0 h h1 ⟨rfl, Still.tok _ _⟩
noncomputable def cmpI : CmpOp → Int → Int → Option Bool
  | .Eq, a, b => some (decide (a = b))
  | .NotEq, a, b => some (!decide (a = b))
  | .Lt, a, b => some (decide (a < b))
  | .LtE, a, b => some (decide (a ≤ b))
  | .Gt, a, b => some (decide (b < a))
  | .GtE, a, b => some (decide (b ≤ a))
  | _, _, _ => none
variable {C : Bool → GH → Prop}
theorem cmpI_ok {op : CmpOp} {r : Bool} (h : cmpI op a b = some r) (k : C r G) : cmpG W n op (.int a 0) (.int b 0) G C := cmpG_still k fun A va vb H s hA ha hb R => by
  obtain ⟨t, rfl⟩ := er_int ha; obtain ⟨u, rfl⟩ := er_int hb
  cases op <;> first | (have h := Option.some.inj h; subst h) | wide_open using h
  · exact P.eq_int ⟨by congr 1, Still.refl _⟩
  · exact P.ne_int ⟨by congr 1, Still.refl _⟩
  · exact P.lt_int ⟨rfl, Still.refl _⟩
  · exact P.le_int ⟨rfl, Still.refl _⟩
  · exact P.gt_int ⟨rfl, Still.refl _⟩
  · exact P.ge_int ⟨rfl, Still.refl _⟩
noncomputable def isN : Value → Bool
  | .none => true
  | _ => false
theorem beq_none (v : Value) : (v == .none) = isN (er v) := by cases v <;> rfl
theorem plainNone {v : Value} (h : isBlt (er v) = false) : PySem.plainIs v .none = true := by cases v <;> first | rfl | wide_open using h
theorem is_none_ok {a : Value} (h : isBlt a = false) (k : C (isN a) G) : cmpG W n .Is a .none G C := cmpG_still k fun A va vb H s hA ha hb R => by
  wide_open with er_none hb
  subst ha
  exact wpAny_is_plain (plainNone h) ⟨by wide_open with beq_none, Still.refl _⟩
theorem isNot_none_ok {a : Value} (h : isBlt a = false) (k : C (!isN a) G) : cmpG W n .IsNot a .none G C := cmpG_still k fun A va vb H s hA ha hb R => by
  wide_open with er_none hb
  subst ha
  exact wpAny_isNot_plain (plainNone h) ⟨by wide_open with beq_none, Still.refl _⟩
end Mine
end
section
open PySem PySem.W PySem.Calls PyProof.Rows PySem.SeqAt
namespace Mine
variable {W : Wd} {n : Nat} {G H : GH} {C : Bool → GH → Prop} {K : KV} {s : Shared}
mutual
inductive GRd (G : GH) : Value → PyData → Prop
  | none : GRd G .none .none
  | bool (b) : GRd G (.bool b) (.bool b)
  | int (i) : GRd G (.int i 0) (.int i)
  | str (x) : GRd G (.str x 0) (.str x)
  | list {a vs ds} : G a = some (.list vs) → GRds G vs ds → GRd G (.ref a) (.list ds)
  | tup {a vs ds} : G a = some (.tup vs) → GRds G vs ds → GRd G (.ref a) (.tuple ds)
inductive GRds (G : GH) : List Value → List PyData → Prop
  | nil : GRds G [] []
  | cons {v vs d ds} : GRd G v d → GRds G vs ds → GRds G (v :: vs) (d :: ds)
end
theorem reads_both (R : W.R (H.un G) s) :
    (∀ {u : Value} {d : PyData}, GRd G u d → ∀ v, er v = u → ∃ as, Reads s.heap v d as) ∧ (∀ {us : List Value} {ds : List PyData}, GRds G us ds → ∀ vs : List Value, vs.map er = us → ∃ as, ReadsAll s.heap vs ds as) := by
  refine ⟨fun {u d} h => GRd.rec (G := G) (motive_1 := fun u d z9 => ∀ v, er v = u → ∃ as, Reads s.heap v d as) (motive_2 := fun us ds z9 => ∀ vs : List Value, vs.map er = us → ∃ as, ReadsAll s.heap vs ds as) ?_ ?_ ?_ ?_ ?_ ?_ ?_ ?_ h,
    fun {u d} h => GRds.rec (G := G) (motive_1 := fun u d z9 => ∀ v, er v = u → ∃ as, Reads s.heap v d as) (motive_2 := fun us ds z9 => ∀ vs : List Value, vs.map er = us → ∃ as, ReadsAll s.heap vs ds as) ?_ ?_ ?_ ?_ ?_ ?_ ?_ ?_ h⟩
  all_goals first
    | (intro v e; wide_open with er_none e; exact ⟨_, .none⟩)
    | (intro b v e; wide_open with er_bool e; exact ⟨_, .bool b⟩)
    | (intro b v e; obtain ⟨t, rfl⟩ := er_int e; exact ⟨_, .int b t⟩)
    | (intro b v e; obtain ⟨t, rfl⟩ := er_str e; exact ⟨_, .str b t⟩)
    | (intro a vs ds hg _ ih v e
       wide_open with er_ref e
       refine o_EAA (R.list (GH.un_right hg)) fun us n92 he z9 => ?_; obtain ⟨m, hl⟩ := n92
       obtain ⟨as, h⟩ := ih _ he
       exact ⟨_, .list hl rfl rfl h⟩)
    | (intro a vs ds hg _ ih v e
       wide_open with er_ref e
       refine o_EAA (R.tup (GH.un_right hg)) fun us n92 he z9 => ?_; obtain ⟨_, hl, hc, m, hd⟩ := n92
       obtain ⟨as, h⟩ := ih _ he
       exact ⟨_, .tuple hl hc hd h⟩)
    | (intro vs e
       cases vs with
       | nil => exact ⟨_, .nil⟩
       | cons _ _ => wide_open using e)
    | (intro v vs d ds _ _ i1 i2 us e
       cases us with
       | nil => wide_open using e
       | cons x xs =>
         simp only [List.map_cons, List.cons.injEq] at e
         obtain ⟨as, k1⟩ := i1 _ e.1
         obtain ⟨bs, k2⟩ := i2 _ e.2
         exact ⟨_, .cons k1 k2⟩)
theorem reads_of (R : W.R (H.un G) s) {d : PyData} {u v : Value} (e : er v = u) (h : GRd G u d) : ∃ as, Reads s.heap v d as := (reads_both R).1 h v e
theorem room_units {A : Around} (h : Room A n) : A.units + 64 < cLine := by have := h.2.2; refine (?_ : _ < 9900); lia
theorem eq_data_ok {a b : Value} {da db : PyData} (ha : GRd G a da) (hb : GRd G b db) (sa : shaped da = true) (sb : shaped db = true) (hm : noMix da db = true) (k : C (PySem.Spec.same da db) G) : cmpG W n .Eq a b G C :=
  cmpG_still k fun A va vb H s hA ea eb R => by
    obtain ⟨as, r1⟩ := reads_of R ea ha
    obtain ⟨bs, r2⟩ := reads_of R eb hb
    exact eq_dataH_same r1 r2 sa sb (room_units hA) hm ⟨rfl, Still.refl _⟩
theorem ne_data_ok {a b : Value} {da db : PyData} (ha : GRd G a da) (hb : GRd G b db) (sa : shaped da = true) (sb : shaped db = true) (hm : noMix da db = true) (k : C (!PySem.Spec.same da db) G) : cmpG W n .NotEq a b G C :=
  cmpG_still k fun A va vb H s hA ea eb R => by
    obtain ⟨as, r1⟩ := reads_of R ea ha
    obtain ⟨bs, r2⟩ := reads_of R eb hb
    exact ne_dataH_same r1 r2 sa sb (room_units hA) hm ⟨rfl, Still.refl _⟩
theorem eq_str_ok {x y : Str} (k : C (x == y) G) : cmpG W n .Eq (.str x 0) (.str y 0) G C := cmpG_still k fun A va vb H s hA ha hb R => by
  obtain ⟨t, rfl⟩ := er_str ha; obtain ⟨u, rfl⟩ := er_str hb; exact PyProof.Rows.eq_str ⟨rfl, Still.refl _⟩
theorem ne_str_ok {x y : Str} (k : C (x != y) G) : cmpG W n .NotEq (.str x 0) (.str y 0) G C := cmpG_still k fun A va vb H s hA ha hb R => by
  obtain ⟨t, rfl⟩ := er_str ha; obtain ⟨u, rfl⟩ := er_str hb; exact PyProof.Rows.ne_str ⟨rfl, Still.refl _⟩
noncomputable def vInt (i : Int) : Value := .int i 0
noncomputable def vStr (x : Str) : Value := .str x 0
theorem ints_of : ∀ {ns : List Int} {vs : List Value}, vs.map er = ns.map vInt → IntsAre vs ns
  | [], [], _ => .nil
  | [], _ :: _, h => by wide_open using h
  | _ :: _, [], h => by wide_open using h
  | i :: ns, v :: vs, h => by
    simp only [List.map_cons, List.cons.injEq] at h
    obtain ⟨t, rfl⟩ := er_int h.1
    exact .cons i t (ints_of h.2)
theorem strs_of : ∀ {ns : List Str} {vs : List Value}, vs.map er = ns.map vStr → StrsAre vs ns
  | [], [], _ => .nil
  | [], _ :: _, h => by wide_open using h
  | _ :: _, [], h => by wide_open using h
  | i :: ns, v :: vs, h => by
    simp only [List.map_cons, List.cons.injEq] at h
    obtain ⟨t, rfl⟩ := er_str h.1
    exact .cons i t (strs_of h.2)
theorem in_tup_ok {a : Addr} {ns : List Int} {i : Int} (h : G a = some (.tup (ns.map vInt))) (k : C (ns.any (· == i)) G) : cmpG W n .In (vInt i) (.ref a) G C := cmpG_still k fun A va vb H s hA ha hb R => by
  obtain ⟨t, rfl⟩ := er_int ha; wide_open with er_ref hb
  refine o_EAA (R.tup (GH.un_right h)) fun us hl he z9 => ?_
  exact in_tuple_ints hl (ints_of he) ⟨rfl, Still.refl _⟩
noncomputable def BStrs (W : Wd) (a : Addr) (ns : List Str) : Prop := ∃ us, IsTup W.B a us ∧ StrsAre us.toList ns
theorem notin_base_ok {a : Addr} {ns : List Str} {i : Str} (h : BStrs W a ns) (k : C (!ns.any (· == i)) G) : cmpG W n .NotIn (vStr i) (.ref a) G C := cmpG_still k fun A va vb H s hA ha hb R => by
  obtain ⟨t, rfl⟩ := er_str ha; wide_open with er_ref hb
  refine o_EA h fun us hl he => ?_; try clear h
  exact notin_tuple_strs (hl.keeps R.keep) he ⟨rfl, Still.refl _⟩
end Mine
end
section
open PySem PySem.W PySem.Calls PyProof.Rows PySem.SeqAt
namespace Mine
variable {W : Wd} {n : Nat} {G H : GH} {C : Bool → GH → Prop} {K : KV} {s : Shared}
theorem GH.un_empty (U : GH) : GH.un U GH.empty = U := by funext a; rfl
theorem Repr.kept {prog w AT B os₀} {U : GH} (R : Repr prog w AT B os₀ U s) {h' : Heap} {tk : Nat} {dr : Drawn} (hk : ∀ b o, s.heap.get? b = some o → h'.get? b = some o) : Repr prog w AT B os₀ U ⟨h', s.gens, dr, tk, s.os⟩ := by
  have := Repr.grow (N := GH.empty) R (h' := h') (tk := tk) (dr := dr) hk (fun a g e => by wide_open using e)
  rwa [GH.un_empty] at this
theorem Repr.newAt (R : W.R (H.un G) s) {h' : Heap} {tk : Nat} {dr : Drawn} (hk : ∀ b o, s.heap.get? b = some o → h'.get? b = some o) {a : Addr} {g : GO} (ha : s.heap.objs.size ≤ a) (hg : g.isInst = false)
    (ho : ∀ d, Own W.prog W.w W.AT h' d a g) : H a = none ∧ G a = none ∧ W.R (H.un (G.set a g)) ⟨h', s.gens, dr, tk, s.os⟩ := by
  have fr : (H.un G) a = none := by
    cases q : (H.un G) a with
    | none => rfl
    | some x => exact absurd (R.lt q) (Nat.not_lt.mpr ha)
  have gn : G a = none := by
    cases q : G a with
    | none => rfl
    | some x => wide_line with GH.un_right q using fr
  have hn : H a = none := by rwa [GH.un_left gn] at fr
  refine (i_AA hn gn ?_)
  have := Repr.grow (N := GH.empty.set a g) R (h' := h') (tk := tk) (dr := dr) hk (fun b x e => by
    by_cases hb : b = a
    · subst hb
      rw [GH.set_self] at e
      wide_open using e
      exact (i_AA ha hg ho)
    · wide_line with GH.set_ne _ _ hb using e)
  rw [GH.un_set, GH.un_empty, ← GH.un_set] at this
  exact this
theorem vals1 {vs : List Value} {x : Value} (h : vs.map er = [x]) : ∃ v, vs = [v] ∧ er v = x := by
  obtain ⟨v, r, rfl, e, h⟩ := List.map_eq_cons_iff.mp h
  cases List.map_eq_nil_iff.mp h
  exact (i_EA v rfl e)
theorem vals2 {vs : List Value} {x y : Value} (h : vs.map er = [x, y]) : ∃ v u, vs = [v, u] ∧ er v = x ∧ er u = y := by
  obtain ⟨v, r, rfl, e, h⟩ := List.map_eq_cons_iff.mp h
  refine o_EA (vals1 h) fun u e92 e2 => ?_; subst e92
  exact (i_EEAA v u rfl e e2)
theorem vals3 {vs : List Value} {x y z : Value} (h : vs.map er = [x, y, z]) : ∃ v u t, vs = [v, u, t] ∧ er v = x ∧ er u = y ∧ er t = z := by
  obtain ⟨v, r, rfl, e, h⟩ := List.map_eq_cons_iff.mp h
  refine o_EEAA (vals2 h) fun u t e93 e2 e3 => ?_; subst e93
  exact (i_EEEAAA v u t rfl e e2 e3)
theorem fitLine {k : Nat} (h : k ≤ sizeLine) : (k : Int) < 2 ^ 63 := by unfold sizeLine at h; omega
theorem len_list_ok {a : Addr} {xs : List Value} (h : G a = some (.list xs)) (k : K (.int xs.length 0) G) : CallT W n (.builtin "len") [.ref a] G K := callT_still k fun A fv vs H s hA hf hv R => by
  refine o_EA (vals1 hv) fun v e92 e => ?_; subst e92
  (wide_line using er_ref e; wide_open with er_builtin hf)
  refine o_EAA (R.list (GH.un_right h)) fun us hl he hz => ?_
  refine Calls.call_len_list hl.isList (fitLine hz) ⟨?_, Still.tok _ _⟩
  ((first | refine he ▸ ?_ | rewrite [← he]); try with_reducible rfl); simp [er]
theorem len_tup_ok {a : Addr} {xs : List Value} (h : G a = some (.tup xs)) (k : K (.int xs.length 0) G) : CallT W n (.builtin "len") [.ref a] G K := callT_still k fun A fv vs H s hA hf hv R => by
  refine o_EA (vals1 hv) fun v e92 e => ?_; subst e92
  (wide_line using er_ref e; wide_open with er_builtin hf)
  refine o_EAA (R.tup (GH.un_right h)) fun us hl he hz => ?_
  refine PyProof.Rows.len_tuple hl (fitLine hz) ⟨?_, Still.tok _ _⟩
  ((first | refine he ▸ ?_ | rewrite [← he]); try with_reducible rfl); simp [er]
theorem range1_ok {i : Int} (k : newG (.range 0 i) G K) : CallT W n (.type "range") [.int i 0] G K := fun A fv vs hA hf hv H s z9 D R => by
  refine o_EA (vals1 hv) fun v e92 e => ?_; subst e92
  obtain ⟨t, rfl⟩ := er_int e
  wide_open with er_type hf
  exact call_range_1 (i_EAA _ (D.setG R.fr.1) (R.pushG _ (.range 0 i) rfl rfl (fun d z => (i_EEE _ _ _ z))) (k _ R.fr.2))
theorem range2_ok {i j : Int} (k : newG (.range i j) G K) : CallT W n (.type "range") [.int i 0, .int j 0] G K := fun A fv vs hA hf hv H s z9 D R => by
  refine o_EEAA (vals2 hv) fun v u e93 e1 e2 => ?_; subst e93
  obtain ⟨t, rfl⟩ := er_int e1
  obtain ⟨t', rfl⟩ := er_int e2
  wide_open with er_type hf
  exact call_range_2 (i_EAA _ (D.setG R.fr.1) (R.pushG _ (.range i j) rfl rfl (fun d z => (i_EEE _ _ _ z))) (k _ R.fr.2))
theorem abs_ok {i : Int} (k : K (.int (if i < 0 then -i else i) 0) G) : CallT W n (.builtin "abs") [.int i 0] G K := callT_still k fun A fv vs H s hA hf hv R => by
  refine o_EA (vals1 hv) fun v e92 e => ?_; subst e92
  obtain ⟨t, rfl⟩ := er_int e
  wide_open with er_builtin hf
  exact call_abs_int fun u tk => ⟨by split <;> rfl, Still.tok _ _⟩
set_option tactic.hygienic true in
theorem max2_ok {i j : Int} (k : K (.int (if j > i then j else i) 0) G) : CallT W n (.builtin "max") [.int i 0, .int j 0] G K := fun A fv vs hA hf hv H s z9 D R => by
  refine o_EEAA (vals2 hv) fun v u e93 e1 e2 => ?_; subst e93
  obtain ⟨t, rfl⟩ := er_int e1
  obtain ⟨t', rfl⟩ := er_int e2
  wide_open with er_builtin hf
  refine max_two_ints hA.1 fun h' tk hk => (i_EAA G D (R.kept hk) ?_)
  split at k <;> rename_i h <;> simp only [h, if_true, if_false, er] <;> exact k
set_option tactic.hygienic true in
theorem min2_ok {i j : Int} (k : K (.int (if j < i then j else i) 0) G) : CallT W n (.builtin "min") [.int i 0, .int j 0] G K := fun A fv vs hA hf hv H s z9 D R => by
  refine o_EEAA (vals2 hv) fun v u e93 e1 e2 => ?_; subst e93
  obtain ⟨t, rfl⟩ := er_int e1
  obtain ⟨t', rfl⟩ := er_int e2
  wide_open with er_builtin hf
  refine min_two_ints hA.1 fun h' tk hk => (i_EAA G D (R.kept hk) ?_)
  split at k <;> rename_i h <;> simp only [h, if_true, if_false, er] <;> exact k
theorem min_list_ok {a : Addr} {ns : List Int} (h : G a = some (.list (ns.map vInt))) (hne : 0 < ns.length) (k : ∀ M, M ∈ ns → (∀ x ∈ ns, M ≤ x) → K (.int M 0) G) : CallT W n (.builtin "min") [.ref a] G K := fun A fv vs hA hf hv H s z9 D R => by
  refine o_EA (vals1 hv) fun v e92 e1 => ?_; subst e92
  (wide_line using er_builtin hf; wide_open with er_ref e1)
  refine o_EAA (R.list (GH.un_right h)) fun us hl he hz => ?_
  have hi := ints_of he
  obtain ⟨xs, e⟩ := hi.allInts.items
  have hus : us.toList.toArray = us := by simp
  rw [hus] at e
  have hns : ns = xs.toList.map (·.1) := by
    ((first | refine hi.numsOf ▸ ?_ | rewrite [← hi.numsOf]); (first | refine nums_intItems ▸ ?_ | rewrite [← nums_intItems]); (first | refine e ▸ ?_ | rewrite [← e]); try with_reducible rfl)
  have hsz : 0 < xs.size := by
    have h3 := hne; rw [hns, List.length_map, Array.length_toList] at h3; exact h3
  refine min_intList hA.1 (by ((first | refine e ▸ ?_ | rewrite [← e]); try with_reducible rfl); exact hl.isList) hsz fun v h' tk hv hk => ?_
  obtain ⟨t, rfl⟩ := intItems_at hv
  obtain ⟨h1, h2⟩ := argBest_lt (numAt xs) (xs.size - 1)
  refine (i_EAA G D (R.kept hk) (k _ ?_ fun a ha => ?_))
  · (wide_line using hns; wide_open with numAt_eq); exact getD_mem (by (wide_line using List.length_map; wide_open with Array.length_toList); omega)
  · rw [hns] at ha
    refine o_EA (mem_getD ha) fun j hj e93 => ?_; subst e93
    rw [List.length_map, Array.length_toList] at hj
    ((first | refine numAt_eq ▸ ?_ | rewrite [← numAt_eq]); try with_reducible rfl); exact h2 j (by omega)
theorem sum_list_ok {a : Addr} {ns : List Int} (h : G a = some (.list (ns.map vInt))) (k : K (.int ns.sum 0) G) : CallT W n (.builtin "sum") [.ref a] G K := fun A fv vs hA hf hv H s z9 D R => by
  refine o_EA (vals1 hv) fun v e92 e1 => ?_; subst e92
  (wide_line using er_builtin hf; wide_open with er_ref e1)
  refine o_EAA (R.list (GH.un_right h)) fun us hl he hz => ?_
  have hi := ints_of he
  obtain ⟨xs, e⟩ := hi.allInts.items
  have hus : us.toList.toArray = us := by simp
  rw [hus] at e
  have hns : ns = xs.toList.map (·.1) := by
    ((first | refine hi.numsOf ▸ ?_ | rewrite [← hi.numsOf]); (first | refine nums_intItems ▸ ?_ | rewrite [← nums_intItems]); (first | refine e ▸ ?_ | rewrite [← e]); try with_reducible rfl)
  refine sum_intListG hA.1 (by rw [← e]; exact hl.isList) fun h' tk t' hk => (i_EAA G D (R.kept hk) ?_)
  have e2 : preSum (numAt xs) xs.size = ns.sum := by
    (wide_line using preSum_eq; wide_line using List.take_of_length_le (by simp); wide_open with hns)
  wide_open with e2
  exact k
end Mine
end
section
open PySem PySem.W PySem.Calls PyProof.Rows PySem.SeqAt
namespace Mine
variable {W : Wd} {n : Nat} {G H : GH} {C : Bool → GH → Prop} {K : KV} {s : Shared}
theorem own_list {w h d} {prog : Program} {AT : Names} {a : Addr} {us : Array Value} {c : Nat} {xs : List Value} (e : h.get? a = some { cls := .type "list", data := .seq us c }) (he : us.toList.map er = xs) (hz : us.size ≤ sizeLine) : Own prog w AT h d a (.list xs) := (i_EAA us ⟨c, e⟩ he hz)
theorem own_tup {w h d} {prog : Program} {AT : Names} {a : Addr} {us : Array Value} {c : Nat} {xs : List Value} (e : h.get? a = some { cls := .type "tuple", data := .seq us c }) (he : us.toList.map er = xs) (hz : us.size ≤ sizeLine) : Own prog w AT h d a (.tup xs) := (i_EEAA us c e he hz)
theorem list_of_list_ok {a : Addr} {xs : List Value} (h : G a = some (.list xs)) (k : newG (.list xs) G K) : CallT W n (.type "list") [.ref a] G K := fun A fv vs hA hf hv H s z9 D R => by
  refine o_EA (vals1 hv) fun v e92 e1 => ?_; subst e92
  (wide_line using er_type hf; wide_open with er_ref e1)
  refine o_EAA (R.list (GH.un_right h)) fun us n92 he hz => ?_; obtain ⟨c, hl⟩ := n92
  refine call_list_seq a (.inl rfl) hl rfl rfl (fun h' c' hk hg => ?_) hz
  refine o_AA (Repr.newAt R (tk := s.toks) (dr := s.drawn) hk (g := .list xs) (Nat.le_refl _) rfl fun d => own_list hg he hz) fun h1 h2 h3 => ?_
  exact (i_EAA _ (D.setG h1) h3 (k _ h2))
theorem tup_of_list_ok {a : Addr} {xs : List Value} (h : G a = some (.list xs)) (k : newG (.tup xs) G K) : CallT W n (.type "tuple") [.ref a] G K := fun A fv vs hA hf hv H s z9 D R => by
  refine o_EA (vals1 hv) fun v e92 e1 => ?_; subst e92
  (wide_line using er_type hf; wide_open with er_ref e1)
  refine o_EAA (R.list (GH.un_right h)) fun us hl he hz => ?_
  refine call_tuple_list hl.isList (fun h' hk => ?_) hz
  have R2 := Repr.kept R (h' := h') (tk := s.toks) (dr := s.drawn) hk
  exact (i_EAA _ (D.setG R2.fr.1) (R2.pushG _ (.tup xs) rfl rfl (fun d e => own_tup e he hz)) (k _ R2.fr.2))
theorem append_ok {a : Addr} {xs : List Value} {v : Value} (h : G a = some (.list xs)) (hz : small xs.length) (k : K .none (G.set a (.list (xs ++ [v])))) : CallT W n (.builtin "list.append") [.ref a, v] G K := fun A fv vs hA hf hv H s z9 D R => by
  refine o_EEAA (vals2 hv) fun u1 u2 e93 e1 e2 => ?_; subst e93
  (wide_line using er_builtin hf; wide_open with er_ref e1)
  refine o_EAA (R.list (GH.un_right h)) fun us n92 he hz' => ?_; obtain ⟨c, hl⟩ := n92
  refine append_at hl (fun h' hs hg => ?_) hz'
  refine (i_EAA _ (D.setG (D.right h)) ?_ k)
  wide_open with GH.un_set
  refine R.ext (GH.un_right h) rfl rfl hs.extBut fun d z9 => own_list hg ?_ ?_
  · (wide_line using Array.toList_push; wide_line using List.map_append; wide_open with he); simp [e2]
  · have : us.size = xs.length := by ((first | refine he ▸ ?_ | rewrite [← he]); try with_reducible rfl); simp
    (wide_line using Array.size_push; wide_open with this); unfold small at hz; unfold sizeLine; lia
theorem pop0_ok {a : Addr} {x : Value} {xs : List Value} (h : G a = some (.list (x :: xs))) (k : K x (G.set a (.list xs))) : CallT W n (.builtin "list.pop") [.ref a, .int 0 0] G K := fun A fv vs hA hf hv H s z9 D R => by
  refine o_EEAA (vals2 hv) fun u1 u2 e93 e1 e2 => ?_; subst e93
  obtain ⟨t, rfl⟩ := er_int e2
  (wide_line using er_builtin hf; wide_open with er_ref e1)
  refine o_EAA (R.list (GH.un_right h)) fun us n92 he hz' => ?_; obtain ⟨c, hl⟩ := n92
  obtain ⟨y, ul, rfl, hy, hu⟩ : ∃ y ul, us = (y :: ul).toArray ∧ er y = x ∧ ul.map er = xs := by
    obtain ⟨l⟩ := us
    match l, he with
    | y :: ul, he => exact (i_EEA y ul rfl (by simpa using he))
  have hup : ∀ tk, W.R (H.un (G.set a (.list xs))) ⟨s.heap.update a (Obj.mapSeq fun xs => xs.eraseIdxIfInBounds 0), s.gens, s.drawn, tk, s.os⟩ := fun tk => by
    wide_open with GH.un_set
    refine R.ext (GH.un_right h) rfl rfl (Heap.SameBut.update ..).extBut fun d z9 => ?_
    have hg := get?_update_seq hl (fun xs => xs.eraseIdxIfInBounds 0)
    refine own_list hg ?_ ?_
    · ((first | refine hu ▸ ?_ | rewrite [← hu]); try with_reducible rfl); simp [Array.eraseIdxIfInBounds]
    · simp [Array.eraseIdxIfInBounds] at hz' ⊢; lia
  refine call_meets PySem.F.slot_list_pop (i_EA _ hl rfl) PySem.F.entry_list_pop (PySem.F.args_list_pop_2 _ _) (PySem.MeetsSeq.list_pop_at a _ c 0 t 0 y (by decide) (by simp [seqIndex?]) (by simp) hz') ⟨hl, ?_⟩
  exact (i_EAA _ (D.setG (D.right h)) (hup _) (by refine (?_ : K (er y) _); wide_open with hy; exact k))
theorem get_of_stored {kvs : List (Int × Value)} {es : List (Int × Value)} (he : kvs.map (fun p => (p.1, er p.2)) = es) (k : Int) : (valueAt kvs k).map er = es.lookup k := by
  subst he
  induction kvs with
  | nil => rfl
  | cons p r ih =>
    obtain ⟨a, b⟩ := p
    simp only [List.map_cons, List.lookup_cons]
    by_cases h : k = a
    · subst h; simp [valueAt]
    · have h' : ¬ a = k := fun e => h e.symm
      simp only [valueAt, List.find?_cons, decide_eq_false h'] at ih ⊢
      wide_open with ih
      have : (k == a) = false := by simpa using h
      rw [this]
theorem dict_get_ok {a : Addr} {es : List (Int × Value)} {ep : Nat} {i : Int} {dv : Value} (h : G a = some (.dict es ep)) (k : K ((es.lookup i).getD dv) G) : CallT W n (.builtin "dict.get") [.ref a, .int i 0, dv] G K := callT_still k fun A fv vs H s hA hf hv R => by
  refine o_EEEAAA (vals3 hv) fun u1 u2 u3 e94 e1 e2 e3 => ?_; subst e94
  obtain ⟨t, rfl⟩ := er_int e2
  (wide_line using er_builtin hf; wide_open with er_ref e1)
  refine o_EEAAA (R.at (GH.un_right h)) fun z9 kvs hd he hz hy => ?_
  have hm := hd.dictOf.mapOf
  refine call_meetsIn PySem.F.slot_dict_get hm.typeIs PySem.F.entry_dict_get (PySem.F.args_dict_get_3 _ _ _) (meets_dict_get_default (intKind W.prog W.w) (k := i) a (by simp [intKind, Value.isInt]) (by simpa using hy) u3) (i_EAA _ hm ?_ (Still.tok _ _))
  ((first | refine (get_of_stored he i) ▸ ?_ | rewrite [← get_of_stored he i]); (first | refine e3 ▸ ?_ | rewrite [← e3]); try with_reducible rfl)
  cases valueAt kvs i <;> rfl
end Mine
end
section
open PySem PySem.W PySem.Calls PyProof.Rows PySem.SeqAt
namespace Mine
variable {W : Wd} {n : Nat} {G H : GH} {C : Bool → GH → Prop} {K : KV} {s : Shared}
theorem concat_ok {a b : Addr} {xs ys : List Value} (h : G a = some (.list xs)) (h2 : G b = some (.list ys)) (hz : small (xs.length + ys.length)) (k : newG (.list (xs ++ ys)) G K) : binG W n .Add (.ref a) (.ref b) G K := fun A va vb hA ha hb H s z9 D R => by
  (wide_line using er_ref ha; wide_open with er_ref hb)
  refine o_EAA (R.list (GH.un_right h)) fun us n92 he hz1 => ?_; obtain ⟨c, hl⟩ := n92
  refine o_EAA (R.list (GH.un_right h2)) fun ws n92 he2 hz2 => ?_; obtain ⟨c2, hl2⟩ := n92
  have l1 : us.size = xs.length := by ((first | refine he ▸ ?_ | rewrite [← he]); try with_reducible rfl); simp
  have l2 : ws.size = ys.length := by ((first | refine he2 ▸ ?_ | rewrite [← he2]); try with_reducible rfl); simp
  have hz3 : us.size + ws.size ≤ sizeLine := by (wide_line using l1; wide_open with l2); unfold small at hz; unfold sizeLine; lia
  refine wpAny_binaryOp_concat (T := "list") (i_EA _ hl rfl) (i_EA _ hl2 rfl) PySem.noFill_list_add PySem.seq_list_add
    (call_meets PySem.F.slot_list_add (i_EA _ hl rfl) PySem.F.entry_list_add (PySem.F.args_list_add_2 _ _) (AutoSeq1.list___add___list_list_0 a us c b ws c2 hz3) (i_AA hl hl2 ?_))
  exact (i_EAA _ (D.setG R.fr.1) (R.pushG _ (.list (xs ++ ys)) rfl rfl (fun d e => own_list e (by (wide_line using Array.toList_append; wide_line using List.map_append; wide_line using he; wide_open with he2)) (by wide_open with Array.size_append; exact hz3))) (k _ R.fr.2))
theorem noFill_tuple_mul : fillsNumberSlot (.type "tuple") "mul" = pure false :=
  PySem.fillsNumberSlot_seq (id := "tuple.__mul__") (r := some (.builtin "tuple.__rmul__")) PySem.F.slot_tuple_mul.lookup (by decide +kernel) PySem.F.slot_tuple_rmul.lookup (by decide +kernel)
theorem repeat_tuple : seqRepeat? (.type "tuple") = pure (some (.builtin "tuple.__mul__")) := by
  unfold seqRepeat?
  (wide_line using PySem.seqSlot_of (T := "tuple") (name := "__mul__") (id := "tuple.__mul__") PySem.F.slot_tuple_mul.lookup (by decide +kernel); wide_open with PySem.seqSlot_of (T := "tuple") (name := "__rmul__") (id := "tuple.__rmul__") PySem.F.slot_tuple_rmul.lookup (by decide +kernel))
  rfl
theorem int_rmul_tuple (a : Int) (t : Tok) (l : Addr) (items : Array Value) (n : Nat) :
    Meets (Builtin.«int.__rmul__» ⟨[.int a t, .ref l], []⟩) (fun z9 R s => s.heap.get? l = some { cls := .type "tuple", dict := none, data := .seq items n, slots := #[] } ∧ R (.ok (.ret Value.notImplemented)) s) :=
  .of_wp fun prog w A R s h => by obtain ⟨hp, g, d, tk, os⟩ := s; obtain ⟨hl, h⟩ := h; wp_walk; exact (i_EA _ rfl h)
theorem tuple_mul_one (l : Addr) (items : Array Value) (n : Nat) (u : Tok) :
    Meets (Builtin.«tuple.__mul__» ⟨[.ref l, .int 1 u], []⟩) (fun z9 R s => s.heap.get? l = some { cls := .type "tuple", dict := none, data := .seq items n, slots := #[] } ∧ R (.ok (.ret (.ref l))) s) :=
  .of_wp fun prog w A R s h => by obtain ⟨hp, g, d, tk, os⟩ := s; obtain ⟨hl, h⟩ := h; have f1 := AutoSeq1.idx_int; wp_walk using AutoSeq1.wpAny_loadPart' hl; exact (i_EA _ rfl h)
theorem tuple_mul_none (l : Addr) (items : Array Value) (n : Nat) (u : Tok) (hne : ¬ (items.isEmpty || (0 : Int) == 1) = true) :
    Meets (Builtin.«tuple.__mul__» ⟨[.ref l, .int 0 u], []⟩) (fun z9 R s => s.heap.get? l = some { cls := .type "tuple", dict := none, data := .seq items n, slots := #[] } ∧ R (.ok (.ret (.ref s.heap.objs.size))) { s with heap := s.heap.push { cls := .type "tuple", data := .seq #[] } }) :=
  .of_wp fun prog w A R s h => by obtain ⟨hp, g, d, tk, os⟩ := s; obtain ⟨hl, h⟩ := h; have f1 := AutoSeq1.idx_int; wp_walk using AutoSeq1.wpAny_loadPart' hl; refine wpAny_ite_false (decide_eq_false hne) ?_; wp_walk; exact (i_EA _ rfl h)
theorem tuple_mul_many (l : Addr) (items : Array Value) (n : Nat) (k : Nat) (u : Tok) (hne : items.isEmpty = false) (hk : 2 ≤ k) (hk' : k ≤ 64) (hi : items.size ≤ 64) :
    Meets (Builtin.«tuple.__mul__» ⟨[.ref l, .int (k : Int) u], []⟩) (fun z9 R s => s.heap.get? l = some { cls := .type "tuple", dict := none, data := .seq items n, slots := #[] } ∧ R (.ok (.ret (.ref s.heap.objs.size))) { s with heap := s.heap.push { cls := .type "tuple", data := .seq ((List.replicate k items).foldl (· ++ ·) #[]) } }) :=
  .of_wp fun prog w A R s h => by
    obtain ⟨hp, g, d, tk, os⟩ := s; obtain ⟨hl, h⟩ := h; have f1 := AutoSeq1.idx_int
    have hm : items.size * k ≤ 4096 := Nat.le_trans (Nat.mul_le_mul hi hk') (by decide)
    have hm' : (items.size : Int) * (k : Int) ≤ 4096 := by exact_mod_cast hm
    have h1 : ¬ (decide ((k : Int) < -(2 ^ 63)) || decide ((k : Int) ≥ 2 ^ 63)) = true := by (wide_line using Bool.not_eq_true; wide_open with Bool.or_eq_false_iff); constructor <;> wide_open with decide_eq_false_iff_not <;> lia
    have h2 : ¬ (items.isEmpty || (k : Int) == 1) = true := by (wide_line using Bool.not_eq_true; wide_line using hne; wide_line using Bool.false_or; wide_open with beq_eq_false_iff_ne); lia
    have h3 : ¬ (decide ((k : Int) ≤ 0) || items.isEmpty) = true := by (wide_line using Bool.not_eq_true; wide_line using hne; wide_line using Bool.or_false; wide_open with decide_eq_false_iff_not); lia
    have h4 : ¬ ((items.size : Int) * (k : Int) > (2 ^ 63 - 1) / 8) := by lia
    have h5 : ¬ Builtin.Tuple.tupleTooMany ((items.size : Int) * (k : Int)) = true := by wide_open with Bool.not_eq_true; unfold Builtin.Tuple.tupleTooMany sizeLine; wide_open with decide_eq_false_iff_not; lia
    have hs : ((List.replicate k items).foldl (· ++ ·) #[]).size ≤ sizeLine := by
      wide_open with AutoSeq1.size_joined
      have : k * items.size ≤ 4096 := by wide_open with Nat.mul_comm; exact hm
      simp only [List.size_toArray, List.length_nil]
      unfold sizeLine; lia
    wp_walk using AutoSeq1.wpAny_loadPart' hl
    refine wpAny_ite_false (decide_eq_false h1) ?_
    wp_walk using AutoSeq1.wpAny_loadPart' hl
    refine wpAny_ite_false (decide_eq_false h2) ?_
    wp_walk
    refine wpAny_ite_false (decide_eq_false h3) ?_
    wp_walk
    refine wpAny_ite_false (decide_eq_false h4) ?_
    wp_walk
    exact (i_EA _ rfl h)
theorem foldl_toList (items : Array Value) : ∀ (k : Nat) (acc : Array Value), ((List.replicate k items).foldl (· ++ ·) acc).toList = acc.toList ++ (List.replicate k items.toList).flatten
  | 0, acc => by simp
  | k + 1, acc => by (wide_line using List.replicate_succ; wide_line using List.foldl_cons; wide_line using foldl_toList items k; wide_line using List.replicate_succ; wide_line using List.flatten_cons; wide_line using Array.toList_append; wide_open with List.append_assoc)
theorem rep_ok {a : Addr} {xs : List Value} {k : Nat} (h : G a = some (.tup xs)) (hne : xs ≠ []) (hx : xs.length ≤ 64) (hk : k ≤ 64)
    (kk : ∀ b G', Sub G G' → G' b = some (.tup (List.replicate k xs).flatten) → (∀ c, c ≠ b → G' c = G c) → K (.ref b) G') : binG W n .Mult (.ref a) (.int (k : Int) 0) G K := fun A va vb hA ha hb H s z9 D R => by
  obtain ⟨t, rfl⟩ := er_int hb
  wide_open with er_ref ha
  refine o_EEEAA (R.at (GH.un_right h)) fun z9 us c hl he hz => ?_
  have l1 : us.size = xs.length := by ((first | refine he ▸ ?_ | rewrite [← he]); try with_reducible rfl); simp
  have hne' : us.isEmpty = false := by
    cases hq : us.isEmpty with
    | false => rfl
    | true =>
      have : us.size = 0 := by simpa using hq
      exact absurd (List.length_eq_zero_iff.mp (by lia)) hne
  refine wpAny_binaryOp_repeat_ref (T := "tuple") (U := "int") (by decide) (i_EA _ hl rfl) (fun s' => typeIs_int s' k t) noFill_tuple_mul PySem.F.fills_int_mul PySem.F.slot_int_rmul repeat_tuple PySem.F.slot_int_index.lookup
    (call_meets PySem.F.slot_int_rmul (typeIs_int s k t) PySem.F.entry_int_rmul (PySem.F.args_int_rmul_2 _ _) (int_rmul_tuple k t a us c) (i_AAA hl rfl (i_EA _ hl rfl) ?_))
  rcases (show k = 0 ∨ k = 1 ∨ 2 ≤ k by lia) with rfl | rfl | h2
  · refine call_meets PySem.F.slot_tuple_mul (i_EA _ hl rfl) PySem.F.entry_tuple_mul (PySem.F.args_tuple_mul_2 _ _) (tuple_mul_none a us c t (by wide_open with hne'; decide)) ⟨hl, ?_⟩
    have fr := R.fr
    exact (i_EAA _ (D.setG fr.1) (R.pushG _ (.tup []) rfl rfl (fun d e => own_tup e rfl (Nat.zero_le _))) (kk _ _ (fun b g e => by wide_open with GH.set_ne; exact e; rintro rfl; wide_line with fr.2 using e) (by simp) fun c hc => GH.set_ne _ _ hc))
  · refine call_meets PySem.F.slot_tuple_mul (i_EA _ hl rfl) PySem.F.entry_tuple_mul (PySem.F.args_tuple_mul_2 _ _) (tuple_mul_one a us c t) ⟨hl, ?_⟩
    exact (i_EAA G D R (kk _ _ (fun z9 z9 e => e) (by simpa using h) fun z9 z9 => rfl))
  · have hsz : ((List.replicate k us).foldl (· ++ ·) #[]).size ≤ sizeLine := by
      wide_open with AutoSeq1.size_joined
      have : k * us.size ≤ 64 * 64 := Nat.mul_le_mul hk (by lia)
      simp only [List.size_toArray, List.length_nil]
      unfold sizeLine; lia
    refine call_meets PySem.F.slot_tuple_mul (i_EA _ hl rfl) PySem.F.entry_tuple_mul (PySem.F.args_tuple_mul_2 _ _) (tuple_mul_many a us c k t hne' h2 hk (by lia)) ⟨hl, ?_⟩
    have fr := R.fr
    refine (i_EAA _ (D.setG fr.1) (R.pushG _ (.tup (List.replicate k xs).flatten) rfl rfl (fun d e => own_tup e ?_ hsz)) (kk _ _ (fun b g e => by wide_open with GH.set_ne; exact e; rintro rfl; wide_line with fr.2 using e) (by simp) fun c hc => GH.set_ne _ _ hc))
    wide_open with foldl_toList
    simp [List.map_flatten, List.map_replicate, he]
noncomputable def cut (xs : List Value) (lo hi : Option Nat) : List Value := (xs.take (hi.getD xs.length)).drop (lo.getD 0)
noncomputable def partV : Option Nat → Value
  | none => .none
  | some k => .int k 0
noncomputable def partI : Option Nat → Option Int := Option.map fun k => (k : Int)
theorem part_of {v : Value} {p : Option Nat} (h : er v = partV p) : IsPart v (partI p) := by
  cases p with
  | none => wide_open with er_none h; exact .none
  | some k => obtain ⟨t, rfl⟩ := er_int h; exact .int _ _
theorem slicePick_cut (us : Array Value) (lo hi : Option Nat) : (slicePick us (partI lo) (partI hi) none).toList = (us.toList.take (hi.getD us.size)).drop (lo.getD 0) := by
  have e : sliceBounds (partI lo) (partI hi) none us.size = (((min (lo.getD 0) us.size : Nat) : Int), ((min (hi.getD us.size) us.size : Nat) : Int), 1) := by
    simp only [sliceBounds, Option.getD_none]
    simp only [show (1 : Int) > 0 by decide, if_true]
    congr 1
    · cases lo with
      | none => simp [partI]
      | some a =>
        have : ¬ ((a : Int) < 0) := by lia
        simp only [partI, Option.map_some, this, if_false, Option.getD_some]; lia
    · congr 1
      cases hi with
      | none => simp [partI]
      | some a =>
        have : ¬ ((a : Int) < 0) := by lia
        simp only [partI, Option.map_some, this, if_false, Option.getD_some]; lia
  unfold slicePick
  wide_open with e
  simp only [sliceRange_one, pick_run]
  ((first | refine List.drop_take ▸ ?_ | rewrite [← List.drop_take]); try with_reducible rfl)
  rw [show ∀ a b : Nat, (List.take (min b us.size) us.toList).drop (min a us.size) = (List.take b us.toList).drop a from fun a b => by
    have h1 : List.take (min b us.size) us.toList = List.take b us.toList := by
      ((first | refine Array.length_toList ▸ ?_ | rewrite [← Array.length_toList]); wide_open with List.take_eq_take_iff); simp
    wide_open with h1
    rcases Nat.le_total a us.size with h | h
    · wide_open with Nat.min_eq_left h
    · (wide_line using Nat.min_eq_right h; wide_line using List.drop_eq_nil_of_le (by simp; lia); wide_open with List.drop_eq_nil_of_le (by simp; lia))]
theorem Repr.hid {o : Obj} {a : Addr} (D : Disj H G) (R : W.R (H.un G) s) (h : H a = some (.raw o)) : s.heap.get? a = some o := by
  obtain ⟨_, e⟩ := R.at (show (H.un G) a = some (.raw o) by wide_open with GH.un_left (D.left h); exact h)
  exact e
theorem slice_list_ok {a : Addr} {xs : List Value} {l u : Value} {lo hi : Option Nat} (h : G a = some (.list xs)) (hl : l = partV lo) (hu : u = partV hi) (k : newG (.list (cut xs lo hi)) G K) : sliceG W n (.ref a) l u .none G K :=
  fun A vo vl vu vs sl value slice hA ho el eu es hop H s hs D R => by
  obtain ⟨ops, hop⟩ := hop
  rw [er_ref ho] at hop ⊢
  refine o_EAA (R.list (GH.un_right h)) fun us hll he hz => ?_
  have l1 : us.size = xs.length := by ((first | refine he ▸ ?_ | rewrite [← he]); try with_reducible rfl); simp
  have hss : s.heap.IsSliceOf sl vl vu vs := (i_EAA _ (R.hid D hs) rfl rfl)
  refine tail_any hll.isList.typeIs slot_list_getitem.lookup ?_ hop
  refine wpAny_getItem_list_slice hll.isList hss (part_of (el.trans hl)) (part_of (eu.trans hu)) (by rw [er_none es]; exact .none) (by simp) ?_ hz
  refine (i_EAA _ (D.setG R.fr.1) (R.pushG _ (.list (cut xs lo hi)) rfl rfl (fun d e => own_list e ?_ (Nat.le_trans (slicePick_size_le ..) hz))) (k _ R.fr.2))
  (wide_line using slicePick_cut; wide_line using List.map_drop; wide_line using List.map_take; wide_line using he; wide_open with l1)
  rfl
theorem slice_base_ok {a : Addr} {us : Array Value} {l u : Value} {lo hi : Option Nat} (h : W.B.IsList a us) (hz : us.size ≤ sizeLine) (hl : l = partV lo) (hu : u = partV hi) (k : newG (.list (cut (us.toList.map er) lo hi)) G K) : sliceG W n (.ref a) l u .none G K :=
  fun A vo vl vu vs sl value slice hA ho el eu es hop H s hs D R => by
  obtain ⟨ops, hop⟩ := hop
  rw [er_ref ho] at hop ⊢
  have hll : s.heap.IsList a us := let ⟨o, e, r⟩ := h; (i_EA o (R.keep _ _ e) r)
  have hss : s.heap.IsSliceOf sl vl vu vs := (i_EAA _ (R.hid D hs) rfl rfl)
  refine tail_any hll.typeIs slot_list_getitem.lookup ?_ hop
  refine wpAny_getItem_list_slice hll hss (part_of (el.trans hl)) (part_of (eu.trans hu)) (by rw [er_none es]; exact .none) (by simp) ?_ hz
  refine (i_EAA _ (D.setG R.fr.1) (R.pushG _ (.list (cut (us.toList.map er) lo hi)) rfl rfl (fun d e => own_list e ?_ (Nat.le_trans (slicePick_size_le ..) hz))) (k _ R.fr.2))
  (wide_line using slicePick_cut; wide_line using List.map_drop; wide_open with List.map_take)
  simp [cut]
end Mine
end
section
open PySem PySem.W PySem.Calls PyProof.Rows PySem.SeqAt
namespace Mine
variable {W : Wd} {n : Nat} {G H : GH} {C : Bool → GH → Prop} {K : KV} {s : Shared}
theorem ints_er {vs : List Value} {ns : List Int} (h : IntsAre vs ns) : vs.map er = ns.map vInt := by
  induction h with
  | nil => rfl
  | cons n t _ ih => simp [ih, er, vInt]
theorem sort_tail {A : Around} {ns : List Int} {vs : List Value} {h' : Heap} {tk : Nat} (hI : IntsAre vs ns) (h64 : vs.length < 64) (D : Disj H G) (R : W.R (H.un G) ⟨h', s.gens, s.drawn, tk, s.os⟩)
    (k : ∀ ns' : List Int, ns'.Perm ns → ns'.Pairwise (· ≤ ·) → newG (.list (ns'.map vInt)) G K) :
    wpAny W.M A (call (.builtin "list.sort") [.ref h'.objs.size]) (fun z9 s' => ∃ G', Disj H G' ∧ W.R (H.un G') s' ∧ K (.ref h'.objs.size) G') (fun z9 z9 => False) ⟨h'.push { cls := .type "list", data := .seq vs.toArray }, s.gens, s.drawn, tk, s.os⟩ := by
  have ho : (h'.push { cls := .type "list", data := .seq vs.toArray }).get? h'.objs.size = some (seqObj "list" vs.toArray 0) := Heap.get?_push_size _ rfl
  have hz : vs.toArray.size ≤ sizeLine := by simp; unfold sizeLine; lia
  have fr := R.fr
  have R1 := R.pushG { cls := .type "list", data := .seq vs.toArray } (.list (ns.map vInt)) rfl rfl (tk := tk) (dr := s.drawn) fun d e => own_list e (ints_er hI) hz
  refine wpAny_call_entry slot_list_sort (i_EA _ ho rfl) entry_list_sort (list_sort_tree ho hI h64 fun out ns' a1 a2 a3 => (i_EA _ rfl ?_)) (args_list_sort _)
  obtain ⟨e, he⟩ := sortedHeap_at (out := out) ho
  have R2 : W.R ((H.un (G.set h'.objs.size (.list (ns'.map vInt))))) ⟨sortedHeap (h'.push { cls := .type "list", data := .seq vs.toArray }) h'.objs.size vs out, s.gens, s.drawn, tk, s.os⟩ := by
    have z : (H.un (G.set h'.objs.size (.list (ns.map vInt)))) h'.objs.size = some (.list (ns.map vInt)) := GH.un_right (GH.set_self _ _ _)
    have := R1.ext (h' := sortedHeap (h'.push { cls := .type "list", data := .seq vs.toArray }) h'.objs.size vs out) (tk := tk) (dr := s.drawn) (g' := .list (ns'.map vInt)) z rfl rfl (fun b o hb eb => by wide_open with sortedHeap_old hb (Heap.lt_size eb); exact eb)
      fun d z9 => own_list he (ints_er a1) (by
        have := a1.length
        have h2 := a2.length_eq
        have h3 := hI.length
        simp only [Array.length_toList] at this
        unfold sizeLine; lia)
    rw [GH.un_set, GH.set_set] at this
    wide_open with GH.un_set
    exact this
  exact (i_EAA _ (D.setG fr.1) R2 (k ns' a2 a3 _ fr.2))
theorem sorted_dict_ok {a : Addr} {es : List (Int × Value)} {ep : Nat} (h : G a = some (.dict es ep)) (h64 : es.length < 64)
    (k : ∀ ns' : List Int, ns'.Perm (es.map (·.1)) → ns'.Pairwise (· ≤ ·) → newG (.list (ns'.map vInt)) G K) : CallT W n (.builtin "sorted") [.ref a] G K := fun A fv vs hA hf hv H s z9 D R => by
  refine o_EA (vals1 hv) fun v e92 e1 => ?_; subst e92
  (wide_line using er_builtin hf; wide_open with er_ref e1)
  refine o_EEAAA (R.at (GH.un_right h)) fun z9 kvs hd he hz hy => ?_
  have hlen : es.length = kvs.length := by ((first | refine he ▸ ?_ | rewrite [← he]); try with_reducible rfl); simp
  refine call_function_entry kind_sorted plain_sorted entry_sorted (args_sorted1 _) ?_
  unfold Builtin.«sorted»
  refine wpAny_bind (m := checkCount "sorted" 1 1 _) (wpAny_pure ?_)
  refine wpAny_bind (kdu_collect (A := A.in1) (kdl_dict (knd := intKind W.prog W.w) (kvs := kvs) (ep := ep) (by simpa using hy)) hA.1 hd hz fun h' tk acc hk hacc => ?_)
  have hl : acc.toList.length = kvs.length := by wide_open with Array.length_toList; exact hacc.1
  refine wpAny_bind (wpAny_newList ?_ (by wide_open with hl; exact hz))
  have hI : IntsAre acc.toList (es.map (·.1)) := by
    refine ints_of ?_
    apply List.ext_getElem?
    intro i
    (wide_line using List.getElem?_map; wide_line using List.getElem?_map; wide_open with List.getElem?_map)
    cases hq : acc.toList[i]? with
    | none =>
      have : es[i]? = none := by rw [List.getElem?_eq_none_iff] at hq ⊢; lia
      wide_open with this; rfl
    | some v =>
      refine o_EEA (hacc.2 i v (by ((first | refine (Array.getElem?_toList) ▸ ?_ | rewrite [← Array.getElem?_toList]); try with_reducible rfl); exact hq)) fun kk x hx hkey => ?_
      have : es[i]? = some (kk, er x) := by ((first | refine he ▸ ?_ | rewrite [← he]); wide_line using List.getElem?_map; wide_open with hx); rfl
      rw [this]
      have hv : v.isInt kk = true := hkey
      cases v <;> simp_all [Value.isInt, er, vInt]
  refine wpAny_bind (wpAny_holding (wpAny_mono (sort_tail (H := H) (G := G) (K := K) (s := s) (tk := tk) hI (by wide_open with hl; lia) D (R.kept hk) k) (fun z9 s' x => ?_) fun z9 z9 e => e))
  exact wpAny_pure (i_EA _ rfl x)
end Mine
end
section
open PySem PySem.W PySem.Calls PyProof.Rows PySem.SeqAt
namespace Mine
variable {W : Wd} {n : Nat} {G H : GH} {C : Bool → GH → Prop} {K : KV} {s : Shared} {mg mb : Str → Option Value}
structure CloAt (W : Wd) (G : GH) (f : Addr) (sp : FnSpec) (cs : List Addr) (k : Nat) : Prop where
  ex : ∃ fd oc c' vs t, G f = some (.raw { cls := .type "function", data := .func fd }) ∧ fd.code = .ref c' ∧ G c' = some (.raw oc) ∧ oc.data = .fields vs ∧ vs[1]? = some (.str fd.qualname t) ∧ FnOK W fd sp ∧
    (∀ x ∈ fd.scope.names, x.2 ≠ .cell) ∧ (∀ x i, sp.cels.idxOf? x = some i → ∃ c, fd.closure.lookup x = some c ∧ cs[i]? = some c) ∧
    k = sp.params.length ∧ ∀ args : List Value, args.length = k → bindArgs fd ⟨args, []⟩ = pure (sp.params.zip args)
theorem CloAt.sub {G' : GH} {f : Addr} {sp : FnSpec} {cs : List Addr} {k : Nat} (x : CloAt W G f sp cs k) (h : Sub G G') : CloAt W G' f sp cs k := by
  obtain ⟨fd, oc, c', vs, t, h1, h2, h3, r⟩ := x
  exact ⟨fd, oc, c', vs, t, h _ _ h1, h2, h _ _ h3, r⟩
theorem CloAt.keep {f : Addr} {sp : FnSpec} {cs : List Addr} {k : Nat} (x : CloAt W G f sp cs k) : keepG W (.ref f) G := by
  obtain ⟨fd, oc, c', vs, t, h1, h2, h3, r⟩ := x
  exact .inr (i_EEA _ fd h1 rfl)
theorem callT_clo (O : WdOK W mg mb) {f : Addr} {sp : FnSpec} {cs : List Addr} {k : Nat} {args : List Value} {K : KV} (F : CloAt W G f sp cs k) (hk : args.length = k)
    (w : ∀ cd, wpSs W n cd sp.cels cs sp.body (srcM sp.lsrc args) G (bodyK K)) : CallC W (n + 1) (.ref f) args G K := by
  intro A fv vs hA hf hv H s D R
  wide_open with er_ref hf
  refine o_EEEEEAAAAAAAAA F.ex fun fd oc c' ov t h1 h2 h3 h4 h5 h6 h7 h8 h9 h10 => ?_
  have lk : ∀ {a : Addr} {o : Obj}, G a = some (.raw o) → s.heap.get? a = some o := fun {a o} e => by
    obtain ⟨_, x⟩ := R.at (GH.un_right e)
    exact x
  have hcode : s.heap.CodeRec fd.code fd.qualname := (i_EEEEAAA c' oc ov t h2 (lk h3) h4 h5)
  have hb := h10 vs (by ((first | refine hk ▸ ?_ | rewrite [← hk]); (first | refine hv ▸ ?_ | rewrite [← hv]); try with_reducible rfl); simp)
  refine call_fn O hA D R (lk h1) rfl hcode h6 h7 (cs := cs) h8 (ds := []) ?_ ?_ (w _)
  · wide_open with List.append_nil; exact Looks.of_pure hb
  · simpa using hv
theorem filterMap_at {α β : Type} (f : α → Option β) : ∀ (l : List α), (∀ y ∈ l, ∃ c, f y = some c) → ∀ (i : Nat) (c : β), (∃ x, l[i]? = some x ∧ f x = some c) → (l.filterMap f)[i]? = some c
  | [], _, i, c, ⟨x, h, _⟩ => by simp at h
  | a :: l, ha, i, c, ⟨x, h, hf⟩ => by
    obtain ⟨d, hd⟩ := ha a List.mem_cons_self
    (wide_line using List.filterMap_cons; wide_open with hd)
    cases i with
    | zero => simp at h; subst h; wide_line with hf using hd; rfl
    | succ i => simpa using filterMap_at f l (fun y hy => ha y (List.mem_cons_of_mem _ hy)) i c (i_EA x (by simpa using h) hf)
theorem Repr.extN {prog w AT B os₀} {U N : GH} (R : Repr prog w AT B os₀ U s) {a : Addr} {g g' : GO} {h' : Heap} {tk : Nat} {dr : Drawn} (e : U a = some g) (hi : g.isInst = false) (hi' : g'.isInst = false) (hx : Heap.ExtBut a s.heap h')
    (ho : ∀ d, Own prog w AT s.heap d a g → Own prog w AT h' d a g')
    (hN : ∀ a g, N a = some g → s.heap.objs.size ≤ a ∧ g.isInst = false ∧ ∀ d, Own prog w AT h' d a g) : Repr prog w AT B os₀ (GH.un (U.set a g') N) ⟨h', s.gens, dr, tk, s.os⟩ := by
  have lt := fun {a g} (e : U a = some g) => R.lt e
  have fb := fun {a : Addr} (ha : s.heap.objs.size ≤ a) => R.freshB ha
  obtain ⟨d, k, o, i, gn, os⟩ := R
  have hB : ∀ b, B.get? b = none ∨ b ≠ a := fun b => by
    by_cases hb : b = a
    · left; wide_open with hb; exact (o a g e).1
    · exact .inr hb
  have low : ∀ {b C fs}, (GH.un (U.set a g') N) b = some (.inst C fs) → b ≠ a ∧ U b = some (.inst C fs) := fun {b C fs} eb => by
    cases hn : N b with
    | some x =>
      wide_line with GH.un_right hn using eb
      have := (hN b _ hn).2.1
      wide_open using this
    | none =>
      rw [GH.un_left hn] at eb
      have hb : b ≠ a := by
        rintro rfl
        wide_line with GH.set_self using eb; wide_open using hi'
      rw [GH.set_ne _ _ hb] at eb
      exact ⟨hb, eb⟩
  refine ⟨d, fun b ob eb => ?_, fun b gb eb => ?_, fun b C fs eb => ?_, gn, os⟩
  · rcases hB b with h1 | h1
    · wide_line with h1 using eb
    · exact hx b ob h1 (k _ _ eb)
  · cases hn : N b with
    | some x =>
      wide_line with GH.un_right hn using eb
      refine o_AA (hN b _ hn) fun h1 z9 h3 => ?_
      exact ⟨fb h1, h3 d⟩
    | none =>
      rw [GH.un_left hn] at eb
      by_cases hb : b = a
      · subst hb
        wide_line with GH.set_self using eb
        exact ⟨(o b g e).1, ho d (o b g e).2⟩
      · rw [GH.set_ne _ _ hb] at eb
        refine ⟨(o b gb eb).1, (o b gb eb).2.move _ _ _ (fun ob h1 => hx b ob hb h1) (fun z9 => rfl) fun hg ob h1 => hx _ ob ?_ h1⟩
        intro q
        cases gb with
        | inst C fs => have := (i b C fs eb).2.1; rw [q, e] at this; wide_open using this
        | _ => wide_open using hg
  · obtain ⟨hb, eb⟩ := low eb
    refine o_AA (i b C fs eb) fun i1 i2 i3 => ?_
    have hda : d b ≠ a := by intro q; rw [q, e] at i2; wide_open using i2
    refine (i_AA i1 ?_ (fun c C' fs' ec hc => i3 c C' fs' (low ec).2 hc))
    have hdN : N (d b) = none := by
      cases hn : N (d b) with
      | none => rfl
      | some x =>
        have h1 := (hN _ _ hn).1
        refine o_AAEA ((o b _ eb).2) fun z9 z9 mm n94 z9 => ?_; obtain ⟨od, _, _, ed, _⟩ := n94
        exact absurd (lt_of_get ed) (Nat.not_lt.mpr h1)
    (wide_line using GH.un_left hdN; wide_open with GH.set_ne _ _ hda); exact i2
noncomputable def Tab (G : GH) (P : Addr) : Prop := ∃ ps, G P = some (.raw (tabObj ps))
theorem fdef_make {name : Str} {args : Arguments} {body : List Stmt} {decs : List Expr} {ret : Option Expr} {typs : List TypeParam} {scope : Scope} {isA : Option Scope} {bind : Str} {pos : Pos} {c P : Addr} {celn : List Str} {cs : List Addr} {sp : FnSpec} {k : Nat}
    (hg : W.B.Ns mainGlobals mg) (hC : CodeHd W.B c P) (hb : W.B.BuiltinsAt mg P) (hP : G P = some (.raw (tabObj #[])))
    (hfree : ∀ p ∈ scope.names, p.2 = .free → ∃ i, celn.idxOf? p.1 = some i)
    (hsp : ∀ x i, sp.cels.idxOf? x = some i → (x, NameKind.free) ∈ scope.names ∧ ∃ j c, celn.idxOf? x = some j ∧ cs[j]? = some c)
    (hok : ∀ qual clos doc pm cdv ct, FnOK W (fnX name qual args body scope clos .none .none doc pm none cdv ct) sp) (hcell : ∀ x ∈ scope.names, x.2 ≠ .cell) (hk : k = sp.params.length)
    (hbind : ∀ qual clos doc pm cdv ct, ∀ vs : List Value, vs.length = k → bindArgs (fnX name qual args body scope clos .none .none doc pm none cdv ct) ⟨vs, []⟩ = pure (sp.params.zip vs))
    (kk : ∀ f c' G', f ≠ c' → G f = none → G c' = none → (∀ a, a ≠ f → a ≠ c' → a ≠ P → G' a = G a) → Tab G' P → CloAt W G' f sp (sp.cels.filterMap fun x => (celn.idxOf? x).bind fun j => cs[j]?) k → K (.ref f) G') :
    FDefT W n (.ref c) celn cs (.FunctionDef name args body decs ret typs scope isA bind pos) G K := by
  intro A env hA hkind hge hbe hcd hcells H s _ D R
  have hfree' : ∀ p ∈ scope.names, p.2 = .free → ∃ c, env.cells.lookup p.1 = some c := fun p hp e => by
    obtain ⟨i, hi⟩ := hfree p hp e
    refine o_EA (hcells _ i hi) fun c h1 z9 => ?_
    exact ⟨c, h1⟩
  have hPs : s.heap.get? P = some (tabObj #[]) := by
    obtain ⟨_, x⟩ := R.at (GH.un_right hP)
    exact x
  have hgs : s.heap.Ns mainGlobals mg := hg.keeps R.keep
  have hgP : mainGlobals ≠ P := fun q => by
    refine o_EEEAA hgs fun o es ep e hd z9 => ?_; try clear hgs
    rw [q, hPs] at e; wide_open using e; wide_open using hd
  refine makeFunction_K (mg := mg) (closureFor_pure hfree') hge hgs hcd (hC.keeps R.keep) hPs trivial rfl hgP (hb.keeps R.keep) fun c' ctv doc h' tk hx hge' hlt hrec htb => ?_
  refine o_EEEEAAA hrec fun c₂ oc vs t e2 hoc hd hv => ?_; try clear hrec
  wide_open using e2
  have R1 := R.ext (h' := h') (tk := tk) (dr := s.drawn) (g' := .raw (tabObj (#[] ++ #[rawInt pos.line, rawInt pos.col, .ref c']))) (GH.un_right hP) rfl rfl hx fun z9 z9 => htb
  rw [← GH.un_set] at R1
  have hlt' := hlt
  have fr1 : ∀ b, s.heap.objs.size ≤ b → (H.un G) b = none := fun b hb => by
    cases q : (H.un G) b with
    | none => rfl
    | some x => exact absurd (R.lt q) (Nat.not_lt.mpr hb)
  have split : ∀ b, (H.un G) b = none → H b = none ∧ G b = none := fun b e => by
    have gn : G b = none := by
      cases q : G b with
      | none => rfl
      | some x => wide_line with GH.un_right q using e
    exact ⟨by rwa [GH.un_left gn] at e, gn⟩
  obtain ⟨hc1, gc1⟩ := split c' (fr1 _ hge')
  have hle : s.heap.objs.size ≤ h'.objs.size := Nat.le_trans hge' (Nat.le_of_lt hlt)
  obtain ⟨hf1, gf1⟩ := split h'.objs.size (fr1 _ hle)
  have hPlt : P < s.heap.objs.size := R.lt (GH.un_right hP)
  have hPc : c' ≠ P := Nat.ne_of_gt (Nat.lt_of_lt_of_le hPlt hge')
  have hPf : h'.objs.size ≠ P := Nat.ne_of_gt (Nat.lt_of_lt_of_le hPlt hle)
  have hfc : h'.objs.size ≠ c' := Nat.ne_of_gt hlt
  generalize hfo : fnMade name (qualnameIn env name bind) args body scope (clos env scope.names []) doc ((mg "__name__").getD .none) c' ctv = fo
  have hnf : fo.isFreed = false := by subst hfo; rfl
  have R2 := Repr.extN (N := (GH.empty.set c' (.raw oc)).set h'.objs.size (.raw fo)) R (h' := h'.push fo) (tk := tk) (dr := s.drawn) (g' := .raw (tabObj (#[] ++ #[rawInt pos.line, rawInt pos.col, .ref c']))) (GH.un_right hP) rfl rfl
    (fun b o hb e => Heap.get?_push_of_some _ (hx b o hb e)) (fun z9 z9 => Heap.get?_push_of_some _ htb) (fun b g e => by
      by_cases e1 : b = h'.objs.size
      · subst e1; wide_line with GH.set_self using e
        exact (i_AA hle rfl (fun z9 => Heap.get?_push_size _ hnf))
      · rw [GH.set_ne _ _ e1] at e
        by_cases e2 : b = c'
        · subst e2; wide_line with GH.set_self using e
          exact (i_AA hge' rfl (fun z9 => Heap.get?_push_of_some _ hoc))
        · wide_line with GH.set_ne _ _ e2 using e)
  have eU : GH.un ((H.un G).set P (.raw (tabObj (#[] ++ #[rawInt pos.line, rawInt pos.col, .ref c'])))) ((GH.empty.set c' (.raw oc)).set h'.objs.size (.raw fo)) =
      H.un (((G.set P (.raw (tabObj (#[] ++ #[rawInt pos.line, rawInt pos.col, .ref c'])))).set c' (.raw oc)).set h'.objs.size (.raw fo)) := by
    (wide_line using GH.un_set; wide_line using GH.un_set; wide_line using GH.un_empty; wide_line using GH.un_set; wide_line using GH.un_set; wide_open with GH.un_set)
  rw [eU] at R2
  refine (i_EAA _ (((D.setG (D.right hP)).setG hc1).setG hf1) R2 (kk _ c' _ hfc gf1 gc1 (fun a h1 h2 h3 => ?_) ⟨_, by rw [GH.set_ne _ _ (by rintro rfl; wide_line with gf1 using hP), GH.set_ne _ _ (by rintro rfl; wide_line with gc1 using hP)]; exact GH.set_self _ _ _⟩ ⟨fnX name (qualnameIn env name bind) args body scope (clos env scope.names []) .none .none doc ((mg "__name__").getD .none) none (.ref c') ctv, oc, c', vs, t, ?_, rfl, ?_, hd, hv, hok _ _ _ _ _ _, hcell, fun x i hx => ?_, hk, hbind _ _ _ _ _ _⟩))
  · (wide_line using GH.set_ne _ _ h1; wide_line using GH.set_ne _ _ h2; wide_open with GH.set_ne _ _ h3)
  · subst hfo; exact GH.set_self _ _ _
  · (wide_line using GH.set_ne _ _ hfc.symm; wide_open with GH.set_self)
  · refine o_AEEA (hsp x i hx) fun hm j c₀ hj hc₀ => ?_
    refine o_EA (hcells x j hj) fun c₁ hl hc₁ => ?_
    wide_line with hc₀ using hc₁
    refine (i_EA c₀ (clos_lookup _ _ _ _ (fun p hp => by cases hp) hl (.inl hm)) ?_)
    have all : ∀ y ∈ sp.cels, ∃ c, ((celn.idxOf? y).bind fun j => cs[j]?) = some c := fun y hy => by
      cases hq : sp.cels.idxOf? y with
      | none => exact absurd hy (by simpa [List.idxOf?_eq_none_iff] using hq)
      | some i' =>
        refine o_AEEA (hsp y i' hq) fun z9 j' c' hj' hc' => ?_
        exact ⟨c', by wide_open with hj'; exact hc'⟩
    exact filterMap_at _ sp.cels all i c₀ (by
      have := (List.findIdx?_eq_some_iff_getElem.mp hx)
      refine o_EA this fun hlt he z9 => ?_; try clear this
      exact (i_EA x (by wide_open with List.getElem?_eq_getElem hlt; simpa using he) (by wide_open with hj; exact hc₀)))
end Mine
end
section
open PySem PySem.W PySem.Calls PyProof.Rows
namespace Mine
noncomputable def AT1 : Names := [Str.ofString "code", Str.ofString "glyph", Str.ofString "cluster", Str.ofString "mask", Str.ofString "is_unsafe", Str.ofString "lig_id", Str.ofString "lig_part", Str.ofString "lig_count", Str.ofString "split_id", Str.ofString "kind", Str.ofString "x_advance", Str.ofString "y_advance", Str.ofString "x_offset", Str.ofString "y_offset", Str.ofString "parent", Str.ofString "bond", Str.ofString "row", Str.ofString "is_backward", Str.ofString "last_lig", Str.ofString "last_split", Str.ofString "glyphs", Str.ofString "index", Str.ofString "has", Str.ofString "back", Str.ofString "inside", Str.ofString "ahead", Str.ofString "actions", Str.ofString "form", Str.ofString "is_chained", Str.ofString "sets", Str.ofString "coverage", Str.ofString "classes", Str.ofString "rules", Str.ofString "flag", Str.ofString "mark_set", Str.ofString "tables", Str.ofString "buffer", Str.ofString "gdef", Str.ofString "lookups", Str.ofString "lookup", Str.ofString "depth", Str.ofString "steps", Str.ofString "end", Str.ofString "append", Str.ofString "pop", Str.ofString "get", Str.ofString "class_of", Str.ofString "glyph_class", Str.ofString "attach", Str.ofString "points", Str.ofString "carets", Str.ofString "attach_class", Str.ofString "is_in_set", Str.ofString "told"]
noncomputable def a_Info___init__ : Addr := 35
noncomputable def a_Info : Addr := 52
noncomputable def a_Buffer___init__ : Addr := 71
noncomputable def a_Buffer_glyphs : Addr := 76
noncomputable def a_Buffer : Addr := 105
noncomputable def a_hang : Addr := 114
noncomputable def a_Coverage___init__ : Addr := 128
noncomputable def a_Coverage_index : Addr := 135
noncomputable def a_Coverage_has : Addr := 142
noncomputable def a_Coverage : Addr := 152
noncomputable def a_coverage_of : Addr := 163
noncomputable def a_Rule___init__ : Addr := 177
noncomputable def a_Rule : Addr := 194
noncomputable def a_Contexts___init__ : Addr := 213
noncomputable def a_Contexts_rules : Addr := 232
noncomputable def a_Contexts : Addr := 235
noncomputable def a_tests_of : Addr := 249
noncomputable def a_rule_tests : Addr := 256
noncomputable def a_rules_at : Addr := 261
noncomputable def a_Lookup___init__ : Addr := 275
noncomputable def a_Lookup : Addr := 283
noncomputable def a_Scene___init__ : Addr := 302
noncomputable def a_Scene : Addr := 305
noncomputable def a_attach_wanted : Addr := 316
noncomputable def a_class_bit : Addr := 323
noncomputable def a_is_ignored : Addr := 330
noncomputable def a_passes : Addr := 337
noncomputable def a_nested_scene : Addr := 344
noncomputable def a_KINDS_IN_INPUT : Addr := 345
noncomputable def a_KINDS_AROUND : Addr := 346
noncomputable def a_fits : Addr := 353
noncomputable def a_is_borne : Addr := 360
noncomputable def a_found_at : Addr := 367
noncomputable def a_input_at : Addr := 374
noncomputable def a_last_at : Addr := 381
noncomputable def a_ahead_at : Addr := 388
noncomputable def a_back_at : Addr := 395
noncomputable def a_Places___init__ : Addr := 409
noncomputable def a_Places : Addr := 412
noncomputable def a_match_rule : Addr := 423
noncomputable def a_inner_scene : Addr := 430
noncomputable def a_grow : Addr := 435
noncomputable def a_shrink : Addr := 440
noncomputable def a_move : Addr := 447
noncomputable def a_do_action : Addr := 454
noncomputable def a_do_actions : Addr := 461
noncomputable def a_apply_context : Addr := 468
noncomputable def a_ClassDef___init__ : Addr := 482
noncomputable def a_ClassDef_class_of : Addr := 489
noncomputable def a_ClassDef : Addr := 511
noncomputable def a_Gdef___init__ : Addr := 530
noncomputable def a_Gdef_glyph_class : Addr := 537
noncomputable def a_Gdef_attach_class : Addr := 544
noncomputable def a_Gdef_is_in_set : Addr := 551
noncomputable def a_Gdef : Addr := 559
noncomputable def a__law_take : Addr := 570
noncomputable def k_Info : ClsSpec := ⟨a_Info___init__, [0, 1, 2, 3, 4, 5, 6, 7, 8, 9, 10, 11, 12, 13, 14, 15], []⟩
noncomputable def k_Buffer : ClsSpec := ⟨a_Buffer___init__, [16, 17, 18, 19], [(20, a_Buffer_glyphs)]⟩
noncomputable def k_Coverage : ClsSpec := ⟨a_Coverage___init__, [20], [(21, a_Coverage_index), (22, a_Coverage_has)]⟩
noncomputable def k_Rule : ClsSpec := ⟨a_Rule___init__, [23, 24, 25, 26], []⟩
noncomputable def k_Contexts : ClsSpec := ⟨a_Contexts___init__, [27, 28, 29, 30, 31], [(32, a_Contexts_rules)]⟩
noncomputable def k_Lookup : ClsSpec := ⟨a_Lookup___init__, [9, 33, 34, 35], []⟩
noncomputable def k_Scene : ClsSpec := ⟨a_Scene___init__, [36, 37, 38, 39, 3, 40, 41], []⟩
noncomputable def k_Places : ClsSpec := ⟨a_Places___init__, [16, 42], []⟩
noncomputable def k_ClassDef : ClsSpec := ⟨a_ClassDef___init__, [31], [(46, a_ClassDef_class_of)]⟩
noncomputable def k_Gdef : ClsSpec := ⟨a_Gdef___init__, [31, 48, 29, 49, 50], [(47, a_Gdef_glyph_class), (51, a_Gdef_attach_class), (52, a_Gdef_is_in_set)]⟩
noncomputable def b_Info___init__ : List CS := [
  .seta (.var (.loc 0)) 0 (.var (.loc 1)),
  .seta (.var (.loc 0)) 1 (.var (.loc 2)),
  .seta (.var (.loc 0)) 2 (.var (.loc 3)),
  .seta (.var (.loc 0)) 3 (.val (.int (0) 0)),
  .seta (.var (.loc 0)) 4 (.val (.bool false)),
  .seta (.var (.loc 0)) 5 (.val (.int (0) 0)),
  .seta (.var (.loc 0)) 6 (.val (.int (0) 0)),
  .seta (.var (.loc 0)) 7 (.val (.int (0) 0)),
  .seta (.var (.loc 0)) 8 (.val (.int (0) 0)),
  .seta (.var (.loc 0)) 9 (.val (.str "" 0)),
  .seta (.var (.loc 0)) 10 (.val (.int (0) 0)),
  .seta (.var (.loc 0)) 11 (.val (.int (0) 0)),
  .seta (.var (.loc 0)) 12 (.val (.int (0) 0)),
  .seta (.var (.loc 0)) 13 (.val (.int (0) 0)),
  .seta (.var (.loc 0)) 14 (.val (.int (0) 0)),
  .seta (.var (.loc 0)) 15 (.val (.str "" 0))]
noncomputable def sp_Info___init__ : FnSpec := ⟨["self", "code", "glyph", "cluster"], ["self", "code", "glyph", "cluster"], [], [some 0, some 1, some 2, some 3], [], b_Info___init__⟩
noncomputable def b_Buffer___init__ : List CS := [
  .seta (.var (.loc 0)) 16 (.var (.loc 1)),
  .seta (.var (.loc 0)) 17 (.var (.loc 2)),
  .seta (.var (.loc 0)) 18 (.val (.int (0) 0)),
  .seta (.var (.loc 0)) 19 (.val (.int (0) 0))]
noncomputable def sp_Buffer___init__ : FnSpec := ⟨["self", "infos", "is_backward"], ["self", "infos", "is_backward"], [], [some 0, some 1, some 2], [], b_Buffer___init__⟩
noncomputable def b_Buffer_glyphs : List CS := [
  .ret (.comp (.attr (.var (.loc 1)) 1) (.one (.loc 1)) (.attr (.var (.loc 0)) 16) .tt 2 [])]
noncomputable def sp_Buffer_glyphs : FnSpec := ⟨["self"], ["self"], [], [some 0], [], b_Buffer_glyphs⟩
noncomputable def b_hang : List CS := [
  .set (.one (.loc 3)) (.slice (.attr (.var (.loc 0)) 16) (.var (.loc 1)) (.var (.loc 2)) (.val .none)),
  .ite (.cmp .Lt (.call (.val (.builtin "len")) [(.var (.loc 3))]) (.val (.int (2) 0))) [
    .ret (.val .none)] [],
  .set (.one (.loc 5)) (.call (.val (.builtin "min")) [(.comp (.attr (.var (.loc 1)) 2) (.one (.loc 1)) (.var (.loc 3)) .tt 2 [])]),
  .for (.one (.loc 4)) (.var (.loc 3)) [
    .ite (.cmp .NotEq (.attr (.var (.loc 4)) 2) (.var (.loc 5))) [
      .seta (.var (.loc 4)) 4 (.val (.bool true))] []]]
noncomputable def sp_hang : FnSpec := ⟨["buffer", "begin", "end"], ["buffer", "begin", "end", "stretch", "info", "least_cluster"], [], [some 0, some 1, some 2, none, none, none], [], b_hang⟩
noncomputable def b_Coverage___init__ : List CS := [
  .seta (.var (.loc 0)) 20 (.var (.loc 1))]
noncomputable def sp_Coverage___init__ : FnSpec := ⟨["self", "glyphs"], ["self", "glyphs"], [], [some 0, some 1], [], b_Coverage___init__⟩
noncomputable def b_Coverage_index : List CS := [
  .set (.one (.loc 2)) (.val (.int (0) 0)),
  .set (.one (.loc 3)) (.call (.val (.builtin "len")) [(.attr (.var (.loc 0)) 20)]),
  .while (.cmp .Lt (.var (.loc 2)) (.var (.loc 3))) [
    .set (.one (.loc 4)) (.bin .FloorDiv (.bin .Add (.var (.loc 2)) (.var (.loc 3))) (.val (.int (2) 0))),
    .ite (.cmp .Lt (.sub (.attr (.var (.loc 0)) 20) (.var (.loc 4))) (.var (.loc 1))) [
      .set (.one (.loc 2)) (.bin .Add (.var (.loc 4)) (.val (.int (1) 0)))] [
      .set (.one (.loc 3)) (.var (.loc 4))]],
  .ite (.and (.cmp .Lt (.var (.loc 2)) (.call (.val (.builtin "len")) [(.attr (.var (.loc 0)) 20)])) (.cmp .Eq (.sub (.attr (.var (.loc 0)) 20) (.var (.loc 2))) (.var (.loc 1)))) [
    .ret (.var (.loc 2))] [],
  .ret (.neg (.val (.int (1) 0)))]
noncomputable def sp_Coverage_index : FnSpec := ⟨["self", "glyph"], ["self", "glyph", "low", "high", "middle"], [], [some 0, some 1, none, none, none], [], b_Coverage_index⟩
noncomputable def b_Coverage_has : List CS := [
  .ret (.ofB (.cmp .GtE (.meth (.var (.loc 0)) 21 [(.var (.loc 1))]) (.val (.int (0) 0))))]
noncomputable def sp_Coverage_has : FnSpec := ⟨["self", "glyph"], ["self", "glyph"], [], [some 0, some 1], [], b_Coverage_has⟩
noncomputable def b_coverage_of : List CS := [
  .set (.one (.loc 1)) (.dict [] []),
  .for (.one (.loc 2)) (.var (.loc 0)) [
    .seti (.var (.loc 1)) (.var (.loc 2)) (.val (.bool true))],
  .ret (.call (.val (.ref a_Coverage)) [(.call (.val (.type "tuple")) [(.call (.val (.builtin "sorted")) [(.var (.loc 1))])])])]
noncomputable def sp_coverage_of : FnSpec := ⟨["glyphs"], ["glyphs", "found", "glyph"], [], [some 0, none, none], [], b_coverage_of⟩
noncomputable def b_Rule___init__ : List CS := [
  .seta (.var (.loc 0)) 23 (.var (.loc 1)),
  .seta (.var (.loc 0)) 24 (.var (.loc 2)),
  .seta (.var (.loc 0)) 25 (.var (.loc 3)),
  .seta (.var (.loc 0)) 26 (.var (.loc 4))]
noncomputable def sp_Rule___init__ : FnSpec := ⟨["self", "back", "inside", "ahead", "actions"], ["self", "back", "inside", "ahead", "actions"], [], [some 0, some 1, some 2, some 3, some 4], [], b_Rule___init__⟩
noncomputable def b_Contexts___init__ : List CS := [
  .seta (.var (.loc 0)) 27 (.var (.loc 1)),
  .seta (.var (.loc 0)) 28 (.var (.loc 2)),
  .seta (.var (.loc 0)) 29 (.var (.loc 3)),
  .seta (.var (.loc 0)) 30 (.var (.loc 4)),
  .seta (.var (.loc 0)) 31 (.var (.loc 5))]
noncomputable def sp_Contexts___init__ : FnSpec := ⟨["self", "form", "is_chained", "sets", "coverage", "classes"], ["self", "form", "is_chained", "sets", "coverage", "classes"], [], [some 0, some 1, some 2, some 3, some 4, some 5], [], b_Contexts___init__⟩
noncomputable def b_Contexts_rules : List CS := [
  .set (.one (.loc 1)) (.list []),
  .for (.one (.loc 2)) (.call (.val (.builtin "sorted")) [(.attr (.var (.loc 0)) 29)]) [
    .for (.one (.loc 3)) (.sub (.attr (.var (.loc 0)) 29) (.var (.loc 2))) [
      .expr (.meth (.var (.loc 1)) 43 [(.var (.loc 3))])]],
  .ret (.var (.loc 1))]
noncomputable def sp_Contexts_rules : FnSpec := ⟨["self"], ["self", "found", "key", "rule"], [], [some 0, none, none, none], [], b_Contexts_rules⟩
noncomputable def b_tests_of : List CS := [
  .ite (.cmp .Eq (.var (.cel 0)) (.val (.str "class" 0))) [
    .ret (.comp (.tup [(.val (.str "class" 0)), (.var (.cel 0)), (.var (.loc 1))]) (.one (.loc 1)) (.var (.loc 0)) .tt 2 [1])] [],
  .ret (.comp (.tup [(.var (.cel 0)), (.var (.loc 1))]) (.one (.loc 1)) (.var (.loc 0)) .tt 2 [0])]
noncomputable def sp_tests_of : FnSpec := ⟨["row", "word", "classdef"], ["row"], ["word", "classdef"], [some 0], [some 1, some 2], b_tests_of⟩
noncomputable def b_rule_tests : List CS := [
  .set (.one (.loc 2)) (.sub (.list [(.val (.str "" 0)), (.val (.str "glyph" 0)), (.val (.str "class" 0)), (.val (.str "cover" 0))]) (.attr (.var (.loc 0)) 27)),
  .set (.many [(.loc 3), (.loc 4), (.loc 5)]) (.ite (.cmp .Eq (.attr (.var (.loc 0)) 27) (.val (.int (2) 0))) (.attr (.var (.loc 0)) 31) (.tup [(.val .none), (.val .none), (.val .none)])),
  .ret (.tup [(.call (.val (.ref a_tests_of)) [(.attr (.var (.loc 1)) 23), (.var (.loc 2)), (.var (.loc 3))]), (.call (.val (.ref a_tests_of)) [(.attr (.var (.loc 1)) 24), (.var (.loc 2)), (.var (.loc 4))]), (.call (.val (.ref a_tests_of)) [(.attr (.var (.loc 1)) 25), (.var (.loc 2)), (.var (.loc 5))]), (.attr (.var (.loc 1)) 26)])]
noncomputable def sp_rule_tests : FnSpec := ⟨["table", "rule"], ["table", "rule", "word", "back", "inside", "ahead"], [], [some 0, some 1, none, none, none, none], [], b_rule_tests⟩
noncomputable def b_rules_at : List CS := [
  .ite (.cmp .Eq (.attr (.var (.cel 0)) 27) (.val (.int (1) 0))) [
    .set (.one (.loc 0)) (.meth (.attr (.var (.cel 0)) 29) 45 [(.var (.cel 1)), (.list [])])] [
    .ite (.cmp .Eq (.attr (.var (.cel 0)) 27) (.val (.int (2) 0))) [
      .set (.one (.loc 0)) (.ite (.tr (.meth (.attr (.var (.cel 0)) 30) 22 [(.var (.cel 1))])) (.meth (.attr (.var (.cel 0)) 29) 45 [(.meth (.sub (.attr (.var (.cel 0)) 31) (.val (.int (1) 0))) 46 [(.var (.cel 1))]), (.list [])]) (.list []))] [
      .set (.one (.loc 0)) (.comp (.var (.loc 1)) (.one (.loc 1)) (.meth (.var (.cel 0)) 32 []) (.tr (.meth (.sub (.attr (.var (.loc 1)) 24) (.val (.int (0) 0))) 22 [(.var (.cel 0))])) 2 [1])]],
  .ret (.comp (.call (.val (.ref a_rule_tests)) [(.var (.cel 0)), (.var (.loc 1))]) (.one (.loc 1)) (.var (.loc 0)) .tt 2 [0])]
noncomputable def sp_rules_at : FnSpec := ⟨["table", "glyph"], ["rules"], ["table", "glyph"], [none], [some 0, some 1], b_rules_at⟩
noncomputable def b_Lookup___init__ : List CS := [
  .seta (.var (.loc 0)) 9 (.var (.loc 1)),
  .seta (.var (.loc 0)) 33 (.var (.loc 2)),
  .seta (.var (.loc 0)) 34 (.var (.loc 3)),
  .seta (.var (.loc 0)) 35 (.var (.loc 4))]
noncomputable def sp_Lookup___init__ : FnSpec := ⟨["self", "kind", "flag", "mark_set", "tables"], ["self", "kind", "flag", "mark_set", "tables"], [], [some 0, some 1, some 2, some 3, some 4], [], b_Lookup___init__⟩
noncomputable def b_Scene___init__ : List CS := [
  .seta (.var (.loc 0)) 36 (.var (.loc 1)),
  .seta (.var (.loc 0)) 37 (.var (.loc 2)),
  .seta (.var (.loc 0)) 38 (.var (.loc 3)),
  .seta (.var (.loc 0)) 39 (.var (.loc 4)),
  .seta (.var (.loc 0)) 3 (.var (.loc 5)),
  .seta (.var (.loc 0)) 40 (.var (.loc 6)),
  .seta (.var (.loc 0)) 41 (.list [(.val (.int (0) 0))])]
noncomputable def sp_Scene___init__ : FnSpec := ⟨["self", "buffer", "gdef", "lookups", "lookup", "mask", "depth"], ["self", "buffer", "gdef", "lookups", "lookup", "mask", "depth"], [], [some 0, some 1, some 2, some 3, some 4, some 5, some 6], [], b_Scene___init__⟩
noncomputable def b_attach_wanted : List CS := [
  .ret (.bin .Mod (.bin .FloorDiv (.var (.loc 0)) (.val (.int (256) 0))) (.val (.int (256) 0)))]
noncomputable def sp_attach_wanted : FnSpec := ⟨["flag"], ["flag"], [], [some 0], [], b_attach_wanted⟩
noncomputable def b_class_bit : List CS := [
  .ret (.meth (.dict [1, 2, 3] [(.val (.int (2) 0)), (.val (.int (4) 0)), (.val (.int (8) 0))]) 45 [(.var (.loc 0)), (.val (.int (0) 0))])]
noncomputable def sp_class_bit : FnSpec := ⟨["number"], ["number"], [], [some 0], [], b_class_bit⟩
noncomputable def b_is_ignored : List CS := [
  .set (.one (.loc 3)) (.meth (.var (.loc 0)) 47 [(.var (.loc 2))]),
  .ite (.tr (.bin .BitAnd (.attr (.var (.loc 1)) 33) (.call (.val (.ref a_class_bit)) [(.var (.loc 3))]))) [
    .ret (.val (.bool true))] [],
  .ite (.cmp .NotEq (.var (.loc 3)) (.val (.int (3) 0))) [
    .ret (.val (.bool false))] [],
  .ite (.tr (.bin .BitAnd (.attr (.var (.loc 1)) 33) (.val (.int (16) 0)))) [
    .ret (.ofB (.not (.tr (.meth (.var (.loc 0)) 52 [(.attr (.var (.loc 1)) 34), (.var (.loc 2))]))))] [],
  .set (.one (.loc 4)) (.call (.val (.ref a_attach_wanted)) [(.attr (.var (.loc 1)) 33)]),
  .ret (.and (.ofB (.cmp .Gt (.var (.loc 4)) (.val (.int (0) 0)))) (.ofB (.cmp .NotEq (.meth (.var (.loc 0)) 51 [(.var (.loc 2))]) (.var (.loc 4)))))]
noncomputable def sp_is_ignored : FnSpec := ⟨["gdef", "lookup", "glyph"], ["gdef", "lookup", "glyph", "number", "wanted"], [], [some 0, some 1, some 2, none, none], [], b_is_ignored⟩
noncomputable def b_passes : List CS := [
  .ret (.call (.val (.ref a_is_ignored)) [(.attr (.var (.loc 0)) 37), (.attr (.var (.loc 0)) 39), (.attr (.sub (.attr (.attr (.var (.loc 0)) 36) 16) (.var (.loc 1))) 1)])]
noncomputable def sp_passes : FnSpec := ⟨["scene", "at"], ["scene", "at"], [], [some 0, some 1], [], b_passes⟩
noncomputable def b_nested_scene : List CS := [
  .ite (.not (.cmp2 .LtE .Lt (.val (.int (0) 0)) (.var (.loc 1)) (.call (.val (.builtin "len")) [(.attr (.var (.loc 0)) 38)]))) [
    .ret (.val .none)] [],
  .set (.one (.loc 2)) (.call (.val (.ref a_Scene)) [(.attr (.var (.loc 0)) 36), (.attr (.var (.loc 0)) 37), (.attr (.var (.loc 0)) 38), (.sub (.attr (.var (.loc 0)) 38) (.var (.loc 1))), (.attr (.var (.loc 0)) 3), (.bin .Add (.attr (.var (.loc 0)) 40) (.val (.int (1) 0)))]),
  .seta (.var (.loc 2)) 41 (.attr (.var (.loc 0)) 41),
  .ret (.var (.loc 2))]
noncomputable def sp_nested_scene : FnSpec := ⟨["scene", "number"], ["scene", "number", "found"], [], [some 0, some 1, none], [], b_nested_scene⟩
noncomputable def b_fits : List CS := [
  .ite (.cmp .Eq (.sub (.var (.loc 0)) (.val (.int (0) 0))) (.val (.str "glyph" 0))) [
    .ret (.ofB (.cmp .Eq (.sub (.var (.loc 0)) (.val (.int (1) 0))) (.var (.loc 1))))] [],
  .ite (.cmp .Eq (.sub (.var (.loc 0)) (.val (.int (0) 0))) (.val (.str "class" 0))) [
    .ret (.ofB (.cmp .Eq (.meth (.sub (.var (.loc 0)) (.val (.int (1) 0))) 46 [(.var (.loc 1))]) (.sub (.var (.loc 0)) (.val (.int (2) 0)))))] [],
  .ret (.meth (.sub (.var (.loc 0)) (.val (.int (1) 0))) 22 [(.var (.loc 1))])]
noncomputable def sp_fits : FnSpec := ⟨["test", "glyph"], ["test", "glyph"], [], [some 0, some 1], [], b_fits⟩
noncomputable def b_is_borne : List CS := [
  .ret (.ofB (.cmp .NotEq (.bin .BitAnd (.attr (.var (.loc 1)) 3) (.attr (.var (.loc 0)) 3)) (.val (.int (0) 0))))]
noncomputable def sp_is_borne : FnSpec := ⟨["scene", "info"], ["scene", "info"], [], [some 0, some 1], [], b_is_borne⟩
noncomputable def b_found_at : List CS := [
  .set (.one (.loc 6)) (.bin .Add (.var (.loc 1)) (.var (.loc 2))),
  .while (.cmp2 .LtE .Lt (.val (.int (0) 0)) (.var (.loc 6)) (.call (.val (.builtin "len")) [(.attr (.attr (.var (.loc 0)) 36) 16)])) [
    .ite (.not (.tr (.call (.val (.ref a_passes)) [(.var (.loc 0)), (.var (.loc 6))]))) [
      .set (.one (.loc 7)) (.sub (.attr (.attr (.var (.loc 0)) 36) 16) (.var (.loc 6))),
      .ite (.and (.tr (.call (.val (.ref a_fits)) [(.var (.loc 3)), (.attr (.var (.loc 7)) 1)])) (.or (.tr (.call (.val (.ref a_is_borne)) [(.var (.loc 0)), (.var (.loc 7))])) (.not (.tr (.var (.loc 5)))))) [
        .ret (.var (.loc 6))] [],
      .ite (.cmp .NotIn (.attr (.var (.loc 7)) 9) (.var (.loc 4))) [
        .ret (.neg (.val (.int (1) 0)))] []] [],
    .set (.one (.loc 6)) (.bin .Add (.var (.loc 6)) (.var (.loc 2)))],
  .ret (.neg (.val (.int (1) 0)))]
noncomputable def sp_found_at : FnSpec := ⟨["scene", "at", "step", "test", "kinds", "is_input"], ["scene", "at", "step", "test", "kinds", "is_input", "here", "info"], [], [some 0, some 1, some 2, some 3, some 4, some 5, none, none], [], b_found_at⟩
noncomputable def b_input_at : List CS := [
  .ite (.not (.tr (.call (.val (.ref a_fits)) [(.sub (.var (.loc 2)) (.val (.int (0) 0))), (.attr (.sub (.attr (.attr (.var (.loc 0)) 36) 16) (.var (.loc 1))) 1)]))) [
    .ret (.val .none)] [],
  .set (.one (.loc 3)) (.list [(.var (.loc 1))]),
  .for (.one (.loc 4)) (.slice (.var (.loc 2)) (.val (.int (1) 0)) (.val .none) (.val .none)) [
    .set (.one (.loc 5)) (.call (.val (.ref a_found_at)) [(.var (.loc 0)), (.sub (.var (.loc 3)) (.neg (.val (.int (1) 0)))), (.val (.int (1) 0)), (.var (.loc 4)), (.val (.ref a_KINDS_IN_INPUT)), (.val (.bool true))]),
    .ite (.cmp .Lt (.var (.loc 5)) (.val (.int (0) 0))) [
      .ret (.val .none)] [],
    .expr (.meth (.var (.loc 3)) 43 [(.var (.loc 5))])],
  .ret (.var (.loc 3))]
noncomputable def sp_input_at : FnSpec := ⟨["scene", "at", "tests"], ["scene", "at", "tests", "found", "test", "here"], [], [some 0, some 1, some 2, none, none, none], [], b_input_at⟩
noncomputable def b_last_at : List CS := [
  .set (.one (.loc 4)) (.var (.loc 1)),
  .for (.one (.loc 5)) (.var (.loc 3)) [
    .set (.one (.loc 4)) (.call (.val (.ref a_found_at)) [(.var (.loc 0)), (.var (.loc 4)), (.var (.loc 2)), (.var (.loc 5)), (.val (.ref a_KINDS_AROUND)), (.val (.bool false))]),
    .ite (.cmp .Lt (.var (.loc 4)) (.val (.int (0) 0))) [
      .ret (.neg (.val (.int (1) 0)))] []],
  .ret (.var (.loc 4))]
noncomputable def sp_last_at : FnSpec := ⟨["scene", "at", "step", "tests"], ["scene", "at", "step", "tests", "here", "test"], [], [some 0, some 1, some 2, some 3, none, none], [], b_last_at⟩
noncomputable def b_ahead_at : List CS := [
  .ret (.call (.val (.ref a_last_at)) [(.var (.loc 0)), (.var (.loc 1)), (.val (.int (1) 0)), (.var (.loc 2))])]
noncomputable def sp_ahead_at : FnSpec := ⟨["scene", "at", "tests"], ["scene", "at", "tests"], [], [some 0, some 1, some 2], [], b_ahead_at⟩
noncomputable def b_back_at : List CS := [
  .ret (.call (.val (.ref a_last_at)) [(.var (.loc 0)), (.var (.loc 1)), (.neg (.val (.int (1) 0))), (.var (.loc 2))])]
noncomputable def sp_back_at : FnSpec := ⟨["scene", "at", "tests"], ["scene", "at", "tests"], [], [some 0, some 1, some 2], [], b_back_at⟩
noncomputable def b_Places___init__ : List CS := [
  .seta (.var (.loc 0)) 16 (.var (.loc 1)),
  .seta (.var (.loc 0)) 42 (.var (.loc 2))]
noncomputable def sp_Places___init__ : FnSpec := ⟨["self", "row", "end"], ["self", "row", "end"], [], [some 0, some 1, some 2], [], b_Places___init__⟩
noncomputable def b_match_rule : List CS := [
  .set (.many [(.loc 3), (.loc 4), (.loc 5), (.loc 6)]) (.var (.loc 2)),
  .set (.one (.loc 7)) (.call (.val (.ref a_input_at)) [(.var (.loc 0)), (.var (.loc 1)), (.var (.loc 4))]),
  .ite (.cmp .Is (.var (.loc 7)) (.val .none)) [
    .ret (.val .none)] [],
  .set (.one (.loc 8)) (.call (.val (.ref a_back_at)) [(.var (.loc 0)), (.var (.loc 1)), (.var (.loc 3))]),
  .ite (.cmp .Lt (.var (.loc 8)) (.val (.int (0) 0))) [
    .ret (.val .none)] [],
  .set (.one (.loc 9)) (.call (.val (.ref a_ahead_at)) [(.var (.loc 0)), (.sub (.var (.loc 7)) (.neg (.val (.int (1) 0)))), (.var (.loc 5))]),
  .ret (.ite (.cmp .Lt (.var (.loc 9)) (.val (.int (0) 0))) (.val .none) (.tup [(.var (.loc 7)), (.var (.loc 8)), (.var (.loc 9))]))]
noncomputable def sp_match_rule : FnSpec := ⟨["scene", "at", "tests"], ["scene", "at", "tests", "back", "inside", "ahead", "actions", "places", "begin", "end"], [], [some 0, some 1, some 2, none, none, none, none, none, none, none], [], b_match_rule⟩
noncomputable def b_inner_scene : List CS := [
  .ret (.ite (.cmp .GtE (.attr (.var (.loc 0)) 40) (.val (.int (6) 0))) (.val .none) (.call (.val (.ref a_nested_scene)) [(.var (.loc 0)), (.var (.loc 1))]))]
noncomputable def sp_inner_scene : FnSpec := ⟨["scene", "number"], ["scene", "number"], [], [some 0, some 1], [], b_inner_scene⟩
noncomputable def b_grow : List CS := [
  .set (.one (.loc 0)) (.comp (.bin .Add (.bin .Add (.sub (.attr (.var (.cel 1)) 16) (.var (.cel 0))) (.val (.int (1) 0))) (.var (.loc 1))) (.one (.loc 1)) (.call (.val (.type "range")) [(.var (.cel 2))]) .tt 2 [1, 0]),
  .seta (.var (.cel 0)) 16 (.bin .Add (.bin .Add (.slice (.attr (.var (.cel 0)) 16) (.val .none) (.bin .Add (.var (.cel 1)) (.val (.int (1) 0))) (.val .none)) (.var (.loc 0))) (.comp (.bin .Add (.var (.loc 1)) (.var (.cel 0))) (.one (.loc 1)) (.slice (.attr (.var (.cel 0)) 16) (.bin .Add (.var (.cel 1)) (.val (.int (1) 0))) (.val .none) (.val .none)) .tt 2 [2]))]
noncomputable def sp_grow : FnSpec := ⟨["places", "index", "more"], ["fresh"], ["places", "index", "more"], [none], [some 0, some 1, some 2], b_grow⟩
noncomputable def b_shrink : List CS := [
  .seta (.var (.loc 0)) 16 (.bin .Add (.slice (.attr (.var (.loc 0)) 16) (.val .none) (.bin .Add (.var (.loc 1)) (.val (.int (1) 0))) (.val .none)) (.comp (.bin .Sub (.var (.loc 1)) (.var (.cel 0))) (.one (.loc 1)) (.slice (.attr (.var (.loc 0)) 16) (.bin .Add (.bin .Add (.var (.loc 1)) (.val (.int (1) 0))) (.var (.cel 0))) (.val .none) (.val .none)) .tt 2 [0]))]
noncomputable def sp_shrink : FnSpec := ⟨["places", "index", "less"], ["places", "index"], ["less"], [some 0, some 1], [some 2], b_shrink⟩
noncomputable def b_move : List CS := [
  .seta (.var (.loc 0)) 42 (.bin .Add (.attr (.var (.loc 0)) 42) (.var (.loc 2))),
  .ite (.cmp .Lt (.attr (.var (.loc 0)) 42) (.sub (.attr (.var (.loc 0)) 16) (.var (.loc 1)))) [
    .set (.one (.loc 2)) (.bin .Sub (.bin .Add (.var (.loc 2)) (.sub (.attr (.var (.loc 0)) 16) (.var (.loc 1)))) (.attr (.var (.loc 0)) 42)),
    .seta (.var (.loc 0)) 42 (.sub (.attr (.var (.loc 0)) 16) (.var (.loc 1)))] [],
  .ite (.cmp .Gt (.var (.loc 2)) (.val (.int (0) 0))) [
    .expr (.call (.val (.ref a_grow)) [(.var (.loc 0)), (.var (.loc 1)), (.var (.loc 2))])] [
    .ite (.cmp .Lt (.var (.loc 2)) (.val (.int (0) 0))) [
      .expr (.call (.val (.ref a_shrink)) [(.var (.loc 0)), (.var (.loc 1)), (.neg (.var (.loc 2)))])] []]]
noncomputable def sp_move : FnSpec := ⟨["places", "index", "change"], ["places", "index", "change"], [], [some 0, some 1, some 2], [], b_move⟩
noncomputable def b_do_action : List CS := [
  .set (.many [(.loc 4), (.loc 5)]) (.var (.loc 2)),
  .ite (.or (.cmp .GtE (.var (.loc 4)) (.call (.val (.builtin "len")) [(.attr (.var (.loc 1)) 16)])) (.cmp .GtE (.sub (.attr (.var (.loc 1)) 16) (.var (.loc 4))) (.call (.val (.builtin "len")) [(.attr (.attr (.var (.loc 0)) 36) 16)]))) [
    .ret (.val (.bool true))] [],
  .set (.one (.loc 6)) (.call (.val (.ref a_inner_scene)) [(.var (.loc 0)), (.var (.loc 5))]),
  .ite (.or (.cmp .Is (.var (.loc 6)) (.val .none)) (.cmp .GtE (.sub (.attr (.var (.loc 0)) 41) (.val (.int (0) 0))) (.val (.int (256) 0)))) [
    .ret (.val (.bool true))] [],
  .seti (.attr (.var (.loc 0)) 41) (.val (.int (0) 0)) (.bin .Add (.sub (.attr (.var (.loc 0)) 41) (.val (.int (0) 0))) (.val (.int (1) 0))),
  .set (.one (.loc 7)) (.call (.val (.builtin "len")) [(.attr (.attr (.var (.loc 0)) 36) 16)]),
  .ite (.cmp .Lt (.call (.var (.loc 3)) [(.var (.loc 6)), (.sub (.attr (.var (.loc 1)) 16) (.var (.loc 4)))]) (.val (.int (0) 0))) [
    .ret (.val (.bool true))] [],
  .set (.one (.loc 8)) (.bin .Sub (.call (.val (.builtin "len")) [(.attr (.attr (.var (.loc 0)) 36) 16)]) (.var (.loc 7))),
  .ite (.and (.cmp .Gt (.var (.loc 8)) (.val (.int (0) 0))) (.cmp .Gt (.bin .Add (.var (.loc 8)) (.call (.val (.builtin "len")) [(.attr (.var (.loc 1)) 16)])) (.val (.int (64) 0)))) [
    .seta (.var (.loc 1)) 42 (.bin .Add (.attr (.var (.loc 1)) 42) (.var (.loc 8))),
    .ret (.val (.bool false))] [],
  .ite (.cmp .NotEq (.var (.loc 8)) (.val (.int (0) 0))) [
    .expr (.call (.val (.ref a_move)) [(.var (.loc 1)), (.var (.loc 4)), (.var (.loc 8))])] [],
  .ret (.val (.bool true))]
noncomputable def sp_do_action : FnSpec := ⟨["scene", "places", "action", "apply_at"], ["scene", "places", "action", "apply_at", "index", "number", "inner", "size", "change"], [], [some 0, some 1, some 2, some 3, none, none, none, none, none], [], b_do_action⟩
noncomputable def b_do_actions : List CS := [
  .for (.one (.loc 4)) (.var (.loc 2)) [
    .ite (.not (.tr (.call (.val (.ref a_do_action)) [(.var (.loc 0)), (.var (.loc 1)), (.var (.loc 4)), (.var (.loc 3))]))) [
      .ret (.attr (.var (.loc 1)) 42)] []],
  .ret (.attr (.var (.loc 1)) 42)]
noncomputable def sp_do_actions : FnSpec := ⟨["scene", "places", "actions", "apply_at"], ["scene", "places", "actions", "apply_at", "action"], [], [some 0, some 1, some 2, some 3, none], [], b_do_actions⟩
noncomputable def b_apply_context : List CS := [
  .ite (.cmp .Eq (.attr (.var (.loc 0)) 40) (.val (.int (0) 0))) [
    .seti (.attr (.var (.loc 0)) 41) (.val (.int (0) 0)) (.val (.int (0) 0))] [],
  .for (.one (.loc 4)) (.call (.val (.ref a_rules_at)) [(.var (.loc 1)), (.attr (.sub (.attr (.attr (.var (.loc 0)) 36) 16) (.var (.loc 2))) 1)]) [
    .set (.one (.loc 5)) (.call (.val (.ref a_match_rule)) [(.var (.loc 0)), (.var (.loc 2)), (.var (.loc 4))]),
    .ite (.cmp .IsNot (.var (.loc 5)) (.val .none)) [
      .expr (.call (.val (.ref a_hang)) [(.attr (.var (.loc 0)) 36), (.sub (.var (.loc 5)) (.val (.int (1) 0))), (.bin .Add (.sub (.var (.loc 5)) (.val (.int (2) 0))) (.val (.int (1) 0)))]),
      .ret (.call (.val (.ref a_do_actions)) [(.var (.loc 0)), (.call (.val (.ref a_Places)) [(.sub (.var (.loc 5)) (.val (.int (0) 0))), (.bin .Add (.sub (.sub (.var (.loc 5)) (.val (.int (0) 0))) (.neg (.val (.int (1) 0)))) (.val (.int (1) 0)))]), (.sub (.var (.loc 4)) (.val (.int (3) 0))), (.var (.loc 3))])] []],
  .ret (.neg (.val (.int (1) 0)))]
noncomputable def sp_apply_context : FnSpec := ⟨["scene", "table", "at", "apply_at"], ["scene", "table", "at", "apply_at", "tests", "found"], [], [some 0, some 1, some 2, some 3, none, none], [], b_apply_context⟩
noncomputable def b_ClassDef___init__ : List CS := [
  .seta (.var (.loc 0)) 31 (.var (.loc 1))]
noncomputable def sp_ClassDef___init__ : FnSpec := ⟨["self", "classes"], ["self", "classes"], [], [some 0, some 1], [], b_ClassDef___init__⟩
noncomputable def b_ClassDef_class_of : List CS := [
  .ret (.meth (.attr (.var (.loc 0)) 31) 45 [(.var (.loc 1)), (.val (.int (0) 0))])]
noncomputable def sp_ClassDef_class_of : FnSpec := ⟨["self", "glyph"], ["self", "glyph"], [], [some 0, some 1], [], b_ClassDef_class_of⟩
noncomputable def b_Gdef___init__ : List CS := [
  .seta (.var (.loc 0)) 31 (.var (.loc 1)),
  .seta (.var (.loc 0)) 48 (.var (.loc 2)),
  .seta (.var (.loc 0)) 29 (.var (.loc 3)),
  .seta (.var (.loc 0)) 49 (.ite (.cmp .Is (.var (.loc 4)) (.val .none)) (.dict [] []) (.var (.loc 4))),
  .seta (.var (.loc 0)) 50 (.ite (.cmp .Is (.var (.loc 5)) (.val .none)) (.dict [] []) (.var (.loc 5)))]
noncomputable def sp_Gdef___init__ : FnSpec := ⟨["self", "classes", "attach", "sets", "points", "carets"], ["self", "classes", "attach", "sets", "points", "carets"], [], [some 0, some 1, some 2, some 3, some 4, some 5], [], b_Gdef___init__⟩
noncomputable def b_Gdef_glyph_class : List CS := [
  .set (.one (.loc 2)) (.meth (.attr (.var (.loc 0)) 31) 46 [(.var (.loc 1))]),
  .ret (.ite (.cmp2 .LtE .LtE (.val (.int (1) 0)) (.var (.loc 2)) (.val (.int (4) 0))) (.var (.loc 2)) (.val (.int (0) 0)))]
noncomputable def sp_Gdef_glyph_class : FnSpec := ⟨["self", "glyph"], ["self", "glyph", "number"], [], [some 0, some 1, none], [], b_Gdef_glyph_class⟩
noncomputable def b__law_take : List CS := [
  .ite (.cmp .Eq (.call (.val (.builtin "len")) [(.var (.loc 0))]) (.val (.int (0) 0))) [
    .ret (.val (.int (0) 0))] [],
  .set (.one (.loc 2)) (.bin .Mod (.sub (.var (.loc 0)) (.val (.int (0) 0))) (.var (.loc 1))),
  .seti (.var (.loc 0)) (.val (.int (0) 0)) (.bin .FloorDiv (.sub (.var (.loc 0)) (.val (.int (0) 0))) (.var (.loc 1))),
  .ite (.cmp .Eq (.sub (.var (.loc 0)) (.val (.int (0) 0))) (.val (.int (0) 0))) [
    .expr (.meth (.var (.loc 0)) 44 [(.val (.int (0) 0))])] [],
  .ret (.var (.loc 2))]
noncomputable def sp__law_take : FnSpec := ⟨["pool", "many"], ["pool", "many", "digit"], [], [some 0, some 1, none], [], b__law_take⟩
structure Facts (W : Wd) : Prop where
  O : ∃ mg mb, WdOK W mg mb
  AT : W.AT = AT1
  c_Info : W.cls.lookup a_Info = some k_Info
  c_Buffer : W.cls.lookup a_Buffer = some k_Buffer
  c_Coverage : W.cls.lookup a_Coverage = some k_Coverage
  c_Rule : W.cls.lookup a_Rule = some k_Rule
  c_Contexts : W.cls.lookup a_Contexts = some k_Contexts
  c_Lookup : W.cls.lookup a_Lookup = some k_Lookup
  c_Scene : W.cls.lookup a_Scene = some k_Scene
  c_Places : W.cls.lookup a_Places = some k_Places
  c_ClassDef : W.cls.lookup a_ClassDef = some k_ClassDef
  c_Gdef : W.cls.lookup a_Gdef = some k_Gdef
  f_Info___init__ : ∃ code, FnAt W a_Info___init__ sp_Info___init__ code 4 []
  f_Buffer___init__ : ∃ code, FnAt W a_Buffer___init__ sp_Buffer___init__ code 2 [.bool false]
  f_Buffer_glyphs : ∃ code, FnAt W a_Buffer_glyphs sp_Buffer_glyphs code 1 []
  f_hang : ∃ code, FnAt W a_hang sp_hang code 3 []
  f_Coverage___init__ : ∃ code, FnAt W a_Coverage___init__ sp_Coverage___init__ code 2 []
  f_Coverage_index : ∃ code, FnAt W a_Coverage_index sp_Coverage_index code 2 []
  f_Coverage_has : ∃ code, FnAt W a_Coverage_has sp_Coverage_has code 2 []
  f_coverage_of : ∃ code, FnAt W a_coverage_of sp_coverage_of code 1 []
  f_Rule___init__ : ∃ code, FnAt W a_Rule___init__ sp_Rule___init__ code 5 []
  f_Contexts___init__ : ∃ code, FnAt W a_Contexts___init__ sp_Contexts___init__ code 4 [.none, .none]
  f_Contexts_rules : ∃ code, FnAt W a_Contexts_rules sp_Contexts_rules code 1 []
  f_tests_of : ∃ code, FnAt W a_tests_of sp_tests_of code 3 []
  f_rule_tests : ∃ code, FnAt W a_rule_tests sp_rule_tests code 2 []
  f_rules_at : ∃ code, FnAt W a_rules_at sp_rules_at code 2 []
  f_Lookup___init__ : ∃ code, FnAt W a_Lookup___init__ sp_Lookup___init__ code 5 []
  f_Scene___init__ : ∃ code, FnAt W a_Scene___init__ sp_Scene___init__ code 6 [.int 0 0]
  f_attach_wanted : ∃ code, FnAt W a_attach_wanted sp_attach_wanted code 1 []
  f_class_bit : ∃ code, FnAt W a_class_bit sp_class_bit code 1 []
  f_is_ignored : ∃ code, FnAt W a_is_ignored sp_is_ignored code 3 []
  f_passes : ∃ code, FnAt W a_passes sp_passes code 2 []
  f_nested_scene : ∃ code, FnAt W a_nested_scene sp_nested_scene code 2 []
  f_fits : ∃ code, FnAt W a_fits sp_fits code 2 []
  f_is_borne : ∃ code, FnAt W a_is_borne sp_is_borne code 2 []
  f_found_at : ∃ code, FnAt W a_found_at sp_found_at code 6 []
  f_input_at : ∃ code, FnAt W a_input_at sp_input_at code 3 []
  f_last_at : ∃ code, FnAt W a_last_at sp_last_at code 4 []
  f_ahead_at : ∃ code, FnAt W a_ahead_at sp_ahead_at code 3 []
  f_back_at : ∃ code, FnAt W a_back_at sp_back_at code 3 []
  f_Places___init__ : ∃ code, FnAt W a_Places___init__ sp_Places___init__ code 3 []
  f_match_rule : ∃ code, FnAt W a_match_rule sp_match_rule code 3 []
  f_inner_scene : ∃ code, FnAt W a_inner_scene sp_inner_scene code 2 []
  f_grow : ∃ code, FnAt W a_grow sp_grow code 3 []
  f_shrink : ∃ code, FnAt W a_shrink sp_shrink code 3 []
  f_move : ∃ code, FnAt W a_move sp_move code 3 []
  f_do_action : ∃ code, FnAt W a_do_action sp_do_action code 4 []
  f_do_actions : ∃ code, FnAt W a_do_actions sp_do_actions code 4 []
  f_apply_context : ∃ code, FnAt W a_apply_context sp_apply_context code 4 []
  f_ClassDef___init__ : ∃ code, FnAt W a_ClassDef___init__ sp_ClassDef___init__ code 2 []
  f_ClassDef_class_of : ∃ code, FnAt W a_ClassDef_class_of sp_ClassDef_class_of code 2 []
  f_Gdef___init__ : ∃ code, FnAt W a_Gdef___init__ sp_Gdef___init__ code 4 [.none, .none]
  f_Gdef_glyph_class : ∃ code, FnAt W a_Gdef_glyph_class sp_Gdef_glyph_class code 2 []
  f__law_take : ∃ code, FnAt W a__law_take sp__law_take code 2 []
  f_Scene_full : ∃ code, FnAt W a_Scene___init__ sp_Scene___init__ code 7 []
  f_Contexts_full : ∃ code, FnAt W a_Contexts___init__ sp_Contexts___init__ code 6 []
  k_Info : W.fns.contains a_Info = true
  k_Buffer : W.fns.contains a_Buffer = true
  k_Coverage : W.fns.contains a_Coverage = true
  k_Rule : W.fns.contains a_Rule = true
  k_Contexts : W.fns.contains a_Contexts = true
  k_Lookup : W.fns.contains a_Lookup = true
  k_Scene : W.fns.contains a_Scene = true
  k_Places : W.fns.contains a_Places = true
  k_ClassDef : W.fns.contains a_ClassDef = true
  k_Gdef : W.fns.contains a_Gdef = true
  k_Info___init__ : W.fns.contains a_Info___init__ = true
  k_Buffer___init__ : W.fns.contains a_Buffer___init__ = true
  k_Buffer_glyphs : W.fns.contains a_Buffer_glyphs = true
  k_hang : W.fns.contains a_hang = true
  k_Coverage___init__ : W.fns.contains a_Coverage___init__ = true
  k_Coverage_index : W.fns.contains a_Coverage_index = true
  k_Coverage_has : W.fns.contains a_Coverage_has = true
  k_coverage_of : W.fns.contains a_coverage_of = true
  k_Rule___init__ : W.fns.contains a_Rule___init__ = true
  k_Contexts___init__ : W.fns.contains a_Contexts___init__ = true
  k_Contexts_rules : W.fns.contains a_Contexts_rules = true
  k_tests_of : W.fns.contains a_tests_of = true
  k_rule_tests : W.fns.contains a_rule_tests = true
  k_rules_at : W.fns.contains a_rules_at = true
  k_Lookup___init__ : W.fns.contains a_Lookup___init__ = true
  k_Scene___init__ : W.fns.contains a_Scene___init__ = true
  k_attach_wanted : W.fns.contains a_attach_wanted = true
  k_class_bit : W.fns.contains a_class_bit = true
  k_is_ignored : W.fns.contains a_is_ignored = true
  k_passes : W.fns.contains a_passes = true
  k_nested_scene : W.fns.contains a_nested_scene = true
  k_fits : W.fns.contains a_fits = true
  k_is_borne : W.fns.contains a_is_borne = true
  k_found_at : W.fns.contains a_found_at = true
  k_input_at : W.fns.contains a_input_at = true
  k_last_at : W.fns.contains a_last_at = true
  k_ahead_at : W.fns.contains a_ahead_at = true
  k_back_at : W.fns.contains a_back_at = true
  k_Places___init__ : W.fns.contains a_Places___init__ = true
  k_match_rule : W.fns.contains a_match_rule = true
  k_inner_scene : W.fns.contains a_inner_scene = true
  k_grow : W.fns.contains a_grow = true
  k_shrink : W.fns.contains a_shrink = true
  k_move : W.fns.contains a_move = true
  k_do_action : W.fns.contains a_do_action = true
  k_do_actions : W.fns.contains a_do_actions = true
  k_apply_context : W.fns.contains a_apply_context = true
  k_ClassDef___init__ : W.fns.contains a_ClassDef___init__ = true
  k_ClassDef_class_of : W.fns.contains a_ClassDef_class_of = true
  k_Gdef___init__ : W.fns.contains a_Gdef___init__ = true
  k_Gdef_glyph_class : W.fns.contains a_Gdef_glyph_class = true
  k__law_take : W.fns.contains a__law_take = true
  kin : BStrs W a_KINDS_IN_INPUT ["zwj", "hidden"]
  kar : BStrs W a_KINDS_AROUND ["zwj", "zwnj", "hidden"]
theorem srcM_cons {o : Option Nat} {src : List (Option Nat)} {vals : List Value} : srcM (o :: src) vals = (o.bind fun j => vals[j]?) :: srcM src vals := rfl
theorem srcM_nil {vals : List Value} : srcM [] vals = [] := rfl
theorem ndropS {α : Type} {a : α} {l : List α} {n : Nat} : List.drop (n + 1) (a :: l) = List.drop n l := rfl
theorem ndrop0 {α : Type} {l : List α} : List.drop 0 l = l := rfl
end Mine
end
namespace Mine
local macro_rules | `(tactic| walk_at "open_") => do let xs ← ("wS_expr wS_ret wS_set wS_seta wS_seti wS_ite wS_while wS_for wS_cont wS_fdef wE_val wE_var wE_bin wE_neg wE_ofB wE_and wE_or wE_ite wE_call wE_meth wE_attr wE_sub wE_slice wE_list wE_tup wE_dict wE_comp wEs_nil wEs_cons wB_tr wB_tt wB_not wB_and wB_or wB_ite wB_cmp wB_cmp2 srcM_cons srcM_nil setT setP getP optG_some seqK_next seqK_cont seqK_ret Option.bind_some Option.bind_none List.cons_append List.nil_append List.append_nil List.getElem?_cons_zero List.getElem?_cons_succ List.getElem?_nil List.set_cons_zero List.set_cons_succ Option.join_some Nat.reduceAdd List.reduceReplicate List.filterMap_cons List.filterMap_nil List.length_cons List.length_nil Nat.zero_add bnot_true bnot_false ndropS ndrop0".splitOn " ").toArray.mapM fun s => `(Lean.Parser.Tactic.simpLemma| $(Lean.mkIdent s.toName):ident); `(tactic| ((try dsimp only [$xs,*]); (repeat ((first | with_reducible refine ss_cons ?_ | with_reducible refine ss_nil ?_); (try dsimp only [$xs,*])))))
section
open PySem PySem.W PySem.Calls PyProof.Rows
variable {W : Wd} {n : Nat} {G : GH} {K : KV} {cs : List Addr}
theorem Sub.trans {A B C : GH} (h1 : Sub A B) (h2 : Sub B C) : Sub A C := fun a g e => h2 a g (h1 a g e)
theorem sub_set {a : Addr} {o : GO} (h : G a = none) : Sub G (G.set a o) := fun b g e => by
  wide_open with GH.set_ne; exact e
  rintro rfl; wide_line with h using e
theorem set_old {a b : Addr} {o g : GO} (ha : G a = none) (h : G b = some g) : (G.set a o) b = some g := sub_set ha b g h
theorem fnC (F : Facts W) {f : Addr} {sp : FnSpec} {k : Nat} {dv args : List Value} (h : ∃ code, FnAt W f sp code k dv) (hk : args.length = k) (hc : sp.cels = [])
    (w : ∀ cd, wpSs W n cd [] [] sp.body (srcM sp.lsrc (args ++ dv)) G (bodyK K)) : CallC W (n + 1) (.ref f) args G K := by
  refine o_EE F.O fun mg mb O => ?_
  obtain ⟨code, h⟩ := h
  exact callT_fn O h hk hc (w _)
theorem fnCc (F : Facts W) {f : Addr} {sp : FnSpec} {k : Nat} {dv args : List Value} (h : ∃ code, FnAt W f sp code k dv) (hk : args.length = k) (hc : sp.cels ≠ [])
    (w : ∀ cd, ∀ cs : List Addr, cs.length = sp.cels.length → cs.Nodup → (∀ c ∈ cs, G c = none) → wpSs W n cd sp.cels cs sp.body (srcM sp.lsrc (args ++ dv)) (setCs G cs (srcM sp.csrc (args ++ dv))) (bodyK K)) :
    CallC W (n + 1) (.ref f) args G K := by
  refine o_EE F.O fun mg mb O => ?_
  obtain ⟨code, h⟩ := h
  exact callT_cel O h hk hc (w _)
theorem attr_ {a : Addr} {i : Nat} {C : Addr} {fs : List (Nat × Value)} {sp : ClsSpec} {v : Value} (h : G a = some (.inst C fs)) (hc : W.cls.lookup C = some sp) (hi : sp.attrs.contains i = true) (hv : fs.lookup i = some v) (hb : isBlt v = false)
    (k : K v G) : attrG W (.ref a) i G K := by
  unfold attrG; dsimp only; wide_open with h; exact (i_EEAAAA sp v hc hi hv hb k)
theorem seta_ {a : Addr} {i : Nat} {C : Addr} {fs : List (Nat × Value)} {sp : ClsSpec} {v : Value} {K : GH → Prop} (h : G a = some (.inst C fs)) (hc : W.cls.lookup C = some sp) (hi : sp.attrs.contains i = true) (hl : fs.length ≤ 500)
    (k : K (G.set a (.inst C (setF fs i v)))) : setaG W (.ref a) i v G K := by
  unfold setaG; dsimp only; wide_open with h; exact (i_EAAA sp hc hi hl k)
theorem meth_ {a : Addr} {i : Nat} {C m : Addr} {fs : List (Nat × Value)} {sp : ClsSpec} (h : G a = some (.inst C fs)) (hc : W.cls.lookup C = some sp) (hn : (fs.lookup i).isNone = true) (hm : sp.meths.lookup i = some m) : methG W (.ref a) i G = some (.ref m) := by
  unfold methG; dsimp only; wide_open with h; dsimp only; wide_open with hc; dsimp only; (wide_line using if_pos hn; wide_open with hm); rfl
theorem meth_append (F : Facts W) {a : Addr} {xs : List Value} (h : G a = some (.list xs)) : methG W (.ref a) 43 G = some (.builtin "list.append") := by
  unfold methG; dsimp only; wide_open with h; dsimp only; wide_open with F.AT; rfl
theorem meth_pop (F : Facts W) {a : Addr} {xs : List Value} (h : G a = some (.list xs)) : methG W (.ref a) 44 G = some (.builtin "list.pop") := by
  unfold methG; dsimp only; wide_open with h; dsimp only; wide_open with F.AT; rfl
theorem meth_get (F : Facts W) {a : Addr} {es : List (Int × Value)} {ep : Nat} (h : G a = some (.dict es ep)) : methG W (.ref a) 45 G = some (.builtin "dict.get") := by
  unfold methG; dsimp only; wide_open with h; dsimp only; wide_open with F.AT; rfl
theorem sub_list {a : Addr} {xs : List Value} {i : Int} {v : Value} (h : G a = some (.list xs)) (hv : pickI xs i = some v) (k : K v G) : subG (.ref a) (.int i 0) G K := by
  unfold subG; dsimp only; wide_open with h; exact (i_EA v hv k)
theorem sub_tup {a : Addr} {xs : List Value} {i : Int} {v : Value} (h : G a = some (.tup xs)) (hv : pickI xs i = some v) (k : K v G) : subG (.ref a) (.int i 0) G K := by
  unfold subG; dsimp only; wide_open with h; exact (i_EA v hv k)
theorem sub_dict {a : Addr} {es : List (Int × Value)} {ep : Nat} {i : Int} {v : Value} (h : G a = some (.dict es ep)) (hv : es.lookup i = some v) (k : K v G) : subG (.ref a) (.int i 0) G K := by
  unfold subG; dsimp only; wide_open with h; exact (i_EA v hv k)
theorem keep_fn {f : Addr} (h : W.fns.contains f = true) : keepG W (.ref f) G := .inl h
theorem pick_nat {xs : List Value} {i : Nat} {v : Value} (h : xs[i]? = some v) : pickI xs (i : Int) = some v := by
  unfold pickI; wide_open with if_pos (Int.natCast_nonneg i); simpa using h
theorem pick_last {xs : List Value} {v : Value} : pickI (xs ++ [v]) (-1) = some v := by
  unfold pickI
  have e : (-1 + (((xs ++ [v]).length : Nat) : Int)).toNat = xs.length := by simp; lia
  (wide_line using if_neg (by decide); wide_line using if_pos (by simp; lia); wide_open with e)
  simp
theorem cmp_if {op : CmpOp} {a b : Int} {C : Bool → GH → Prop} {p : Prop} [d : Decidable p] (e : cmpI op a b = some (decide p)) (t : p → C true G) (f : ¬p → C false G) : cmpG W n op (.int a 0) (.int b 0) G C :=
  cmpI_ok e (match d with
    | .isTrue h => t h
    | .isFalse h => f h)
theorem cmp_t {op : CmpOp} {a b : Int} {C : Bool → GH → Prop} {p : Prop} [d : Decidable p] (e : cmpI op a b = some (decide p)) (h : p) (k : C true G) : cmpG W n op (.int a 0) (.int b 0) G C := cmp_if e (fun z9 => k) fun x => absurd h x
theorem cmp_f {op : CmpOp} {a b : Int} {C : Bool → GH → Prop} {p : Prop} [d : Decidable p] (e : cmpI op a b = some (decide p)) (h : ¬p) (k : C false G) : cmpG W n op (.int a 0) (.int b 0) G C := cmp_if e (fun x => absurd x h) fun z9 => k
theorem cell_ok {c : Addr} {v : Value} {K : Value → Prop} (h : G c = some (.cell (some v))) (k : K v) : optG (getP [c] [] (.cel 0) G) K := opt_ok (by unfold getP; dsimp only [List.getElem?_cons_zero]; wide_open with h) k
theorem ret_pure {v : Value} {G' : GH} (h : Sub G G') (k : K v G) : bodyK K (.ret v) [] G' := (i_EA G h k)
theorem ret_same {v : Value} (k : K v G) : bodyK K (.ret v) [] G := (i_EA G (fun z9 z9 e => e) k)
noncomputable def dictI (es : List (Int × Int)) : List (Int × Value) := es.map fun p => (p.1, .int p.2 0)
noncomputable def getI (es : List (Int × Int)) (g : Int) : Int := (es.lookup g).getD 0
theorem dictI_get (es : List (Int × Int)) (g : Int) : ((dictI es).lookup g).getD (.int 0 0) = .int (getI es g) 0 := by
  unfold dictI getI
  induction es with
  | nil => rfl
  | cons p r ih =>
    obtain ⟨a, b⟩ := p
    simp only [List.map_cons, List.lookup_cons]
    cases g == a
    · exact ih
    · rfl
noncomputable def ClsAt (G : GH) (c : Addr) (es : List (Int × Int)) : Prop := ∃ d ep, G c = some (.inst a_ClassDef [(31, .ref d)]) ∧ G d = some (.dict (dictI es) ep)
theorem ClsAt.sub {G' : GH} {c : Addr} {es} (x : ClsAt G c es) (h : Sub G G') : ClsAt G' c es := let ⟨d, ep, h1, h2⟩ := x; (i_EEA d ep (h _ _ h1) (h _ _ h2))
theorem class_of_ (F : Facts W) {c : Addr} {es : List (Int × Int)} {g : Int} (h : ClsAt G c es) (k : K (.int (getI es g) 0) G) : CallC W (n + 1) (.ref a_ClassDef_class_of) [.ref c, .int g 0] G K := by
  refine o_EEA h fun d ep h1 h2 => ?_; try clear h
  refine fnC F F.f_ClassDef_class_of rfl rfl fun cd => ?_
  dsimp only [sp_ClassDef_class_of, b_ClassDef_class_of]
  walk_at "open_"
  refine attr_ h1 F.c_ClassDef rfl rfl rfl ?_
  refine (i_EAA _ (meth_get F h2) trivial (dict_get_ok h2 ?_))
  wide_open with dictI_get
  exact ret_same k
noncomputable def clsNum (es : List (Int × Int)) (g : Int) : Int := if 1 ≤ getI es g ∧ getI es g ≤ 4 then getI es g else 0
structure GdefAt (G : GH) (g : Addr) (es : List (Int × Int)) : Prop where
  ex : ∃ c v1 v2 v3 v4, G g = some (.inst a_Gdef [(31, .ref c), (48, v1), (29, v2), (49, v3), (50, v4)]) ∧ ClsAt G c es
theorem GdefAt.sub {G' : GH} {c : Addr} {es} (x : GdefAt G c es) (h : Sub G G') : GdefAt G' c es := by
  refine o_EEEEEA x.ex fun d v1 v2 v3 v4 h1 h2 => ?_
  exact ⟨(i_EEEEEA d v1 v2 v3 v4 (h _ _ h1) (h2.sub h))⟩
theorem glyph_class_ (F : Facts W) {gd : Addr} {es : List (Int × Int)} {g : Int} (h : GdefAt G gd es) (k : K (.int (clsNum es g) 0) G) : CallC W (n + 2) (.ref a_Gdef_glyph_class) [.ref gd, .int g 0] G K := by
  refine o_EEEEEA h.ex fun c v1 v2 v3 v4 h1 h2 => ?_
  refine fnC F F.f_Gdef_glyph_class rfl rfl fun cd => ?_
  dsimp only [sp_Gdef_glyph_class, b_Gdef_glyph_class]
  walk_at "open_"
  refine attr_ h1 F.c_Gdef rfl rfl rfl ?_
  have h2' := h2
  refine o_EEA h2' fun d ep h3 h4 => ?_; try clear h2'
  refine (i_EAA _ (meth_ h3 F.c_ClassDef rfl rfl) (keep_fn F.k_ClassDef_class_of) ((class_of_ F h2 ?_).T))
  refine cmpI_ok rfl ?_
  unfold clsNum at k
  by_cases a1 : 1 ≤ getI es g
  · wide_open with decide_eq_true a1
    refine cmpI_ok rfl ?_
    by_cases a2 : getI es g ≤ 4
    · walk_at "open_"
      wide_open with decide_eq_true a2; rw [if_pos ⟨a1, a2⟩] at k; exact ret_same k
    · walk_at "open_"
      wide_open with decide_eq_false a2; rw [if_neg (fun x => a2 x.2)] at k; exact ret_same k
  · walk_at "open_"
    wide_open with decide_eq_false a1; rw [if_neg (fun x => a1 x.1)] at k; exact ret_same k
noncomputable def classBit (x : Int) : Int := getI [(1, 2), (2, 4), (3, 8)] x
theorem class_bit_ (F : Facts W) {x : Int} (k : K (.int (classBit x) 0) G) : CallC W (n + 1) (.ref a_class_bit) [.int x 0] G K := by
  refine fnC F F.f_class_bit rfl rfl fun cd => ?_
  dsimp only [sp_class_bit, b_class_bit]
  walk_at "open_"
  intro ep a ha
  have e : (([1, 2, 3] : List Int).zip [Value.int 2 0, Value.int 4 0, Value.int 8 0]).foldl (fun l p => put l p.1 p.2) [] = dictI [(1, 2), (2, 4), (3, 8)] := by simp [put, dictI]
  wide_open with e
  refine (i_EAA _ (meth_get F (GH.set_self _ _ _)) trivial (dict_get_ok (GH.set_self _ _ _) ?_))
  wide_open with dictI_get
  exact ret_pure (sub_set ha) k
noncomputable def LookAt (G : GH) (l : Addr) (kind : Str) (fl ms : Int) : Prop := ∃ tb, G l = some (.inst a_Lookup [(9, .str kind 0), (33, .int fl 0), (34, .int ms 0), (35, tb)])
theorem LookAt.sub {G' : GH} {c : Addr} {a b d} (x : LookAt G c a b d) (h : Sub G G') : LookAt G' c a b d := let ⟨d, h1⟩ := x; ⟨d, h _ _ h1⟩
noncomputable def ignoredM (es : List (Int × Int)) (fl g : Int) : Bool := Builtin.bitAnd fl (classBit (clsNum es g)) != 0
theorem flag_and : ∀ k : Nat, k < 16 → Builtin.bitAnd (k : Int) 16 = 0 := by decide +kernel
theorem flag_div : ∀ k : Nat, k < 16 → ((k : Int).fdiv 256).fmod 256 = 0 := by decide +kernel
theorem attach_wanted_ (F : Facts W) {x : Int} (k : K (.int ((x.fdiv 256).fmod 256) 0) G) : CallC W (n + 1) (.ref a_attach_wanted) [.int x 0] G K := by
  refine fnC F F.f_attach_wanted rfl rfl fun cd => ?_
  dsimp only [sp_attach_wanted, b_attach_wanted]
  walk_at "open_"
  refine div_ok (by decide) (PyProof.noPylong_small (by decide)) ?_
  refine mod_ok (by decide) ?_
  exact ret_same k
theorem is_ignored_ (F : Facts W) {gd l : Addr} {es : List (Int × Int)} {fl : Nat} {kd : Str} {ms g : Int} (h : GdefAt G gd es) (hl : LookAt G l kd fl ms) (hf : fl < 16) (k : K (.bool (ignoredM es fl g)) G) : CallC W (n + 3) (.ref a_is_ignored) [.ref gd, .ref l, .int g 0] G K := by
  obtain ⟨tb, hl⟩ := hl
  refine o_EEEEEA h.ex fun c v1 v2 v3 v4 h1 h2 => ?_
  refine fnC F F.f_is_ignored rfl rfl fun cd => ?_
  dsimp only [sp_is_ignored, b_is_ignored]
  walk_at "open_"
  refine (i_EAA _ (meth_ h1 F.c_Gdef rfl rfl) (keep_fn F.k_Gdef_glyph_class) ((glyph_class_ F h ?_).T))
  walk_at "open_"
  refine attr_ hl F.c_Lookup rfl rfl rfl ?_
  refine ⟨keep_fn F.k_class_bit, (class_bit_ F ?_).T⟩
  refine and_ok ?_
  refine (?_ : match (Builtin.bitAnd (fl : Int) (classBit (clsNum es g)) != 0) with | true => _ | false => _)
  unfold ignoredM at k
  cases hb : (Builtin.bitAnd (fl : Int) (classBit (clsNum es g)) != 0)
  · rw [hb] at k
    walk_at "open_"
    refine cmpI_ok rfl ?_
    by_cases h3 : clsNum es g = 3
    · wide_open with decide_eq_true h3
      walk_at "open_"
      refine attr_ hl F.c_Lookup rfl rfl rfl ?_
      refine and_ok ?_
      wide_open with flag_and fl hf
      simp only [truthG_i, bne_self_eq_false]
      walk_at "open_"
      refine attr_ hl F.c_Lookup rfl rfl rfl ?_
      refine ⟨keep_fn F.k_attach_wanted, (attach_wanted_ F ?_).T⟩
      wide_open with flag_div fl hf
      refine cmpI_ok rfl ?_
      walk_at "open_"
      exact ret_same k
    · wide_open with decide_eq_false h3
      walk_at "open_"
      exact ret_same k
  · rw [hb] at k
    walk_at "open_"
    exact ret_same k
structure Inf where
  code : Int
  glyph : Int
  cluster : Int
  mask : Int
  uns : Bool
  kind : Str
noncomputable def infoO (d : Inf) : GO := .inst a_Info [(0, .int d.code 0), (1, .int d.glyph 0), (2, .int d.cluster 0), (3, .int d.mask 0), (4, .bool d.uns), (5, .int 0 0), (6, .int 0 0), (7, .int 0 0), (8, .int 0 0), (9, .str d.kind 0),
  (10, .int 0 0), (11, .int 0 0), (12, .int 0 0), (13, .int 0 0), (14, .int 0 0), (15, .str "" 0)]
noncomputable def bufO (r : Addr) : GO := .inst a_Buffer [(16, .ref r), (17, .bool false), (18, .int 0 0), (19, .int 0 0)]
noncomputable def refs (as : List Addr) : List Value := as.map .ref
structure RowAt (G : GH) (b : Addr) (as : List Addr) (I : Addr → Inf) : Prop where
  ex : ∃ r, G b = some (bufO r) ∧ G r = some (.list (refs as))
  info : ∀ a ∈ as, G a = some (infoO (I a))
theorem RowAt.sub {G' : GH} {b as I} (x : RowAt G b as I) (h : Sub G G') : RowAt G' b as I := ⟨let ⟨r, h1, h2⟩ := x.ex; (i_EA r (h _ _ h1) (h _ _ h2)), fun a ha => h _ _ (x.info a ha)⟩
noncomputable def sceneO (b gd ls l : Addr) (mask depth : Int) (st : Addr) : GO := .inst a_Scene [(36, .ref b), (37, .ref gd), (38, .ref ls), (39, .ref l), (3, .int mask 0), (40, .int depth 0), (41, .ref st)]
structure View where
  as : List Addr
  I : Addr → Inf
  es : List (Int × Int)
  fl : Nat
  mask : Int
structure SceneAt (G : GH) (s : Addr) (V : View) : Prop where
  ex : ∃ b gd ls l dp st kd ms, G s = some (sceneO b gd ls l V.mask dp st) ∧ RowAt G b V.as V.I ∧ GdefAt G gd V.es ∧ LookAt G l kd V.fl ms ∧ V.fl < 16
theorem SceneAt.sub {G' : GH} {s V} (x : SceneAt G s V) (h : Sub G G') : SceneAt G' s V := by
  refine o_EEEEEEEEAAAA x.ex fun b gd ls l dp st kd ms h1 h2 h3 h4 h5 => ?_
  exact ⟨(i_EEEEEEEEAAAA b gd ls l dp st kd ms (h _ _ h1) (h2.sub h) (h3.sub h) (h4.sub h) h5)⟩
theorem pick_ref {as : List Addr} {i : Nat} {a : Addr} (h : as[i]? = some a) : pickI (refs as) (i : Int) = some (.ref a) := pick_nat (by simp [refs, h])
theorem passes_ (F : Facts W) {s : Addr} {V : View} {i : Nat} {a : Addr} (h : SceneAt G s V) (hi : V.as[i]? = some a) (k : K (.bool (ignoredM V.es V.fl (V.I a).glyph)) G) : CallC W (n + 4) (.ref a_passes) [.ref s, .int i 0] G K := by
  refine o_EEEEEEEEAAAA h.ex fun b gd ls l dp st kd ms h1 h2 h3 h4 h5 => ?_
  refine o_EA h2.ex fun r r1 r2 => ?_
  refine fnC F F.f_passes rfl rfl fun cd => ?_
  dsimp only [sp_passes, b_passes]
  walk_at "open_"
  refine attr_ h1 F.c_Scene rfl rfl rfl ?_
  refine attr_ h1 F.c_Scene rfl rfl rfl ?_
  refine attr_ h1 F.c_Scene rfl rfl rfl ?_
  refine attr_ r1 F.c_Buffer rfl rfl rfl ?_
  refine sub_list r2 (pick_ref hi) ?_
  refine attr_ (h2.info a (List.mem_of_getElem? hi)) F.c_Info rfl rfl rfl ?_
  refine ⟨keep_fn F.k_is_ignored, (is_ignored_ F h3 h4 h5 ?_).T⟩
  exact ret_same k
theorem is_borne_ (F : Facts W) {s a : Addr} {V : View} {d : Inf} (h : SceneAt G s V) (ha : G a = some (infoO d)) (k : K (.bool (Builtin.bitAnd d.mask V.mask != 0)) G) : CallC W (n + 1) (.ref a_is_borne) [.ref s, .ref a] G K := by
  refine o_EEEEEEEEAAAA h.ex fun b gd ls l dp st kd ms h1 h2 h3 h4 h5 => ?_
  refine fnC F F.f_is_borne rfl rfl fun cd => ?_
  dsimp only [sp_is_borne, b_is_borne]
  walk_at "open_"
  refine attr_ ha F.c_Info rfl rfl rfl ?_
  refine attr_ h1 F.c_Scene rfl rfl rfl ?_
  refine and_ok ?_
  refine cmpI_ok rfl ?_
  refine ret_same ?_
  have e : (!decide (Builtin.bitAnd d.mask V.mask = 0)) = (Builtin.bitAnd d.mask V.mask != 0) := by
    cases hq : (Builtin.bitAnd d.mask V.mask != 0) <;> simp_all
  wide_open with e; exact k
end
section
open PySem PySem.W PySem.Calls PyProof.Rows
variable {W : Wd} {n : Nat} {G : GH} {K : KV} {cs : List Addr}
theorem neg_ {i : Int} (k : K (.int (-i) 0) G) : negG (.int i 0) G K := k
noncomputable def CovAt (G : GH) (c : Addr) (ns : List Int) : Prop := ∃ t, G c = some (.inst a_Coverage [(20, .ref t)]) ∧ G t = some (.tup (ns.map vInt))
theorem CovAt.sub {G' : GH} {c : Addr} {ns} (x : CovAt G c ns) (h : Sub G G') : CovAt G' c ns := let ⟨d, h1, h2⟩ := x; (i_EA d (h _ _ h1) (h _ _ h2))
theorem pick_int {ns : List Int} {i : Nat} {x : Int} (h : ns[i]? = some x) : pickI (ns.map vInt) (i : Int) = some (.int x 0) := pick_nat (by simp [h, vInt])
theorem cov_index_ (F : Facts W) {c : Addr} {ns : List Int} {g : Int} (h : CovAt G c ns) (hs : ns.Pairwise (· ≤ ·)) (k : ∀ r : Int, (0 ≤ r ↔ g ∈ ns) → K (.int r 0) G) : CallC W (n + 1) (.ref a_Coverage_index) [.ref c, .int g 0] G K := by
  refine o_EA h fun t h1 h2 => ?_; try clear h
  have hle : ∀ (i j : Nat) (x y : Int), i ≤ j → ns[i]? = some x → ns[j]? = some y → x ≤ y := fun i j x y hij hx hy => by
    rcases Nat.lt_or_eq_of_le hij with hlt | rfl
    · obtain ⟨hi, rfl⟩ := List.getElem?_eq_some_iff.mp hx
      obtain ⟨hj, rfl⟩ := List.getElem?_eq_some_iff.mp hy
      exact List.pairwise_iff_getElem.mp hs i j hi hj hlt
    · wide_line with hx using hy; exact Int.le_refl _
  refine fnC F F.f_Coverage_index rfl rfl fun cd => ?_
  dsimp only [sp_Coverage_index, b_Coverage_index]
  walk_at "open_"
  refine attr_ h1 F.c_Coverage rfl rfl rfl ?_
  refine ⟨trivial, len_tup_ok h2 ?_⟩
  refine ⟨fun k m G' => G' = G ∧ ∃ (low high : Nat) (mid : Option Value), m = [some (.ref c), some (.int g 0), some (.int (low : Int) 0), some (.int (high : Int) 0), mid] ∧ k = high - low ∧ low ≤ high ∧ high ≤ ns.length ∧
    (∀ (j : Nat) (x : Int), j < low → ns[j]? = some x → x < g) ∧ (∀ (j : Nat) (x : Int), high ≤ j → ns[j]? = some x → g ≤ x), ns.length, (i_AEEEAAAAA rfl 0 ns.length none (by simp) rfl (Nat.zero_le _) (Nat.le_refl _) (fun j x hj => absurd hj (Nat.not_lt_zero _)) (fun j x hj hx => ?_)), ?_⟩
  · wide_line with List.getElem?_eq_none hj using hx
  · intro k m G' hx9; refine o_AEEEAAAAA hx9 fun e91 low high mid e95 e96 hlh hhn hlo hhi => ?_; try clear hx9; subst e91; subst e95; subst e96
    walk_at "open_"
    refine cmpI_ok rfl ?_
    by_cases hlt : low < high
    · wide_open with decide_eq_true (by lia)
      walk_at "open_"
      refine add_ok ?_
      refine div_ok (by decide) (PyProof.noPylong_small (by decide)) ?_
      have hm : ((low : Int) + high).fdiv 2 = (((low + high) / 2 : Nat) : Int) := by
        wide_open with Int.fdiv_eq_ediv_of_nonneg _ (by decide); lia
      wide_open with hm
      walk_at "open_"
      refine attr_ h1 F.c_Coverage rfl rfl rfl ?_
      obtain ⟨y, hy⟩ : ∃ y, ns[(low + high) / 2]? = some y := ⟨_, List.getElem?_eq_getElem (by lia)⟩
      refine sub_tup h2 (pick_int hy) ?_
      refine cmp_if (p := y < g) rfl (fun hyg => ?_) (fun hyg => ?_)
      · walk_at "open_"
        refine add_ok ?_
        refine (i_EAAEEEAAAAA (high - ((low + high) / 2 + 1)) (mid2 (by lia)) rfl ((low + high) / 2 + 1) high _ (by push_cast; rfl) rfl (by lia) hhn (fun j x hj hx => ?_) hhi)
        exact Int.lt_of_le_of_lt (hle j _ x y (by lia) hx hy) hyg
      · refine (i_EAAEEEAAAAA ((low + high) / 2 - low) (mid1 (by lia)) rfl low ((low + high) / 2) _ rfl rfl (by lia) (by lia) hlo (fun j x hj hx => ?_))
        exact Int.le_trans (Int.not_lt.mp hyg) (hle _ j y x hj hy hx)
    · wide_open with decide_eq_false (by lia)
      have he : high = low := by lia
      subst he
      refine attr_ h1 F.c_Coverage rfl rfl rfl ?_
      refine ⟨trivial, len_tup_ok h2 ?_⟩
      refine cmpI_ok rfl ?_
      have notin : (∀ y, ns[high]? = some y → y ≠ g) → g ∉ ns := fun hne hm => by
        obtain ⟨j, hj⟩ := List.mem_iff_getElem?.mp hm
        rcases Nat.lt_trichotomy j high with z | rfl | z
        · exact absurd (hlo j g z hj) (Int.lt_irrefl _)
        · exact hne g hj rfl
        · cases hy : ns[high]? with
          | none =>
            have := List.getElem?_eq_none_iff.mp hy
            wide_line with List.getElem?_eq_none (by lia) using hj
          | some y =>
            have h1 := hle high j y g (by lia) hy hj
            have h2 := hhi high y (Nat.le_refl _) hy
            exact hne y hy (Int.le_antisymm h1 h2)
      by_cases hin : high < ns.length
      · wide_open with decide_eq_true (by simp; lia)
        obtain ⟨y, hy⟩ : ∃ y, ns[high]? = some y := ⟨_, List.getElem?_eq_getElem hin⟩
        walk_at "open_"
        refine attr_ h1 F.c_Coverage rfl rfl rfl ?_
        refine sub_tup h2 (pick_int hy) ?_
        refine cmp_if (p := y = g) rfl (fun hyg => ?_) (fun hyg => ?_)
        · exact ret_same (k _ ⟨fun z9 => hyg ▸ List.mem_of_getElem? hy, fun z9 => Int.natCast_nonneg _⟩)
        · walk_at "open_"
          refine neg_ ?_
          exact ret_same (k _ ⟨fun h => absurd h (by decide), fun h => absurd h (notin fun z hz => by wide_line with hy using hz; exact hyg)⟩)
      · wide_open with decide_eq_false (by simp; lia)
        walk_at "open_"
        refine neg_ ?_
        exact ret_same (k _ ⟨fun h => absurd h (by decide), fun h => absurd h (notin fun z hz => by wide_line with List.getElem?_eq_none (by lia) using hz)⟩)
theorem cov_has_ (F : Facts W) {c : Addr} {ns : List Int} {g : Int} (h : CovAt G c ns) (hs : ns.Pairwise (· ≤ ·)) (k : K (.bool (decide (g ∈ ns))) G) : CallC W (n + 2) (.ref a_Coverage_has) [.ref c, .int g 0] G K := by
  have h' := h
  refine o_EA h' fun t h1 h2 => ?_; try clear h'
  refine fnC F F.f_Coverage_has rfl rfl fun cd => ?_
  dsimp only [sp_Coverage_has, b_Coverage_has]
  walk_at "open_"
  refine (i_EAA _ (meth_ h1 F.c_Coverage rfl rfl) (keep_fn F.k_Coverage_index) ((cov_index_ F h hs fun r hr => ?_).T))
  refine cmpI_ok rfl ?_
  refine ret_same ?_
  wide_open with (show decide (0 ≤ r) = decide (g ∈ ns) from by simp [hr])
  exact k
noncomputable def TestAt (G : GH) (t : Addr) (f : Int → Bool) : Prop :=
  (∃ x : Int, G t = some (.tup [.str "glyph" 0, .int x 0]) ∧ f = fun g => decide (x = g)) ∨
  (∃ (c : Addr) (es : List (Int × Int)) (x : Int), G t = some (.tup [.str "class" 0, .ref c, .int x 0]) ∧ ClsAt G c es ∧ f = fun g => decide (getI es g = x)) ∨
  (∃ (c : Addr) (ns : List Int), G t = some (.tup [.str "cover" 0, .ref c]) ∧ CovAt G c ns ∧ ns.Pairwise (· ≤ ·) ∧ f = fun g => decide (g ∈ ns))
theorem TestAt.sub {G' : GH} {t f} (x : TestAt G t f) (h : Sub G G') : TestAt G' t f := by
  rcases x with ⟨x, h1, h2⟩ | ⟨c, es, x, h1, h2, h3⟩ | ⟨c, ns, h1, h2, h3, h4⟩
  · exact .inl (i_EA x (h _ _ h1) h2)
  · exact .inr (.inl (i_EEEAA c es x (h _ _ h1) (h2.sub h) h3))
  · exact .inr (.inr (i_EEAAA c ns (h _ _ h1) (h2.sub h) h3 h4))
theorem fits_ (F : Facts W) {t : Addr} {f : Int → Bool} {g : Int} (h : TestAt G t f) (k : K (.bool (f g)) G) : CallC W (n + 3) (.ref a_fits) [.ref t, .int g 0] G K := by
  have e1 : ((Str.ofString "glyph" : Str) == Str.ofString "glyph") = true := by decide +kernel
  have e2 : ((Str.ofString "class" : Str) == Str.ofString "glyph") = false := by decide +kernel
  have e3 : ((Str.ofString "class" : Str) == Str.ofString "class") = true := by decide +kernel
  have e4 : ((Str.ofString "cover" : Str) == Str.ofString "glyph") = false := by decide +kernel
  have e5 : ((Str.ofString "cover" : Str) == Str.ofString "class") = false := by decide +kernel
  refine fnC F F.f_fits rfl rfl fun cd => ?_
  dsimp only [sp_fits, b_fits]
  walk_at "open_"
  rcases h with ⟨x, h1, rfl⟩ | ⟨c, es, x, h1, h2, rfl⟩ | ⟨c, ns, h1, h2, h3, rfl⟩
  · refine sub_tup h1 rfl ?_
    refine eq_str_ok ?_
    wide_open with e1
    walk_at "open_"
    refine sub_tup h1 rfl ?_
    refine cmpI_ok rfl ?_
    exact ret_same k
  · refine sub_tup h1 rfl ?_
    refine eq_str_ok ?_
    wide_open with e2
    walk_at "open_"
    refine sub_tup h1 rfl ?_
    refine eq_str_ok ?_
    wide_open with e3
    walk_at "open_"
    refine sub_tup h1 rfl ?_
    have h2' := h2
    refine o_EEA h2' fun d ep h3 h4 => ?_; try clear h2'
    refine (i_EAA _ (meth_ h3 F.c_ClassDef rfl rfl) (keep_fn F.k_ClassDef_class_of) ((class_of_ F h2 ?_).T))
    refine sub_tup h1 rfl ?_
    refine cmpI_ok rfl ?_
    exact ret_same k
  · refine sub_tup h1 rfl ?_
    refine eq_str_ok ?_
    wide_open with e4
    walk_at "open_"
    refine sub_tup h1 rfl ?_
    refine eq_str_ok ?_
    wide_open with e5
    walk_at "open_"
    refine sub_tup h1 rfl ?_
    have h2' := h2
    refine o_EA h2' fun d h4 h5 => ?_; try clear h2'
    refine (i_EAA _ (meth_ h4 F.c_Coverage rfl rfl) (keep_fn F.k_Coverage_has) ((cov_has_ F h2 h3 ?_).T))
    exact ret_same k
end
section
open PySem PySem.W PySem.Calls PyProof.Rows
variable {W : Wd} {n : Nat} {G : GH} {K : KV} {cs : List Addr}
noncomputable def judge (V : View) (f : Int → Bool) (kinds : List Str) (inp : Bool) (d : Inf) : Option Bool :=
  if ignoredM V.es V.fl d.glyph then none else if f d.glyph && (Builtin.bitAnd d.mask V.mask != 0 || !inp) then some true else if kinds.any (· == d.kind) then none else some false
noncomputable def seek (V : View) (f : Int → Bool) (kinds : List Str) (inp : Bool) (step : Int) : Nat → Int → Int
  | 0, _ => -1
  | k + 1, here => if 0 ≤ here ∧ here < V.as.length then (match V.as[here.toNat]? with
    | some a => (match judge V f kinds inp (V.I a) with
      | none => seek V f kinds inp step k (here + step)
      | some true => here
      | some false => -1)
    | none => -1) else -1
theorem found_at_ (F : Facts W) {s t kd : Addr} {V : View} {f : Int → Bool} {kinds : List Str} {inp : Bool} {at_ step : Int} {N : Nat} (h : SceneAt G s V) (ht : TestAt G t f) (hk : BStrs W kd kinds) (hst : step = 1 ∨ step = -1)
    (hN : (step = 1 → (V.as.length : Int) - at_ ≤ N) ∧ (step = -1 → at_ + 1 ≤ N)) (k : K (.int (seek V f kinds inp step N (at_ + step)) 0) G) :
    CallC W (n + 5) (.ref a_found_at) [.ref s, .int at_ 0, .int step 0, .ref t, .ref kd, .bool inp] G K := by
  obtain ⟨b, gd, ls, l, dp, st, kn, ms, h1, h2, h3, h4, h5⟩ := id h
  refine o_EA h2.ex fun r r1 r2 => ?_
  refine fnC F F.f_found_at rfl rfl fun cd => ?_
  dsimp only [sp_found_at, b_found_at]
  walk_at "open_"
  refine add_ok ?_
  refine ⟨fun k m G' => G' = G ∧ ∃ (here : Int) (inf : Option Value), m = [some (.ref s), some (.int at_ 0), some (.int step 0), some (.ref t), some (.ref kd), some (.bool inp), some (.int here 0), inf] ∧
    ((step = 1 → (V.as.length : Int) - here + 1 ≤ k) ∧ (step = -1 → here + 2 ≤ k)) ∧ seek V f kinds inp step k here = seek V f kinds inp step N (at_ + step), N, (i_AEEAA rfl (at_ + step) none rfl ?_ rfl), ?_⟩
  · constructor <;> intro e <;> subst e
    · have := hN.1 rfl; lia
    · have := hN.2 rfl; lia
  · intro k' m G' hx9; refine o_AEEAA hx9 fun e91 here inf e94 hfu hse => ?_; try clear hx9; subst e91; subst e94
    walk_at "open_"
    refine cmp_if (p := 0 ≤ here) rfl (fun a1 => ?_) (fun a1 => ?_)
    · refine attr_ h1 F.c_Scene rfl rfl rfl ?_
      refine attr_ r1 F.c_Buffer rfl rfl rfl ?_
      refine ⟨trivial, len_list_ok r2 ?_⟩
      have hl : (refs V.as).length = V.as.length := by simp [refs]
      refine cmp_if (p := here < V.as.length) (by wide_open with hl; rfl) (fun a2 => ?_) (fun a2 => ?_)
      · obtain ⟨i, rfl⟩ := Int.eq_ofNat_of_zero_le a1
        have hi : i < V.as.length := by simpa using a2
        obtain ⟨a, ha⟩ : ∃ a, V.as[i]? = some a := ⟨_, List.getElem?_eq_getElem hi⟩
        have hk0 : 0 < k' := by
          rcases hst with rfl | rfl
          · have := hfu.1 rfl; lia
          · have := hfu.2 rfl; lia
        obtain ⟨q, rfl⟩ : ∃ q, k' = q + 1 := ⟨k' - 1, by lia⟩
        have hs1 : seek V f kinds inp step (q + 1) (i : Int) = (match judge V f kinds inp (V.I a) with
          | none => seek V f kinds inp step q ((i : Int) + step)
          | some true => (i : Int)
          | some false => -1) := by
          rw [seek, if_pos ⟨Int.natCast_nonneg _, by simpa using a2⟩, Int.toNat_natCast, ha]
        rw [hs1] at hse
        have next : (step = 1 → (V.as.length : Int) - ((i : Int) + step) + 1 ≤ (q : Int)) ∧ (step = -1 → (i : Int) + step + 2 ≤ (q : Int)) := by
          constructor <;> intro e <;> subst e
          · have := hfu.1 rfl; push_cast at this; lia
          · have := hfu.2 rfl; push_cast at this; lia
        have hia := h2.info a (List.mem_of_getElem? ha)
        refine ⟨keep_fn F.k_passes, (passes_ F h ha ?_).T⟩
        dsimp only [truthG_b]
        unfold judge at hse
        cases c1 : ignoredM V.es V.fl (V.I a).glyph
        · rw [c1] at hse
          simp only [Bool.not_false, Bool.false_eq_true, if_false] at hse ⊢
          walk_at "open_"
          refine attr_ h1 F.c_Scene rfl rfl rfl ?_
          refine attr_ r1 F.c_Buffer rfl rfl rfl ?_
          refine sub_list r2 (pick_ref ha) ?_
          refine attr_ hia F.c_Info rfl rfl rfl ?_
          refine ⟨keep_fn F.k_fits, (fits_ F ht ?_).T⟩
          have tail : ∀ (c : Bool), c = (f (V.I a).glyph && (Builtin.bitAnd (V.I a).mask V.mask != 0 || !inp)) →
              (match c with | true => K (.int (i : Int) 0) G' | false => True) := by
            intro c hc
            cases c with
            | true => rw [← hc] at hse; simp only [if_true] at hse; rw [← hse] at k; exact k
            | false => trivial
          have stop : ∀ (c : Bool), c = (f (V.I a).glyph && (Builtin.bitAnd (V.I a).mask V.mask != 0 || !inp)) → c = false →
              attrG W (.ref a) 9 G' fun x G1 => cmpG W (n + 4) .NotIn x (.ref kd) G1 fun x G1 => match x with
                | true => negG (.int 1 0) G1 fun x G1 => bodyK K (.ret x) [some (.ref s), some (.int at_ 0), some (.int step 0), some (.ref t), some (.ref kd), some (.bool inp), some (.int (i : Int) 0), some (.ref a)] G1
                | false => binG W (n + 4) .Add (.int (i : Int) 0) (.int step 0) G1 fun x G1 => ∃ j, j < q + 1 ∧ G1 = G' ∧ ∃ (here : Int) (inf : Option Value),
                  [some (.ref s), some (.int at_ 0), some (.int step 0), some (.ref t), some (.ref kd), some (.bool inp), some x, some (.ref a)] = [some (.ref s), some (.int at_ 0), some (.int step 0), some (.ref t), some (.ref kd), some (.bool inp), some (.int here 0), inf] ∧
                  ((step = 1 → (V.as.length : Int) - here + 1 ≤ j) ∧ (step = -1 → here + 2 ≤ j)) ∧ seek V f kinds inp step j here = seek V f kinds inp step N (at_ + step) := by
            intro c hc hf
            subst hf
            rw [← hc] at hse
            simp only [Bool.false_eq_true, if_false] at hse
            refine attr_ hia F.c_Info rfl rfl rfl ?_
            refine notin_base_ok hk ?_
            cases c2 : kinds.any (· == (V.I a).kind)
            · rw [c2] at hse
              simp only [Bool.false_eq_true, if_false] at hse
              refine neg_ ?_
              refine ret_same ?_
              wide_open with hse; exact k
            · rw [c2] at hse
              simp only [if_true] at hse
              refine add_ok ?_
              exact (i_EAAEEAA q (Nat.lt_succ_self _) rfl _ _ rfl next hse)
          cases c3 : f (V.I a).glyph
          · exact stop _ rfl (by wide_open with c3; rfl)
          · refine ⟨keep_fn F.k_is_borne, (is_borne_ F h hia ?_).T⟩
            dsimp only [truthG_b]
            cases c4 : (Builtin.bitAnd (V.I a).mask V.mask != 0)
            · cases inp with
              | true => exact stop _ rfl (by (wide_line using c3; wide_open with c4); rfl)
              | false => exact ret_same (tail true (by (wide_line using c3; wide_open with c4); rfl))
            · exact ret_same (tail true (by (wide_line using c3; wide_open with c4); rfl))
        · rw [c1] at hse
          simp only [Bool.not_true, if_true] at hse ⊢
          walk_at "open_"
          refine add_ok ?_
          exact (i_EAAEEAA q (Nat.lt_succ_self _) rfl _ _ rfl next hse)
      · walk_at "open_"
        refine neg_ (ret_same ?_)
        have : seek V f kinds inp step k' here = -1 := by
          cases k' with
          | zero => rfl
          | succ q => rw [seek, if_neg (fun x => a2 x.2)]
        rw [this] at hse
        wide_open with hse; exact k
    · walk_at "open_"
      refine neg_ (ret_same ?_)
      have : seek V f kinds inp step k' here = -1 := by
        cases k' with
        | zero => rfl
        | succ q => rw [seek, if_neg (fun x => a1 x.1)]
      rw [this] at hse
      wide_open with hse; exact k
end
section
open PySem PySem.W PySem.Calls PyProof.Rows
variable {W : Wd} {n : Nat} {G : GH} {K : KV} {cs : List Addr}
theorem iter_list {a : Addr} {xs : List Value} {K : List Value → (GH → Prop) → Prop} (h : G a = some (.list xs)) (k : K xs fun G' => G' a = some (.list xs)) : iterG (.ref a) G K := by
  unfold iterG; dsimp only; wide_open with h; exact k
theorem iter_tup {a : Addr} {xs : List Value} {K : List Value → (GH → Prop) → Prop} (h : G a = some (.tup xs)) (k : K xs fun G' => G' a = some (.tup xs)) : iterG (.ref a) G K := by
  unfold iterG; dsimp only; wide_open with h; exact k
theorem iter_range {a : Addr} {m : Nat} {K : List Value → (GH → Prop) → Prop} (h : G a = some (.range 0 m)) (hm : m ≤ 4000000) (k : K ((List.range m).map fun (j : Nat) => Value.int (j : Int) 0) fun z9 => True) : iterG (.ref a) G K := by
  unfold iterG; dsimp only; wide_open with h
  refine (i_AAA (by decide) (by lia) ⟨by decide, by lia⟩ ?_)
  have e : ((m : Int) - 0).toNat = m := by lia
  wide_open with e
  simpa using k
theorem for_inv {chk : GH → Prop} {bd : Value → Mm → GH → (Fl → Mm → GH → Prop) → Prop} {K : Fl → Mm → GH → Prop} (I : List Value → Mm → GH → Prop) (hc : ∀ ys m G, I ys m G → chk G) (hend : ∀ m G, I [] m G → K .next m G)
    (hstep : ∀ y ys m G, ∀ Kn : Fl → Mm → GH → Prop, (∀ m' G', I ys m' G' → Kn .next m' G') → (∀ m' G', I ys m' G' → Kn .cont m' G') → (∀ v m' G', K (.ret v) m' G' → Kn (.ret v) m' G') → I (y :: ys) m G → bd y m G Kn) :
    ∀ (xs : List Value) (m : Mm) (G : GH), I xs m G → forG chk bd xs m G K
  | [], m, G, h => ⟨hc _ _ _ h, hend _ _ h⟩
  | x :: xs, m, G, h => ⟨hc _ _ _ h, hstep x xs m G _ (fun m' G' h' => for_inv I hc hend hstep xs m' G' h') (fun m' G' h' => for_inv I hc hend hstep xs m' G' h') (fun z9 z9 z9 k => k) h⟩
theorem comp_map {chk : GH → Prop} {el : Value → GH → (Option Value → GH → Prop) → Prop} (f : Value → Value) (hc : chk G) : ∀ (xs acc : List Value), (∀ x ∈ xs, ∀ k : Option Value → GH → Prop, k (some (f x)) G → el x G k) →
    newG (.list (acc ++ xs.map f)) G K → compG chk el xs acc G K
  | [], acc, _, k => ⟨hc, by simpa using k⟩
  | x :: xs, acc, he, k => ⟨hc, he x List.mem_cons_self _ (comp_map f hc xs (acc ++ [f x]) (fun y hy => he y (List.mem_cons_of_mem _ hy)) (by simpa using k))⟩
inductive All2 {α β : Type} (R : α → β → Prop) : List α → List β → Prop
  | nil : All2 R [] []
  | cons {a b as bs} : R a b → All2 R as bs → All2 R (a :: as) (b :: bs)
theorem All2.imp {α β : Type} {R S : α → β → Prop} (h : ∀ a b, R a b → S a b) {as bs} (x : All2 R as bs) : All2 S as bs := by
  induction x with
  | nil => exact .nil
  | cons a _ ih => exact .cons (h _ _ a) ih
noncomputable def TestsAt (G : GH) (l : Addr) (fs : List (Int → Bool)) : Prop := ∃ ts : List Addr, G l = some (.list (refs ts)) ∧ All2 (TestAt G) ts fs ∧ ts.length ≤ 1000
theorem TestsAt.sub {G' : GH} {t f} (x : TestsAt G t f) (h : Sub G G') : TestsAt G' t f := let ⟨ts, h1, h2, h3⟩ := x; (i_EAA ts (h _ _ h1) (h2.imp fun z9 z9 a => a.sub h) h3)
noncomputable def srch (V : View) (kinds : List Str) (inp : Bool) (step : Int) (f : Int → Bool) (a : Int) : Int := seek V f kinds inp step (V.as.length + 1) (a + step)
noncomputable def walkM (S : (Int → Bool) → Int → Int) : List (Int → Bool) → Int → Option Int
  | [], a => some a
  | f :: fs, a => if S f a < 0 then none else walkM S fs (S f a)
noncomputable def placesM (S : (Int → Bool) → Int → Int) : List (Int → Bool) → Int → Option (List Int)
  | [], _ => some []
  | f :: fs, a => if S f a < 0 then none else (placesM S fs (S f a)).map (S f a :: ·)
theorem seek_lt {V : View} {f kinds inp step} : ∀ {k : Nat} {here : Int}, 0 ≤ seek V f kinds inp step k here → seek V f kinds inp step k here < V.as.length
  | 0, here, h => by simp [seek] at h
  | k + 1, here, h => by
    unfold seek at h ⊢
    by_cases hh : 0 ≤ here ∧ here < V.as.length
    · rw [if_pos hh] at h ⊢
      cases hq : V.as[here.toNat]? with
      | none => simp only [hq] at h; exact absurd h (by decide)
      | some a =>
        simp only [hq] at h ⊢
        cases hj : judge V f kinds inp (V.I a) with
        | none => simp only [hj] at h ⊢; exact seek_lt h
        | some b =>
          cases b with
          | true => simp only [hj] at h ⊢; exact hh.2
          | false => simp only [hj] at h; exact absurd h (by decide)
    · rw [if_neg hh] at h; exact absurd h (by decide)
theorem srch_lt {V : View} {kinds inp step f a} (h : ¬ srch V kinds inp step f a < 0) : 0 ≤ srch V kinds inp step f a ∧ srch V kinds inp step f a < V.as.length := ⟨Int.not_lt.mp h, seek_lt (Int.not_lt.mp h)⟩
theorem found_ (F : Facts W) {s t kd : Addr} {V : View} {f : Int → Bool} {kinds : List Str} {inp : Bool} {at_ step : Int} (h : SceneAt G s V) (ht : TestAt G t f) (hk : BStrs W kd kinds) (hst : step = 1 ∨ step = -1) (h0 : 0 ≤ at_) (h1 : at_ < V.as.length)
    (k : K (.int (srch V kinds inp step f at_) 0) G) : CallC W (n + 5) (.ref a_found_at) [.ref s, .int at_ 0, .int step 0, .ref t, .ref kd, .bool inp] G K :=
  found_at_ F h ht hk hst (N := V.as.length + 1) ⟨fun z9 => by push_cast; lia, fun z9 => by push_cast; lia⟩ k
set_option tactic.hygienic true in
theorem last_at_ (F : Facts W) {s l : Addr} {V : View} {fs : List (Int → Bool)} {at_ step : Int} (h : SceneAt G s V) (ht : TestsAt G l fs) (hst : step = 1 ∨ step = -1) (h0 : 0 ≤ at_) (h1 : at_ < V.as.length)
    (k : K (.int ((walkM (srch V ["zwj", "zwnj", "hidden"] false step) fs at_).getD (-1)) 0) G) : CallC W (n + 6) (.ref a_last_at) [.ref s, .int at_ 0, .int step 0, .ref l] G K := by
  refine o_EAA ht fun ts ht1 ht2 ht3 => ?_; try clear ht
  refine fnC F F.f_last_at rfl rfl fun cd => ?_
  dsimp only [sp_last_at, b_last_at]
  walk_at "open_"
  refine iter_list ht1 ?_
  refine for_inv (fun ys m G' => G' = G ∧ ∃ (us : List Addr) (gs : List (Int → Bool)) (here : Int) (x : Option Value), ys = refs us ∧ All2 (TestAt G) us gs ∧ m = [some (.ref s), some (.int at_ 0), some (.int step 0), some (.ref l), some (.int here 0), x] ∧ 0 ≤ here ∧ here < V.as.length ∧
      K (.int ((walkM (srch V ["zwj", "zwnj", "hidden"] false step) gs here).getD (-1)) 0) G) ?_ ?_ ?_ _ _ _ (i_AEEEEAAAAA rfl ts fs at_ none rfl ht2 rfl h0 h1 k)
  · intro ys m G' hx9; obtain ⟨rfl, _⟩ := hx9; exact ht1
  · intro m G' hx9; refine o_AEEEEAAAAA hx9 fun e91 us gs here x e hf e98 g0 g1 kk => ?_; try clear hx9; subst e91; subst e98
    obtain rfl : us = [] := by simpa [refs] using e.symm
    cases hf
    walk_at "open_"
    exact ret_same kk
  · intro y ys m G' Kn nxt nxc nxr hx9; refine o_AEEEEAAAAA hx9 fun e91 us gs here x e hf e98 g0 g1 kk => ?_; try clear hx9; subst e91; subst e98
    cases hf with
    | nil => simp [refs] at e
    | cons hu hf' =>
      rename_i u g us gs
      simp only [refs, List.map_cons, List.cons.injEq] at e
      obtain ⟨rfl, rfl⟩ := e
      walk_at "open_"
      refine ⟨keep_fn F.k_found_at, (found_ F h hu F.kar hst g0 g1 ?_).T⟩
      refine cmp_if (p := srch V ["zwj", "zwnj", "hidden"] false step g here < 0) rfl (fun hn => ?_) (fun hn => ?_)
      · walk_at "open_"
        refine neg_ (nxr _ _ _ (ret_same ?_))
        rw [walkM, if_pos hn] at kk
        exact kk
      · walk_at "open_"
        rw [walkM, if_neg hn] at kk
        exact nxt _ _ (i_AEEEEAAAAA rfl us gs _ _ rfl hf' rfl ((srch_lt hn).1) ((srch_lt hn).2) kk)
theorem ahead_at_ (F : Facts W) {s l : Addr} {V : View} {fs : List (Int → Bool)} {at_ : Int} (h : SceneAt G s V) (ht : TestsAt G l fs) (h0 : 0 ≤ at_) (h1 : at_ < V.as.length)
    (k : K (.int ((walkM (srch V ["zwj", "zwnj", "hidden"] false 1) fs at_).getD (-1)) 0) G) : CallC W (n + 7) (.ref a_ahead_at) [.ref s, .int at_ 0, .ref l] G K := by
  refine fnC F F.f_ahead_at rfl rfl fun cd => ?_
  dsimp only [sp_ahead_at, b_ahead_at]
  walk_at "open_"
  exact ⟨keep_fn F.k_last_at, (last_at_ F h ht (.inl rfl) h0 h1 (ret_same k)).T⟩
theorem back_at_ (F : Facts W) {s l : Addr} {V : View} {fs : List (Int → Bool)} {at_ : Int} (h : SceneAt G s V) (ht : TestsAt G l fs) (h0 : 0 ≤ at_) (h1 : at_ < V.as.length)
    (k : K (.int ((walkM (srch V ["zwj", "zwnj", "hidden"] false (-1)) fs at_).getD (-1)) 0) G) : CallC W (n + 7) (.ref a_back_at) [.ref s, .int at_ 0, .ref l] G K := by
  refine fnC F F.f_back_at rfl rfl fun cd => ?_
  dsimp only [sp_back_at, b_back_at]
  walk_at "open_"
  refine neg_ ?_
  exact ⟨keep_fn F.k_last_at, (last_at_ F h ht (.inr rfl) h0 h1 (ret_same k)).T⟩
theorem sub_set_new {G' : GH} {a : Addr} {o : GO} (h : Sub G G') (ha : G a = none) : Sub G (G'.set a o) := fun b g e => by
  wide_open with GH.set_ne; exact h b g e
  rintro rfl; wide_line with ha using e
theorem sub_of_set {G' : GH} {a : Addr} {o : GO} (h : Sub G G') (ha : G' a = some o) : Sub (G.set a o) G' := fun b g e => by
  by_cases hb : b = a
  · subst hb; wide_line with GH.set_self using e; exact ha
  · rw [GH.set_ne _ _ hb] at e; exact h b g e
theorem none_of_sub {G' : GH} {a : Addr} (h : Sub G G') (ha : G' a = none) : G a = none := by
  cases q : G a with
  | none => rfl
  | some g => wide_line with h _ _ q using ha
set_option tactic.hygienic true in
theorem input_at_ (F : Facts W) {s l a : Addr} {V : View} {f : Int → Bool} {fs : List (Int → Bool)} {i : Nat} (h : SceneAt G s V) (ht : TestsAt G l (f :: fs)) (hi : V.as[i]? = some a)
    (kn : (f (V.I a).glyph = true → placesM (srch V ["zwj", "hidden"] true 1) fs i = none) → K .none G)
    (ks : ∀ ps, f (V.I a).glyph = true → placesM (srch V ["zwj", "hidden"] true 1) fs i = some ps → newG (.list (((i : Int) :: ps).map vInt)) G K) : CallC W (n + 6) (.ref a_input_at) [.ref s, .int i 0, .ref l] G K := by
  refine o_EAA ht fun ts ht1 ht2 ht3 => ?_; try clear ht
  obtain ⟨b, gd, ls, lk, dp, st, kn', ms, h1, h2, h3, h4, h5⟩ := id h
  refine o_EA h2.ex fun r r1 r2 => ?_
  have hil : i < V.as.length := (List.getElem?_eq_some_iff.mp hi).1
  cases ht2 with
  | cons hu hf =>
    rename_i t ts
    refine fnC F F.f_input_at rfl rfl fun cd => ?_
    dsimp only [sp_input_at, b_input_at]
    walk_at "open_"
    refine sub_list ht1 rfl ?_
    refine attr_ h1 F.c_Scene rfl rfl rfl ?_
    refine attr_ r1 F.c_Buffer rfl rfl rfl ?_
    refine sub_list r2 (pick_ref hi) ?_
    refine attr_ (h2.info a (List.mem_of_getElem? hi)) F.c_Info rfl rfl rfl ?_
    refine ⟨keep_fn F.k_fits, (fits_ F hu ?_).T⟩
    dsimp only [truthG_b]
    cases hfa : f (V.I a).glyph
    · exact ret_same (kn fun x => by wide_line with hfa using x)
    · intro fa hfa0
      have hs1 := sub_set (o := .list [.int i 0]) hfa0
      walk_at "open_"
      refine slice_list_ok (lo := some 1) (hi := none) (hs1 _ _ ht1) rfl rfl ?_
      intro sl hsl0
      have hs2 := sub_set (o := .list (cut (refs (t :: ts)) (some 1) none)) hsl0
      have hS := hs1.trans hs2
      have hcut : cut (refs (t :: ts)) (some 1) none = refs ts := by simp only [cut, refs, Option.getD_none, Option.getD_some, List.take_length]; rfl
      rw [hcut] at hS hs2 ⊢
      have hslfa : fa ≠ sl := by rintro rfl; wide_line with GH.set_self using hsl0
      have hsl : G sl = none := none_of_sub hs1 hsl0
      refine iter_list (GH.set_self _ _ _) ?_
      refine for_inv (fun ys m G' => Sub G G' ∧ G' sl = some (.list (refs ts)) ∧ ∃ (us : List Addr) (gs : List (Int → Bool)) (acc : List Int) (q : Int) (x y : Option Value), ys = refs us ∧ All2 (TestAt G) us gs ∧ G' fa = some (.list ((acc ++ [q]).map vInt)) ∧
          m = [some (.ref s), some (.int i 0), some (.ref l), some (.ref fa), x, y] ∧ 0 ≤ q ∧ q < V.as.length ∧ acc.length + us.length ≤ ts.length ∧
          (∀ r : Option (List Int), placesM (srch V ["zwj", "hidden"] true 1) gs q = r → placesM (srch V ["zwj", "hidden"] true 1) fs i = r.map ((acc ++ [q]).drop 1 ++ ·)) ∧ (acc ++ [q]).head? = some (i : Int)) ?_ ?_ ?_ _ _ _
          (i_AAEEEEEEAAAAAAAA hS (GH.set_self _ _ _) ts fs ([]) i none none rfl hf (by (wide_line using GH.set_ne _ _ hslfa; wide_open with GH.set_self); rfl) rfl (Int.natCast_nonneg _) (by lia) (by simp) (fun r hr => by wide_open with hr; cases r <;> simp) rfl)
      · intro ys m G' hx9; refine o_AA hx9 fun z9 e z9 => ?_; try clear hx9; exact e
      · intro m G' hx9; refine o_AAEEEEEEAAAAAAAA hx9 fun g0 g1 us gs acc q x y e hf' g2 e912 q0 q1 ql hr hh => ?_; try clear hx9; subst e912
        obtain rfl : us = [] := by simpa [refs] using e.symm
        cases hf'
        walk_at "open_"
        refine (i_EA (G.set fa (.list ((acc ++ [q]).map vInt))) (sub_of_set g0 g2) ?_)
        have := hr (some []) rfl
        simp only [Option.map_some, List.append_nil] at this
        have kk := ks _ hfa this fa hfa0
        have e2 : ((i : Int) :: (acc ++ [q]).drop 1) = acc ++ [q] := by
          cases hq : acc ++ [q] with
          | nil => simp at hq
          | cons z zs => rw [hq] at hh; simp at hh; subst hh; rfl
        rw [e2] at kk
        exact kk
      · intro y ys m G' Kn nxt nxc nxr hx9; refine o_AAEEEEEEAAAAAAAA hx9 fun g0 g1 us gs acc q x z e hf' g2 e912 q0 q1 ql hr hh => ?_; try clear hx9; subst e912
        cases hf' with
        | nil => simp [refs] at e
        | cons hu' hf'' =>
          rename_i u g us gs
          simp only [refs, List.map_cons, List.cons.injEq] at e
          obtain ⟨rfl, rfl⟩ := e
          walk_at "open_"
          refine neg_ ?_
          refine sub_list g2 (by rw [List.map_append]; exact pick_last) ?_
          refine ⟨keep_fn F.k_found_at, (found_ F (h.sub g0) (hu'.sub g0) F.kin (.inl rfl) q0 q1 ?_).T⟩
          refine cmp_if (p := srch V ["zwj", "hidden"] true 1 g q < 0) rfl (fun hn => ?_) (fun hn => ?_)
          · walk_at "open_"
            refine nxr _ _ _ (ret_pure g0 (kn fun z9 => ?_))
            have := hr none (by (wide_line using placesM; wide_open with if_pos hn))
            simpa using this
          · walk_at "open_"
            refine (i_EAA _ (meth_append F g2) trivial (append_ok g2 ?_ ?_))
            · simp only [List.length_cons] at ht3 ql; simp [small]; (first | exact lqA (by lia) (by lia) | exact lqB (by lia) | exact lqD (by lia) | lia)
            · refine nxt _ _ (i_AAEEEEEEAAAAAAAA (sub_set_new g0 hfa0) (by wide_open with GH.set_ne _ _ hslfa.symm; exact g1) us gs (acc ++ [q]) _ _ _ rfl hf'' (by wide_open with GH.set_self; simp [vInt]) rfl ((srch_lt hn).1) ((srch_lt hn).2) (by simp at ql ⊢; lia) (fun r hr' => ?_) ?_)
              · have := hr ((placesM (srch V ["zwj", "hidden"] true 1) gs (srch V ["zwj", "hidden"] true 1 g q)).map (srch V ["zwj", "hidden"] true 1 g q :: ·)) (by (wide_line using placesM; wide_open with if_neg hn))
                (wide_line using this; wide_open with hr')
                cases r with
                | none => rfl
                | some r => simp only [Option.map_some]; cases acc <;> simp
              · cases acc <;> simpa using hh
end
section
open PySem PySem.W PySem.Calls PyProof.Rows
variable {W : Wd} {n : Nat} {G : GH} {K : KV} {cs : List Addr}
noncomputable abbrev kIn : List Str := ["zwj", "hidden"]
noncomputable abbrev kAr : List Str := ["zwj", "zwnj", "hidden"]
noncomputable def matchM (V : View) (i : Nat) (a : Addr) (bs : List (Int → Bool)) (f : Int → Bool) (fs as : List (Int → Bool)) : Option (List Int × Int × Int) :=
  if f (V.I a).glyph then (placesM (srch V kIn true 1) fs i).bind fun ps => (walkM (srch V kAr false (-1)) bs i).bind fun b => (walkM (srch V kAr false 1) as (((i : Int) :: ps).getLast (by simp))).map fun e => ((i : Int) :: ps, b, e)
  else none
set_option tactic.hygienic true in
theorem walk_range {S : (Int → Bool) → Int → Int} {N : Int} (hS : ∀ f a, ¬ S f a < 0 → 0 ≤ S f a ∧ S f a < N) : ∀ {fs : List (Int → Bool)} {a b : Int}, 0 ≤ a ∧ a < N → walkM S fs a = some b → 0 ≤ b ∧ b < N
  | [], a, b, h, e => by wide_open using e; exact h
  | f :: fs, a, b, h, e => by
    unfold walkM at e
    split at e
    · wide_open using e
    · rename_i hn; exact walk_range hS (hS f a hn) e
set_option tactic.hygienic true in
theorem places_range {S : (Int → Bool) → Int → Int} {N : Int} (hS : ∀ f a, ¬ S f a < 0 → 0 ≤ S f a ∧ S f a < N) : ∀ {fs : List (Int → Bool)} {a : Int} {ps : List Int}, placesM S fs a = some ps → ∀ p ∈ ps, 0 ≤ p ∧ p < N
  | [], a, ps, e => by wide_open using e; intro p hp; cases hp
  | f :: fs, a, ps, e => by
    unfold placesM at e
    split at e
    · wide_open using e
    · rename_i hn
      refine o_EA (Option.map_eq_some_iff.mp e) fun qs h1 e93 => ?_; subst e93
      intro p hp
      rcases List.mem_cons.mp hp with rfl | hp
      · exact hS f a hn
      · exact places_range hS h1 p hp
theorem lastI {q : Int} {qs : List Int} {h : q :: qs ≠ []} : pickI ((q :: qs).map vInt) (-1) = some (.int ((q :: qs).getLast h) 0) := by
  have e : (q :: qs).map vInt = (q :: qs).dropLast.map vInt ++ [vInt ((q :: qs).getLast h)] := by
    ((first | refine (List.map_singleton (f := vInt)) ▸ ?_ | rewrite [← List.map_singleton (f := vInt)]); (first | refine List.map_append ▸ ?_ | rewrite [← List.map_append]); wide_open with List.dropLast_concat_getLast h)
  wide_open with e; exact pick_last
set_option tactic.hygienic true in
theorem match_rule_ (F : Facts W) {s tu bl il al a : Addr} {acts : Value} {V : View} {bs fs as : List (Int → Bool)} {f : Int → Bool} {i : Nat} (h : SceneAt G s V) (hi : V.as[i]? = some a)
    (hT : G tu = some (.tup [.ref bl, .ref il, .ref al, acts])) (hb : TestsAt G bl bs) (hin : TestsAt G il (f :: fs)) (ha : TestsAt G al as)
    (kn : matchM V i a bs f fs as = none → K .none G)
    (ks : ∀ ps b e, matchM V i a bs f fs as = some (ps, b, e) → ∀ pl tp G', Sub G G' → G pl = none → G tp = none → pl ≠ tp → G' pl = some (.list (ps.map vInt)) → G' tp = some (.tup [.ref pl, .int b 0, .int e 0]) → K (.ref tp) G') :
    CallC W (n + 8) (.ref a_match_rule) [.ref s, .int i 0, .ref tu] G K := by
  have hil : i < V.as.length := (List.getElem?_eq_some_iff.mp hi).1
  have rS := fun kinds inp step f a (hn : ¬ srch V kinds inp step f a < 0) => srch_lt hn
  refine fnC F F.f_match_rule rfl rfl fun cd => ?_
  dsimp only [sp_match_rule, b_match_rule]
  walk_at "open_"
  refine (i_EAA _ (by unfold itemsG; dsimp only; rw [hT]) rfl ?_)
  dsimp only [sPs_cons, sPs_nil]
  walk_at "open_"
  refine ⟨keep_fn F.k_input_at, (input_at_ F h hin hi (fun hno => ?_) (fun ps hf hps => ?_)).T⟩
  · refine is_none_ok rfl ?_
    refine ret_same (kn ?_)
    unfold matchM
    split
    · rename_i hh; wide_open with hno hh; rfl
    · rfl
  · intro pl hpl
    refine is_none_ok rfl ?_
    have s1 := sub_set (o := .list (((i : Int) :: ps).map vInt)) hpl
    simp only [isN]
    refine ⟨keep_fn F.k_back_at, (back_at_ F (h.sub s1) (hb.sub s1) (Int.natCast_nonneg _) (by lia) ?_).T⟩
    refine cmpI_ok rfl ?_
    cases hw : walkM (srch V kAr false (-1)) bs i with
    | none =>
      walk_at "open_"
      simp only [Option.getD_none]
      wide_open with decide_eq_true (by decide)
      walk_at "open_"
      refine ret_pure s1 (kn ?_)
      unfold matchM
      (wide_line using if_pos hf; wide_line using hps; wide_open with hw); rfl
    | some b =>
      have hb0 := walk_range (rS _ _ _) ⟨Int.natCast_nonneg i, by lia⟩ hw
      walk_at "open_"
      simp only [Option.getD_some]
      wide_open with decide_eq_false (by lia)
      walk_at "open_"
      refine neg_ ?_
      refine sub_list (GH.set_self _ _ _) (lastI (h := by simp)) ?_
      have hl : 0 ≤ ((i : Int) :: ps).getLast (by simp) ∧ ((i : Int) :: ps).getLast (by simp) < V.as.length := by
        have hm := List.getLast_mem (l := (i : Int) :: ps) (by simp)
        rcases List.mem_cons.mp hm with e | hm
        · wide_open with e; lia
        · exact places_range (rS _ _ _) hps _ hm
      refine ⟨keep_fn F.k_ahead_at, (ahead_at_ F (h.sub s1) (ha.sub s1) hl.1 hl.2 ?_).T⟩
      refine cmpI_ok rfl ?_
      cases hw2 : walkM (srch V kAr false 1) as (((i : Int) :: ps).getLast (by simp)) with
      | none =>
        simp only [Option.getD_none]
        wide_open with decide_eq_true (by decide)
        walk_at "open_"
        refine ret_pure s1 (kn ?_)
        unfold matchM
        (wide_line using if_pos hf; wide_line using hps; wide_line using hw; wide_line using Option.bind_some; wide_line using Option.bind_some; wide_open with hw2); rfl
      | some e =>
        have he0 := walk_range (rS _ _ _) hl hw2
        simp only [Option.getD_some]
        wide_open with decide_eq_false (by lia)
        intro tp htp
        refine ret_same (ks _ b e ?_ pl tp _ (s1.trans (sub_set htp)) hpl (none_of_sub s1 htp) ?_ (set_old htp (GH.set_self _ _ _)) (GH.set_self _ _ _))
        · unfold matchM
          (wide_line using if_pos hf; wide_line using hps; wide_line using hw; wide_line using Option.bind_some; wide_line using Option.bind_some; wide_open with hw2); rfl
        · rintro rfl; wide_line with GH.set_self using htp
noncomputable def hangI (st : List Addr) (M : Int) (I : Addr → Inf) (a : Addr) : Inf := if a ∈ st ∧ (I a).cluster ≠ M then { I a with uns := true } else I a
noncomputable def hangH (st : List Addr) (M : Int) (I : Addr → Inf) (G : GH) : GH := fun a => if a ∈ st then some (infoO (hangI st M I a)) else G a
noncomputable def cutA (as : List Addr) (b e : Nat) : List Addr := (as.take e).drop b
set_option tactic.hygienic true in
theorem hang_ (F : Facts W) {bf : Addr} {as : List Addr} {I : Addr → Inf} {b e : Nat} (h : RowAt G bf as I)
    (k1 : (cutA as b e).length < 2 → K .none G) (k2 : ∀ M, 2 ≤ (cutA as b e).length → (∃ a ∈ cutA as b e, (I a).cluster = M) → (∀ a ∈ cutA as b e, M ≤ (I a).cluster) → K .none (hangH (cutA as b e) M I G))
    (hz : as.length ≤ 1000) : CallC W (n + 1) (.ref a_hang) [.ref bf, .int b 0, .int e 0] G K := by
  refine o_EA h.ex fun r r1 r2 => ?_
  refine fnC F F.f_hang rfl rfl fun cd => ?_
  dsimp only [sp_hang, b_hang]
  walk_at "open_"
  refine attr_ r1 F.c_Buffer rfl rfl rfl ?_
  refine slice_list_ok (lo := some b) (hi := some e) r2 rfl rfl ?_
  have hc : cut (refs as) (some b) (some e) = refs (cutA as b e) := by simp [cut, cutA, refs, List.map_drop, List.map_take]
  wide_open with hc
  intro sl hsl
  have s1 := sub_set (o := .list (refs (cutA as b e))) hsl
  have hmem : ∀ a ∈ cutA as b e, a ∈ as := fun a ha => List.mem_of_mem_take (List.mem_of_mem_drop ha)
  have hz' : (cutA as b e).length ≤ 1000 := by unfold cutA; (wide_line using List.length_drop; wide_open with List.length_take); lia
  refine ⟨trivial, len_list_ok (GH.set_self _ _ _) ?_⟩
  refine cmpI_ok rfl ?_
  have hl : (refs (cutA as b e)).length = (cutA as b e).length := by simp [refs]
  wide_open with hl
  by_cases h2 : (cutA as b e).length < 2
  · wide_open with decide_eq_true (by lia)
    walk_at "open_"
    exact ret_pure s1 (k1 h2)
  · wide_open with decide_eq_false (by lia)
    walk_at "open_"
    refine iter_list (GH.set_self _ _ _) ⟨by simp [small, refs]; lia, ?_⟩
    refine comp_map (fun v => match v with | .ref a => vInt (I a).cluster | v => v) (GH.set_self _ _ _) _ [] (fun x hx k => ?_) ?_
    · refine o_EA (List.mem_map.mp hx) fun a ha e93 => ?_; subst e93
      intro kk
      refine attr_ (s1 _ _ (h.info a (hmem a ha))) F.c_Info rfl rfl rfl ?_
      exact kk
    · intro ml hml
      have s2 := sub_set (o := .list ([] ++ (refs (cutA as b e)).map fun v => match v with | .ref a => vInt (I a).cluster | v => v)) hml
      have e2 : ([] ++ (refs (cutA as b e)).map fun v => match v with | .ref a => vInt (I a).cluster | v => v) = ((cutA as b e).map fun a => (I a).cluster).map vInt := by simp [refs]
      refine ⟨trivial, min_list_ok (ns := (cutA as b e).map fun a => (I a).cluster) (by (wide_line using GH.set_self; wide_open with e2)) (by simp; lia) fun M hM hle => ?_⟩
      refine o_EA (List.mem_map.mp hM) fun a0 ha0 hM => ?_
      have s12 := s1.trans s2
      have hmlsl : ml ≠ sl := by rintro rfl; wide_line with GH.set_self using hml
      have hmlG : G ml = none := none_of_sub s1 hml
      walk_at "open_"
      refine iter_list (s2 _ _ (GH.set_self _ _ _)) ?_
      have kk := k2 M (by lia) (i_EA a0 ha0 hM) fun a ha => hle _ (List.mem_map.mpr (i_EA a ha rfl))
      generalize hst : cutA as b e = st at *
      have slst : sl ∉ st := fun hm => by have := h.info sl (hmem sl hm); wide_line with hsl using this
      have mlst : ml ∉ st := fun hm => by have := h.info ml (hmem ml hm); wide_line with hmlG using this
      refine for_inv (fun ys m G' => ∃ (dn us : List Addr) (x : Option Value), ys = refs us ∧ st = dn ++ us ∧ m = [some (.ref bf), some (.int b 0), some (.int e 0), some (.ref sl), x, some (.int M 0)] ∧ G' sl = some (.list (refs st)) ∧
        (∀ a, a ∉ st → ∀ g, G a = some g → G' a = some g) ∧ (∀ a ∈ st, G' a = some (infoO (hangI dn M I a)))) ?_ ?_ ?_ _ _ _ (i_EEEAAAAA ([]) st none rfl rfl rfl (s2 _ _ (GH.set_self _ _ _)) (fun a z9 g hg => s12 a g hg) (fun a ha => ?_))
      · intro ys m G' hx9; refine o_EEEAAAA hx9 fun dn us x z9 z9 z9 hg z9 => ?_; try clear hx9; exact hg
      · intro m G' hx9; refine o_EEEAAAAA hx9 fun dn us x e e95 e96 hg g1 g2 => ?_; try clear hx9; subst e95; subst e96
        obtain rfl : us = [] := by simpa [refs] using e.symm
        walk_at "open_"
        refine (i_EA (hangH (dn ++ []) M I G) (fun a g hg' => ?_) kk)
        unfold hangH at hg'
        split at hg'
        · rename_i hm
          rw [List.append_nil] at *
          wide_open using hg'
          exact g2 a hm
        · rename_i hm; exact g1 a hm g hg'
      · intro y ys m G' Kn nxt nxc nxr hx9; refine o_EEEAAAAA hx9 fun dn us x e he e96 hg g1 g2 => ?_; try clear hx9; subst e96
        cases us with
        | nil => simp [refs] at e
        | cons u us =>
          simp only [refs, List.map_cons, List.cons.injEq] at e
          obtain ⟨rfl, rfl⟩ := e
          have hu : u ∈ st := by wide_open with he; simp
          have hud := g2 u hu
          have hcl : (hangI dn M I u).cluster = (I u).cluster := by unfold hangI; split <;> rfl
          walk_at "open_"
          refine attr_ hud F.c_Info rfl rfl rfl ?_
          refine cmpI_ok rfl ?_
          wide_open with hcl
          have nxt' : ∀ G2 x, G2 sl = some (.list (refs st)) → (∀ a, a ∉ st → ∀ g, G a = some g → G2 a = some g) → (∀ a ∈ st, G2 a = some (infoO (hangI (dn ++ [u]) M I a))) → Kn .next [some (.ref bf), some (.int b 0), some (.int e 0), some (.ref sl), x, some (.int M 0)] G2 :=
            fun G2 x q1 q2 q3 => nxt _ _ (i_EEEAAAAA (dn ++ [u]) us x rfl (by wide_open with he; simp) rfl q1 q2 q3)
          have hsame : ∀ a, a ≠ u ∨ (I u).cluster = M → hangI (dn ++ [u]) M I a = hangI dn M I a := fun a ha => by
            unfold hangI
            by_cases hau : a = u
            · subst hau
              rcases ha with ha | ha
              · exact absurd rfl ha
              · rw [if_neg (fun x => x.2 ha), if_neg (fun x => x.2 ha)]
            · have : a ∈ dn ++ [u] ↔ a ∈ dn := by simp [hau]
              simp only [this]
          by_cases hcm : (I u).cluster = M
          · wide_open with decide_eq_true hcm
            exact nxt' _ _ hg g1 fun a ha => by wide_open with hsame a (.inr hcm); exact g2 a ha
          · wide_open with decide_eq_false hcm
            refine seta_ hud F.c_Info rfl (by simp) ?_
            have ho : (GO.inst a_Info (setF [(0, .int (hangI dn M I u).code 0), (1, .int (hangI dn M I u).glyph 0), (2, .int (hangI dn M I u).cluster 0), (3, .int (hangI dn M I u).mask 0), (4, .bool (hangI dn M I u).uns), (5, .int 0 0), (6, .int 0 0), (7, .int 0 0), (8, .int 0 0), (9, .str (hangI dn M I u).kind 0),
              (10, .int 0 0), (11, .int 0 0), (12, .int 0 0), (13, .int 0 0), (14, .int 0 0), (15, .str "" 0)] 4 (.bool true))) = infoO (hangI (dn ++ [u]) M I u) := by
              have : hangI (dn ++ [u]) M I u = { hangI dn M I u with uns := true } := by
                unfold hangI
                rw [if_pos ⟨by simp, hcm⟩]
                split <;> rfl
              rw [this]
              rfl
            wide_open with ho
            refine nxt' _ _ ?_ (fun a ha g hg' => ?_) (fun a ha => ?_)
            · wide_open with GH.set_ne _ _ (by rintro rfl; exact slst hu); exact hg
            · wide_open with GH.set_ne _ _ (by rintro rfl; exact ha hu); exact g1 a ha g hg'
            · by_cases hau : a = u
              · subst hau; wide_open with GH.set_self
              · (wide_line using GH.set_ne _ _ hau; wide_open with hsame a (.inl hau)); exact g2 a ha
      · have : hangI [] M I a = I a := by unfold hangI; wide_open with if_neg (fun x => absurd x.1 (by simp))
        rw [this]
        exact s12 _ _ (h.info a (hmem a ha))
end
section
open PySem PySem.W PySem.Calls PyProof.Rows
variable {W : Wd} {n : Nat} {G : GH} {K : KV} {cs : List Addr}
theorem comp_inv {chk : GH → Prop} {el : Value → GH → (Option Value → GH → Prop) → Prop} (I : List Value → List Value → GH → Prop) (hc : ∀ xs acc G, I xs acc G → chk G) (hend : ∀ acc G, I [] acc G → newG (.list acc) G K)
    (hstep : ∀ x xs acc G, ∀ Kc : Option Value → GH → Prop, (∀ o G', I xs (acc ++ Option.toList o) G' → Kc o G') → I (x :: xs) acc G → el x G Kc) :
    ∀ (xs acc : List Value) (G : GH), I xs acc G → compG chk el xs acc G K
  | [], acc, G, h => ⟨hc _ _ _ h, hend _ _ h⟩
  | x :: xs, acc, G, h => ⟨hc _ _ _ h, hstep x xs acc G _ (fun o G' h' => comp_inv I hc hend hstep xs _ G' h') h⟩
theorem sub_setCs : ∀ {cs : List Addr} {vs : Mm}, cs.Nodup → (∀ c ∈ cs, G c = none) → Sub G (setCs G cs vs)
  | [], _, _, _ => fun z9 z9 h => h
  | c :: cs, [], _, _ => fun z9 z9 h => h
  | c :: cs, v :: vs, hn, h => by
    have ih := sub_setCs (vs := vs) (List.nodup_cons.mp hn).2 fun d hd => h d (List.mem_cons_of_mem _ hd)
    exact sub_set_new ih (h c List.mem_cons_self)
theorem two_cells {cs : List Addr} (h : cs.length = 2) (hn : cs.Nodup) : ∃ c d, cs = [c, d] ∧ c ≠ d := by
  match cs, h with
  | [c, d], _ => exact (i_EEA c d rfl (by simpa using hn))
theorem one_cell {cs : List Addr} (h : cs.length = 1) : ∃ c, cs = [c] := by
  match cs, h with
  | [c], _ => exact ⟨c, rfl⟩
theorem len2 {α : Type} {l : List α} (h : l.length = 2) : ∃ a b, l = [a, b] := by
  refine o_EE (List.exists_cons_of_length_eq_add_one h) fun a t e93 => ?_; subst e93
  refine o_EE (List.exists_cons_of_length_eq_add_one (Nat.succ.inj h)) fun b t e93 => ?_; subst e93
  exact (i_EE a b (by wide_open with List.eq_nil_of_length_eq_zero (Nat.succ.inj (Nat.succ.inj h))))
theorem len3 {α : Type} {l : List α} (h : l.length = 3) : ∃ a b c, l = [a, b, c] := by
  refine o_EE (List.exists_cons_of_length_eq_add_one h) fun a t e93 => ?_; subst e93
  refine o_EE (len2 (Nat.succ.inj h)) fun b c e93 => ?_; subst e93
  exact (i_EEE a b c rfl)
theorem three_cells {cs : List Addr} (h : cs.length = 3) (hn : cs.Nodup) : ∃ c d e, cs = [c, d, e] ∧ c ≠ d ∧ c ≠ e ∧ d ≠ e := by
  refine o_EEE (len3 h) fun c d e e94 => ?_; subst e94
  simp at hn
  exact (i_EEEAAA c d e rfl hn.1.1 hn.1.2 hn.2)
noncomputable def CovF (G : GH) (c : Addr) (f : Int → Bool) : Prop := ∃ ns, CovAt G c ns ∧ ns.Pairwise (· ≤ ·) ∧ f = fun g => decide (g ∈ ns)
theorem CovF.sub {G' : GH} {c f} (x : CovF G c f) (h : Sub G G') : CovF G' c f := let ⟨ns, h1, r⟩ := x; (i_EA ns (h1.sub h) r)
noncomputable def CovRow (G : GH) (row : Addr) (fs : List (Int → Bool)) : Prop := ∃ us, G row = some (.tup (refs us)) ∧ All2 (CovF G) us fs ∧ us.length ≤ 1000
theorem CovRow.sub {G' : GH} {c f} (x : CovRow G c f) (h : Sub G G') : CovRow G' c f := let ⟨ns, h1, h2, h3⟩ := x; (i_EAA ns (h _ _ h1) (h2.imp fun z9 z9 a => a.sub h) h3)
theorem All2.snoc {α β : Type} {R : α → β → Prop} {as : List α} {bs : List β} {a b} (h : All2 R as bs) (x : R a b) : All2 R (as ++ [a]) (bs ++ [b]) := by
  induction h with
  | nil => exact .cons x .nil
  | cons y _ ih => exact .cons y ih
theorem All2.length {α β : Type} {R : α → β → Prop} {as : List α} {bs : List β} (h : All2 R as bs) : as.length = bs.length := by
  induction h with
  | nil => rfl
  | cons _ _ ih => simp [ih]
theorem refs_length (as : List Addr) : (refs as).length = as.length := by simp [refs]
set_option tactic.hygienic true in
theorem tests_cover_ (F : Facts W) {row : Addr} {cd : Value} {fs : List (Int → Bool)} (h : CovRow G row fs) (k : ∀ l G', Sub G G' → G l = none → TestsAt G' l fs → K (.ref l) G') :
    CallC W (n + 1) (.ref a_tests_of) [.ref row, .str "cover" 0, cd] G K := by
  refine o_EAA h fun us h1 h2 h3 => ?_; try clear h
  have e5 : ((Str.ofString "cover" : Str) == Str.ofString "class") = false := by decide +kernel
  refine fnCc F F.f_tests_of rfl (by simp [sp_tests_of]) fun cd' cs hl hn hf => ?_
  refine o_EEA (two_cells hl hn) fun c0 c1 e93 hc => ?_; subst e93
  dsimp only [sp_tests_of, b_tests_of]
  have hs := sub_setCs (vs := srcM [some 1, some 2] [.ref row, .str "cover" 0, cd]) hn hf
  walk_at "open_"
  refine opt_ok (by rw [setCs_cons, GH.set_self]) ?_
  walk_at "open_"
  refine eq_str_ok ?_
  wide_open with e5
  walk_at "open_"
  refine iter_tup (hs _ _ h1) ⟨by simp [small, refs]; lia, ?_⟩
  have hcell : (setCs G [c0, c1] [some (Value.str "cover" 0), some cd]) c0 = some (.cell (some (.str "cover" 0))) := by (wide_line using setCs_cons; wide_open with GH.set_self)
  refine comp_inv (fun xs acc G' => Sub (setCs G [c0, c1] [some (Value.str "cover" 0), some cd]) G' ∧ ∃ (ws : List Addr) (gs : List (Int → Bool)) (ts : List Addr) (fd : List (Int → Bool)), xs = refs ws ∧ acc = refs ts ∧ All2 (CovF G) ws gs ∧ fs = fd ++ gs ∧ All2 (TestAt G') ts fd) ?_ ?_ ?_ _ _ _
    (i_AEEEEAAAA (fun z9 z9 e => e) us fs ([]) ([]) rfl rfl h2 rfl .nil)
  · intro xs acc G' hx9; obtain ⟨hS, _⟩ := hx9; exact hS _ _ (hs _ _ h1)
  · intro acc G' hx9; refine o_AEEEEAAAA hx9 fun hS ws gs ts fd e e97 hw e99 ht => ?_; try clear hx9; subst e97; subst e99
    obtain rfl : ws = [] := by simpa [refs] using e.symm
    cases hw
    intro l hl0
    have s1 := sub_set (o := .list (refs ts)) hl0
    have hSl := (hs.trans hS)
    refine ret_same (k l _ (hSl.trans s1) (none_of_sub hSl hl0) (i_EAA ts (GH.set_self _ _ _) ?_ ?_))
    · wide_open with List.append_nil; exact ht.imp fun z9 z9 a => a.sub s1
    · have h4 := ht.length
      have h5 := h2.length
      simp at h5; lia
  · intro x xs acc G' Kc nxt hx9; refine o_AEEEEAAAA hx9 fun hS ws gs ts fd e e97 hw e99 ht => ?_; try clear hx9; subst e97; subst e99
    cases hw with
    | nil => simp [refs] at e
    | cons hu hw' =>
      rename_i u g ws gs
      simp only [refs, List.map_cons, List.cons.injEq] at e
      obtain ⟨rfl, rfl⟩ := e
      walk_at "open_"
      refine cell_ok (hS _ _ hcell) ?_
      intro t ht0
      have s1 := sub_set (o := .tup [.str "cover" 0, .ref u]) ht0
      refine nxt (some _) _ (i_AEEEEAAAA (hS.trans s1) ws gs (ts ++ [t]) (fd ++ [g]) rfl (by simp [refs]) hw' (by simp) ((ht.imp fun z9 z9 a => a.sub s1).snoc ?_))
      refine o_EAA hu fun ns q1 q2 e94 => ?_; try clear hu; subst e94
      exact .inr (.inr (i_EEAAA u ns (GH.set_self _ _ _) (q1.sub ((hs.trans hS).trans s1)) q2 rfl))
noncomputable def ruleO (b i a : Addr) (acts : Value) : GO := .inst a_Rule [(23, .ref b), (24, .ref i), (25, .ref a), (26, acts)]
noncomputable def ctxO (form : Int) (ch : Bool) (sets : Addr) (cov cls : Value) : GO := .inst a_Contexts [(27, .int form 0), (28, .bool ch), (29, .ref sets), (30, cov), (31, cls)]
theorem rule_tests3_ (F : Facts W) {tb ru b i a sets : Addr} {ch : Bool} {cv cl acts : Value} {bs is as : List (Int → Bool)} (hacts : isBlt acts = false) (ht : G tb = some (ctxO 3 ch sets cv cl)) (hr : G ru = some (ruleO b i a acts)) (hb : CovRow G b bs) (hi : CovRow G i is) (ha : CovRow G a as)
    (k : ∀ tu bl il al G', Sub G G' → G' tu = some (.tup [.ref bl, .ref il, .ref al, acts]) → TestsAt G' bl bs → TestsAt G' il is → TestsAt G' al as → K (.ref tu) G') :
    CallC W (n + 2) (.ref a_rule_tests) [.ref tb, .ref ru] G K := by
  refine fnC F F.f_rule_tests rfl rfl fun cd => ?_
  dsimp only [sp_rule_tests, b_rule_tests]
  walk_at "open_"
  intro w hw
  have s1 := sub_set (o := .list [.str "" 0, .str "glyph" 0, .str "class" 0, .str "cover" 0]) hw
  refine attr_ (s1 _ _ ht) F.c_Contexts rfl rfl rfl ?_
  refine sub_list (GH.set_self _ _ _) rfl ?_
  walk_at "open_"
  refine attr_ (s1 _ _ ht) F.c_Contexts rfl rfl rfl ?_
  refine cmp_f rfl (by decide) ?_
  walk_at "open_"
  intro nt hnt
  have s2 := s1.trans (sub_set (o := .tup [.none, .none, .none]) hnt)
  refine (i_EAA _ (by unfold itemsG; dsimp only; rw [GH.set_self]) rfl ?_)
  dsimp only [sPs_cons, sPs_nil]
  walk_at "open_"
  refine attr_ (s2 _ _ hr) F.c_Rule rfl rfl rfl ?_
  refine ⟨keep_fn F.k_tests_of, (tests_cover_ F (hb.sub s2) fun bl G1 q1 q2 q3 => ?_).T⟩
  have s3 := s2.trans q1
  refine attr_ (s3 _ _ hr) F.c_Rule rfl rfl rfl ?_
  refine ⟨keep_fn F.k_tests_of, (tests_cover_ F (hi.sub s3) fun il G2 p1 p2 p3 => ?_).T⟩
  have s4 := s3.trans p1
  refine attr_ (s4 _ _ hr) F.c_Rule rfl rfl rfl ?_
  refine ⟨keep_fn F.k_tests_of, (tests_cover_ F (ha.sub s4) fun al G3 r1 r2 r3 => ?_).T⟩
  have s5 := s4.trans r1
  refine attr_ (s5 _ _ hr) F.c_Rule rfl rfl hacts ?_
  intro tu htu
  have s6 := sub_set (o := .tup [.ref bl, .ref il, .ref al, acts]) htu
  exact ret_same (k tu bl il al _ (s5.trans s6) (GH.set_self _ _ _) (q3.sub (p1.trans (r1.trans s6))) (p3.sub (r1.trans s6)) (r3.sub s6))
theorem rules_ (F : Facts W) {tb sets rl ru : Addr} {form ep} {ch : Bool} {cv cl : Value} (ht : G tb = some (ctxO form ch sets cv cl)) (hs : G sets = some (.dict [(0, .ref rl)] ep)) (hr : G rl = some (.list [.ref ru]))
    (k : newG (.list [.ref ru]) G K) : CallC W (n + 1) (.ref a_Contexts_rules) [.ref tb] G K := by
  refine fnC F F.f_Contexts_rules rfl rfl fun cd => ?_
  dsimp only [sp_Contexts_rules, b_Contexts_rules]
  walk_at "open_"
  intro fo hfo
  have s1 := sub_set (o := .list []) hfo
  refine attr_ (s1 _ _ ht) F.c_Contexts rfl rfl rfl ?_
  refine ⟨trivial, sorted_dict_ok (s1 _ _ hs) (by simp) fun ns' hp hsor => ?_⟩
  obtain rfl : ns' = [0] := List.perm_singleton.mp hp
  intro sl hsl
  have s2 := sub_set (o := .list ([0].map vInt)) hsl
  have hne : fo ≠ sl := by rintro rfl; wide_line with GH.set_self using hsl
  have hgs := none_of_sub s1 hsl
  have s12 := s1.trans s2
  refine iter_list (GH.set_self _ _ _) ⟨GH.set_self _ _ _, ?_⟩
  walk_at "open_"
  refine attr_ (s12 _ _ ht) F.c_Contexts rfl rfl rfl ?_
  refine sub_dict (s12 _ _ hs) rfl ?_
  refine iter_list (s12 _ _ hr) ⟨s12 _ _ hr, ?_⟩
  walk_at "open_"
  have hfo2 : ((G.set fo (.list [])).set sl (.list ([0].map vInt))) fo = some (.list []) := by (wide_line using GH.set_ne _ _ hne; wide_open with GH.set_self)
  refine (i_EAA _ (meth_append F hfo2) trivial (append_ok hfo2 (by simp [small]) ?_))
  refine ⟨?_, ?_⟩
  · refine (?_ : (GH.set _ _ _) _ = _)
    wide_open with GH.set_ne
    · exact s12 _ _ hr
    · rintro rfl; wide_line with hr using hfo
  refine ⟨?_, ?_⟩
  · refine (?_ : (GH.set _ _ _) _ = _)
    wide_open with GH.set_ne _ _ hne.symm; exact GH.set_self _ _ _
  walk_at "open_"
  refine (i_EA (G.set fo (.list [.ref ru])) (sub_of_set (sub_set_new s12 hfo) (GH.set_self _ _ _)) (k fo hfo))
set_option tactic.hygienic true in
theorem rules_at3_ (F : Facts W) {tb ru b i a sets rl : Addr} {ch : Bool} {cv cl acts : Value} {g : Int} {ep} {bs is as : List (Int → Bool)} {f : Int → Bool} (hacts : isBlt acts = false) (ht : G tb = some (ctxO 3 ch sets cv cl)) (hs : G sets = some (.dict [(0, .ref rl)] ep)) (hrl : G rl = some (.list [.ref ru]))
    (hr : G ru = some (ruleO b i a acts)) (hb : CovRow G b bs) (hi : CovRow G i (f :: is)) (ha : CovRow G a as)
    (k1 : f g = true → ∀ l tu bl il al G', Sub G G' → G' l = some (.list [.ref tu]) → G' tu = some (.tup [.ref bl, .ref il, .ref al, acts]) → TestsAt G' bl bs → TestsAt G' il (f :: is) → TestsAt G' al as → K (.ref l) G')
    (k2 : f g = false → ∀ l G', Sub G G' → G' l = some (.list []) → K (.ref l) G') :
    CallC W (n + 3) (.ref a_rules_at) [.ref tb, .int g 0] G K := by
  refine fnCc F F.f_rules_at rfl (by simp [sp_rules_at]) fun cd' cs hl hn hf => ?_
  refine o_EEA (two_cells hl hn) fun c0 c1 e93 hc => ?_; subst e93
  dsimp only [sp_rules_at, b_rules_at]
  have hS := sub_setCs (vs := srcM [some 0, some 1] [.ref tb, .int g 0]) hn hf
  walk_at "open_"
  have h0 : (setCs G [c0, c1] [some (Value.ref tb), some (.int g 0)]) c0 = some (.cell (some (.ref tb))) := by (wide_line using setCs_cons; wide_open with GH.set_self)
  have h1 : (setCs G [c0, c1] [some (Value.ref tb), some (.int g 0)]) c1 = some (.cell (some (.int g 0))) := by (wide_line using setCs_cons; wide_line using GH.set_ne _ _ hc.symm; wide_line using setCs_cons; wide_open with GH.set_self)
  have hS : Sub G (setCs G [c0, c1] [some (Value.ref tb), some (.int g 0)]) := hS
  generalize setCs G [c0, c1] [some (Value.ref tb), some (.int g 0)] = G0 at *
  walk_at "open_"
  refine cell_ok (h0) ?_
  walk_at "open_"
  refine attr_ (hS _ _ ht) F.c_Contexts rfl rfl rfl ?_
  refine cmp_f rfl (by decide) ?_
  walk_at "open_"
  refine cell_ok (h0) ?_
  refine attr_ (hS _ _ ht) F.c_Contexts rfl rfl rfl ?_
  refine cmp_f rfl (by decide) ?_
  walk_at "open_"
  refine cell_ok (h0) ?_
  refine (i_EAA _ (meth_ (hS _ _ ht) F.c_Contexts rfl rfl) (keep_fn F.k_Contexts_rules) ((rules_ F (hS _ _ ht) (hS _ _ hs) (hS _ _ hrl) ?_).T))
  intro l1 hl1
  have s1 := sub_set (o := .list [.ref ru]) hl1
  refine iter_list (GH.set_self _ _ _) (i_AA (by simp [small]) (GH.set_self _ _ _) ?_)
  have hS1 := hS.trans s1
  walk_at "open_"
  refine attr_ (hS1 _ _ hr) F.c_Rule rfl rfl rfl ?_
  refine o_EAA (id hi) fun us u1 u2 u3 => ?_
  cases u2 with
  | cons hu hus =>
    rename_i u us
    refine sub_tup (hS1 _ _ u1) rfl ?_
    refine o_EAA hu fun ns q1 q2 e94 => ?_; try clear hu; subst e94
    have q1' := q1
    refine o_EA q1' fun tt t1 t2 => ?_; try clear q1'
    walk_at "open_"
    refine (i_EA _ (meth_ (hS1 _ _ t1) F.c_Coverage rfl rfl) (cell_ok (s1 _ _ h1) ⟨keep_fn F.k_Coverage_has, (cov_has_ F (q1.sub hS1) q2 ?_).T⟩))
    walk_at "open_"
    dsimp only [truthG_b]
    by_cases hg : g ∈ ns
    · wide_open with decide_eq_true hg
      walk_at "open_"
      refine ⟨GH.set_self _ _ _, ?_⟩
      intro l2 hl2
      have s2 := sub_set (o := .list ([] ++ (some (Value.ref ru)).toList)) hl2
      have hS2 := hS1.trans s2
      walk_at "open_"
      refine iter_list (GH.set_self _ _ _) (i_AA (by simp [small]) (GH.set_self _ _ _) ?_)
      refine cell_ok (s2 _ _ (s1 _ _ h0)) ?_
      refine ⟨keep_fn F.k_rule_tests, (rule_tests3_ F hacts (hS2 _ _ ht) (hS2 _ _ hr) (hb.sub hS2) (hi.sub hS2) (ha.sub hS2) fun tu bl il al G' p1 p2 p3 p4 p5 => ?_).T⟩
      refine ⟨p1 _ _ (GH.set_self _ _ _), ?_⟩
      intro l3 hl3
      have s3 := sub_set (o := .list ([] ++ (some (Value.ref tu)).toList)) hl3
      exact ret_same (k1 (by simpa using hg) l3 tu bl il al _ (hS2.trans (p1.trans s3)) (GH.set_self _ _ _) (s3 _ _ p2) (p3.sub s3) (p4.sub s3) (p5.sub s3))
    · wide_open with decide_eq_false hg
      walk_at "open_"
      refine ⟨GH.set_self _ _ _, ?_⟩
      intro l2 hl2
      have s2 := sub_set (o := .list ([] ++ (none : Option Value).toList)) hl2
      walk_at "open_"
      refine iter_list (GH.set_self _ _ _) (i_AA (by simp [small]) (GH.set_self _ _ _) ?_)
      intro l3 hl3
      have s3 := sub_set (o := .list []) hl3
      exact ret_same (k2 (by simpa using hg) l3 _ (hS1.trans (s2.trans s3)) (GH.set_self _ _ _))
end
section
open PySem PySem.W PySem.Calls PyProof.Rows
variable {W : Wd} {n : Nat} {G : GH} {K : KV} {cs : List Addr}
theorem clsC (F : Facts W) {C : Addr} {sp : ClsSpec} {args : List Value} (hC : W.cls.lookup C = some sp)
    (w : ∀ a, G a = none → CallC W n (.ref sp.init) (.ref a :: args) (G.set a (.inst C [])) fun r G' => r = .none ∧ K (.ref a) G') : CallC W (n + 1) (.ref C) args G K := by
  refine o_EE F.O fun mg mb O => ?_
  exact callT_cls O hC w
theorem seta_new {a : Addr} {i : Nat} {C : Addr} {fs : List (Nat × Value)} {sp : ClsSpec} {v : Value} {K : GH → Prop} (hc : W.cls.lookup C = some sp) (hi : sp.attrs.contains i = true) (hl : Nat.ble fs.length 500 = true)
    (k : K (G.set a (.inst C (setF fs i v)))) : setaG W (.ref a) i v (G.set a (.inst C fs)) K := by
  refine seta_ (GH.set_self _ _ _) hc hi (Nat.le_of_ble_eq_true hl) ?_
  wide_open with GH.set_set; exact k
theorem init_end {a : Addr} {m : Mm} {K : KV} (k : K (.ref a) G) : bodyK (fun r G' => r = .none ∧ K (.ref a) G') .next m G := (i_EAA G (fun z9 z9 e => e) rfl k)
theorem seta_new' {a : Addr} {i : Nat} {C : Addr} {fs : List (Nat × Value)} (fs' : List (Nat × Value)) {sp : ClsSpec} {v : Value} {K : GH → Prop} (hc : W.cls.lookup C = some sp) (hi : sp.attrs.contains i = true) (hl : Nat.ble fs.length 500 = true)
    (he : setF fs i v = fs') (k : K (G.set a (.inst C fs'))) : setaG W (.ref a) i v (G.set a (.inst C fs)) K := by
  subst he; exact seta_new hc hi hl k
theorem new_Info (F : Facts W) {c g cl : Int} (k : newG (infoO ⟨c, g, cl, 0, false, ""⟩) G K) : CallC W (n + 2) (.ref a_Info) [.int c 0, .int g 0, .int cl 0] G K := by
  refine clsC F F.c_Info fun a ha => fnC F F.f_Info___init__ rfl rfl fun cd => ?_
  dsimp only [sp_Info___init__, b_Info___init__]
  walk_at "open_"
  refine seta_new' [(0, .int c 0)] F.c_Info rfl rfl rfl ?_
  refine seta_new' [(0, .int c 0), (1, .int g 0)] F.c_Info rfl rfl rfl ?_
  refine seta_new' [(0, .int c 0), (1, .int g 0), (2, .int cl 0)] F.c_Info rfl rfl rfl ?_
  refine seta_new' [(0, .int c 0), (1, .int g 0), (2, .int cl 0), (3, .int 0 0)] F.c_Info rfl rfl rfl ?_
  refine seta_new' [(0, .int c 0), (1, .int g 0), (2, .int cl 0), (3, .int 0 0), (4, .bool false)] F.c_Info rfl rfl rfl ?_
  refine seta_new' [(0, .int c 0), (1, .int g 0), (2, .int cl 0), (3, .int 0 0), (4, .bool false), (5, .int 0 0)] F.c_Info rfl rfl rfl ?_
  refine seta_new' [(0, .int c 0), (1, .int g 0), (2, .int cl 0), (3, .int 0 0), (4, .bool false), (5, .int 0 0), (6, .int 0 0)] F.c_Info rfl rfl rfl ?_
  refine seta_new' [(0, .int c 0), (1, .int g 0), (2, .int cl 0), (3, .int 0 0), (4, .bool false), (5, .int 0 0), (6, .int 0 0), (7, .int 0 0)] F.c_Info rfl rfl rfl ?_
  refine seta_new' [(0, .int c 0), (1, .int g 0), (2, .int cl 0), (3, .int 0 0), (4, .bool false), (5, .int 0 0), (6, .int 0 0), (7, .int 0 0), (8, .int 0 0)] F.c_Info rfl rfl rfl ?_
  refine seta_new' [(0, .int c 0), (1, .int g 0), (2, .int cl 0), (3, .int 0 0), (4, .bool false), (5, .int 0 0), (6, .int 0 0), (7, .int 0 0), (8, .int 0 0), (9, .str "" 0)] F.c_Info rfl rfl rfl ?_
  refine seta_new' [(0, .int c 0), (1, .int g 0), (2, .int cl 0), (3, .int 0 0), (4, .bool false), (5, .int 0 0), (6, .int 0 0), (7, .int 0 0), (8, .int 0 0), (9, .str "" 0), (10, .int 0 0)] F.c_Info rfl rfl rfl ?_
  refine seta_new' [(0, .int c 0), (1, .int g 0), (2, .int cl 0), (3, .int 0 0), (4, .bool false), (5, .int 0 0), (6, .int 0 0), (7, .int 0 0), (8, .int 0 0), (9, .str "" 0), (10, .int 0 0), (11, .int 0 0)] F.c_Info rfl rfl rfl ?_
  refine seta_new' [(0, .int c 0), (1, .int g 0), (2, .int cl 0), (3, .int 0 0), (4, .bool false), (5, .int 0 0), (6, .int 0 0), (7, .int 0 0), (8, .int 0 0), (9, .str "" 0), (10, .int 0 0), (11, .int 0 0), (12, .int 0 0)] F.c_Info rfl rfl rfl ?_
  refine seta_new' [(0, .int c 0), (1, .int g 0), (2, .int cl 0), (3, .int 0 0), (4, .bool false), (5, .int 0 0), (6, .int 0 0), (7, .int 0 0), (8, .int 0 0), (9, .str "" 0), (10, .int 0 0), (11, .int 0 0), (12, .int 0 0), (13, .int 0 0)] F.c_Info rfl rfl rfl ?_
  refine seta_new' [(0, .int c 0), (1, .int g 0), (2, .int cl 0), (3, .int 0 0), (4, .bool false), (5, .int 0 0), (6, .int 0 0), (7, .int 0 0), (8, .int 0 0), (9, .str "" 0), (10, .int 0 0), (11, .int 0 0), (12, .int 0 0), (13, .int 0 0), (14, .int 0 0)] F.c_Info rfl rfl rfl ?_
  refine seta_new' [(0, .int c 0), (1, .int g 0), (2, .int cl 0), (3, .int 0 0), (4, .bool false), (5, .int 0 0), (6, .int 0 0), (7, .int 0 0), (8, .int 0 0), (9, .str "" 0), (10, .int 0 0), (11, .int 0 0), (12, .int 0 0), (13, .int 0 0), (14, .int 0 0), (15, .str "" 0)] F.c_Info rfl rfl rfl ?_
  exact init_end (k a ha)
theorem new_Buffer (F : Facts W) {r : Addr} (k : newG (bufO r) G K) : CallC W (n + 2) (.ref a_Buffer) [.ref r] G K := by
  refine clsC F F.c_Buffer fun a ha => fnC F F.f_Buffer___init__ rfl rfl fun cd => ?_
  dsimp only [sp_Buffer___init__, b_Buffer___init__]
  walk_at "open_"
  iterate 4 refine seta_new F.c_Buffer rfl rfl ?_
  exact init_end (k a ha)
theorem new_Coverage (F : Facts W) {t : Addr} (k : newG (.inst a_Coverage [(20, .ref t)]) G K) : CallC W (n + 2) (.ref a_Coverage) [.ref t] G K := by
  refine clsC F F.c_Coverage fun a ha => fnC F F.f_Coverage___init__ rfl rfl fun cd => ?_
  dsimp only [sp_Coverage___init__, b_Coverage___init__]
  walk_at "open_"
  refine seta_new F.c_Coverage rfl rfl ?_
  exact init_end (k a ha)
theorem new_Rule (F : Facts W) {b i c : Addr} {v : Value} (k : newG (ruleO b i c v) G K) : CallC W (n + 2) (.ref a_Rule) [.ref b, .ref i, .ref c, v] G K := by
  refine clsC F F.c_Rule fun a ha => fnC F F.f_Rule___init__ rfl rfl fun cd => ?_
  dsimp only [sp_Rule___init__, b_Rule___init__]
  walk_at "open_"
  iterate 4 refine seta_new F.c_Rule rfl rfl ?_
  exact init_end (k a ha)
theorem new_Contexts (F : Facts W) {f : Int} {c : Bool} {s : Addr} (k : newG (ctxO f c s .none .none) G K) : CallC W (n + 2) (.ref a_Contexts) [.int f 0, .bool c, .ref s] G K := by
  refine clsC F F.c_Contexts fun a ha => fnC F F.f_Contexts___init__ rfl rfl fun cd => ?_
  dsimp only [sp_Contexts___init__, b_Contexts___init__]
  walk_at "open_"
  iterate 5 refine seta_new F.c_Contexts rfl rfl ?_
  exact init_end (k a ha)
noncomputable def lookO (kd : Str) (fl ms : Int) (tb : Value) : GO := .inst a_Lookup [(9, .str kd 0), (33, .int fl 0), (34, .int ms 0), (35, tb)]
theorem new_Lookup (F : Facts W) {kd : Str} {fl ms : Int} {tb : Value} (k : newG (lookO kd fl ms tb) G K) : CallC W (n + 2) (.ref a_Lookup) [.str kd 0, .int fl 0, .int ms 0, tb] G K := by
  refine clsC F F.c_Lookup fun a ha => fnC F F.f_Lookup___init__ rfl rfl fun cd => ?_
  dsimp only [sp_Lookup___init__, b_Lookup___init__]
  walk_at "open_"
  iterate 4 refine seta_new F.c_Lookup rfl rfl ?_
  exact init_end (k a ha)
theorem new_Places (F : Facts W) {r : Addr} {e : Int} (k : newG (.inst a_Places [(16, .ref r), (42, .int e 0)]) G K) : CallC W (n + 2) (.ref a_Places) [.ref r, .int e 0] G K := by
  refine clsC F F.c_Places fun a ha => fnC F F.f_Places___init__ rfl rfl fun cd => ?_
  dsimp only [sp_Places___init__, b_Places___init__]
  walk_at "open_"
  iterate 2 refine seta_new F.c_Places rfl rfl ?_
  exact init_end (k a ha)
theorem new_ClassDef (F : Facts W) {d : Addr} (k : newG (.inst a_ClassDef [(31, .ref d)]) G K) : CallC W (n + 2) (.ref a_ClassDef) [.ref d] G K := by
  refine clsC F F.c_ClassDef fun a ha => fnC F F.f_ClassDef___init__ rfl rfl fun cd => ?_
  dsimp only [sp_ClassDef___init__, b_ClassDef___init__]
  walk_at "open_"
  refine seta_new F.c_ClassDef rfl rfl ?_
  exact init_end (k a ha)
theorem set_swap {a b : Addr} {o o' p : GO} (h : a ≠ b) : (((G.set a o).set b p).set a o') = ((G.set a o').set b p) := by
  (wide_line using GH.set_comm (G.set a o) p o' h.symm; wide_open with GH.set_set)
theorem new_Gdef (F : Facts W) {c v1 v2 : Value} (k : ∀ a d1 d2 G', Sub G G' → G a = none → G' a = some (.inst a_Gdef [(31, c), (48, v1), (29, v2), (49, .ref d1), (50, .ref d2)]) → K (.ref a) G') : CallC W (n + 2) (.ref a_Gdef) [c, v1, v2] G K := by
  refine clsC F F.c_Gdef fun a ha => fnC F F.f_Gdef___init__ rfl rfl fun cd => ?_
  dsimp only [sp_Gdef___init__, b_Gdef___init__]
  walk_at "open_"
  iterate 3 refine seta_new F.c_Gdef rfl rfl ?_
  refine is_none_ok rfl ?_
  simp only [isN]
  intro ep1 d1 hd1
  have n1 : d1 ≠ a := by rintro rfl; wide_line with GH.set_self using hd1
  walk_at "open_"
  refine seta_ (by rw [GH.set_ne _ _ n1.symm, GH.set_self]) F.c_Gdef rfl (Nat.le_of_ble_eq_true rfl) ?_
  refine is_none_ok rfl ?_
  simp only [isN]
  wide_open with set_swap n1.symm
  intro ep2 d2 hd2
  have n2 : d2 ≠ a := by rintro rfl; rw [GH.set_ne _ _ n1.symm, GH.set_self] at hd2; wide_open using hd2
  refine seta_ (by rw [GH.set_ne _ _ n2.symm, GH.set_ne _ _ n1.symm, GH.set_self]) F.c_Gdef rfl (Nat.le_of_ble_eq_true rfl) ?_
  have hG1 : G d1 = none := by rwa [GH.set_ne _ _ n1] at hd1
  have hG2 : G d2 = none := by
    by_cases e : d2 = d1
    · wide_open with e; exact hG1
    · rwa [GH.set_ne _ _ e, GH.set_ne _ _ n2] at hd2
  refine init_end (k a d1 d2 _ ?_ ha (GH.set_self _ _ _))
  exact sub_set_new (sub_set_new (sub_set_new (sub_set ha) hG1) hG2) ha
theorem new_Scene (F : Facts W) {b gd ls l : Addr} {m d : Int} (k : ∀ a st, G a = none → G st = none → a ≠ st → K (.ref a) ((G.set a (sceneO b gd ls l m d st)).set st (.list [.int 0 0]))) :
    CallC W (n + 2) (.ref a_Scene) [.ref b, .ref gd, .ref ls, .ref l, .int m 0, .int d 0] G K := by
  refine clsC F F.c_Scene fun a ha => fnC F F.f_Scene_full rfl rfl fun cd => ?_
  dsimp only [sp_Scene___init__, b_Scene___init__]
  walk_at "open_"
  iterate 6 refine seta_new F.c_Scene rfl rfl ?_
  intro st hst
  have n1 : st ≠ a := by rintro rfl; wide_line with GH.set_self using hst
  refine seta_ (by rw [GH.set_ne _ _ n1.symm, GH.set_self]) F.c_Scene rfl (Nat.le_of_ble_eq_true rfl) ?_
  wide_open with set_swap n1.symm
  rw [GH.set_ne _ _ n1] at hst
  exact init_end (k a st ha hst n1.symm)
set_option tactic.hygienic true in
theorem coverage_of_ (F : Facts W) {l : Addr} {ns : List Int} (h : G l = some (.list (ns.map vInt))) (hz : ns.length < 64)
    (k : ∀ c ms G', Sub G G' → G c = none → CovAt G' c ms → ms.Pairwise (· ≤ ·) → (∀ x, x ∈ ms ↔ x ∈ ns) → K (.ref c) G') : CallC W (n + 3) (.ref a_coverage_of) [.ref l] G K := by
  refine fnC F F.f_coverage_of rfl rfl fun cd => ?_
  dsimp only [sp_coverage_of, b_coverage_of]
  walk_at "open_"
  intro ep d hd
  have s1 := sub_set (o := .dict ((([] : List Int).zip []).foldl (fun l p => put l p.1 p.2) []) ep) hd
  walk_at "open_"
  refine iter_list (s1 _ _ h) ?_
  refine for_inv (fun ys m G' => ∃ (dn us : List Int) (es : List (Int × Value)) (ep' : Nat) (x : Option Value), ys = us.map vInt ∧ ns = dn ++ us ∧ m = [some (.ref l), some (.ref d), x] ∧ Sub G G' ∧ G' d = some (.dict es ep') ∧ es.length ≤ dn.length ∧ (∀ y, y ∈ es.map (·.1) ↔ y ∈ dn)) ?_ ?_ ?_ _ _ _
    (i_EEEEEAAAAAA ([]) ns ([]) ep none rfl rfl rfl s1 (GH.set_self _ _ _) (Nat.le_refl _) (by simp))
  · intro ys m G' hx9; refine o_EEEEEAAAA hx9 fun dn us es ep' x z9 z9 z9 hS z9 => ?_; try clear hx9; exact hS _ _ h
  · intro m G' hx9; refine o_EEEEEAAAAAA hx9 fun dn us es ep' x e e97 e98 hS hd' hlen hmem => ?_; try clear hx9; subst e97; subst e98
    obtain rfl : us = [] := by simpa using e.symm
    walk_at "open_"
    refine ⟨trivial, sorted_dict_ok hd' (by simp at hz; lia) fun ms hp hs sl hsl => ?_⟩
    have s2 := sub_set (o := .list (ms.map vInt)) hsl
    refine ⟨trivial, tup_of_list_ok (GH.set_self _ _ _) ?_⟩
    intro t ht
    have s3 := sub_set (o := .tup (ms.map vInt)) ht
    refine ⟨keep_fn F.k_Coverage, (new_Coverage F ?_).T⟩
    intro c hc
    have s4 := sub_set (o := .inst a_Coverage [(20, .ref t)]) hc
    refine ret_same (k c ms _ (hS.trans (s2.trans (s3.trans s4))) (none_of_sub (hS.trans (s2.trans s3)) hc) (i_EA t (GH.set_self _ _ _) (s4 _ _ (GH.set_self _ _ _))) hs fun x => ?_)
    (wide_line using hp.mem_iff; wide_open with hmem); simp
  · intro y ys m G' Kn nxt nxc nxr hx9; refine o_EEEEEAAAAAA hx9 fun dn us es ep' x e he e98 hS hd' hlen hmem => ?_; try clear hx9; subst e98
    cases us with
    | nil => simp at e
    | cons u us =>
      simp only [List.map_cons, List.cons.injEq] at e
      obtain ⟨rfl, rfl⟩ := e
      walk_at "open_"
      unfold setiG vInt
      dsimp only
      wide_open with hd'
      refine ⟨by rw [he] at hz; simp at hz; simp [small]; (first | exact lqA (by lia) (by lia) | exact lqB (by lia) | exact lqD (by lia) | lia), fun ep'' => nxt _ _ (i_EEEEEAAAAAA (dn ++ [u]) us (put es u (.bool true)) ep'' _ rfl (by wide_open with he; simp) rfl (sub_set_new hS hd) (GH.set_self _ _ _) ?_ (fun y => ?_))⟩
      · unfold put; split <;> simp <;> lia
      · unfold put
        split
        · rename_i hany
          have hu : u ∈ dn := by
            refine o_EA (List.any_eq_true.mp hany) fun q hq hq2 => ?_
            ((first | refine hmem ▸ ?_ | rewrite [← hmem]); try with_reducible rfl)
            exact List.mem_map.mpr (i_EA q hq (by simpa using hq2))
          have e1 : (es.map fun kv => if kv.1 = u then (kv.1, Value.bool true) else kv).map (·.1) = es.map (·.1) := by
            wide_open with List.map_map; apply List.map_congr_left; intro q _; simp only [Function.comp]; split <;> rfl
          (wide_line using e1; wide_open with hmem)
          constructor
          · intro hy; exact List.mem_append_left _ hy
          · intro hy
            rcases List.mem_append.mp hy with hy | hy
            · exact hy
            · wide_open with List.mem_singleton.mp hy; exact hu
        · (wide_line using List.map_append; wide_line using List.mem_append; wide_open with hmem); simp
end
section
open PySem PySem.W PySem.Calls PyProof.Rows
variable {W : Wd} {n : Nat} {G : GH} {K : KV} {cs : List Addr}
theorem Sub.set2 {A B : GH} {p : Addr} {o : GO} (h : Sub A B) : Sub (A.set p o) (B.set p o) := fun b g e => by
  by_cases hb : b = p
  · subst hb; rw [GH.set_self] at e ⊢; exact e
  · rw [GH.set_ne _ _ hb] at e ⊢; exact h b g e
theorem nested_scene_ (F : Facts W) {s b gd ls l st : Addr} {mask dp num : Int} {lks : List Addr} (hs : G s = some (sceneO b gd ls l mask dp st)) (hl : G ls = some (.list (refs lks)))
    (k1 : ¬ (0 ≤ num ∧ num < lks.length) → K .none G) (k2 : ∀ (i : Nat) lk a, num = i → lks[i]? = some lk → G a = none → K (.ref a) (G.set a (sceneO b gd ls lk mask (dp + 1) st))) :
    CallC W (n + 3) (.ref a_nested_scene) [.ref s, .int num 0] G K := by
  refine fnC F F.f_nested_scene rfl rfl fun cd => ?_
  dsimp only [sp_nested_scene, b_nested_scene]
  walk_at "open_"
  refine cmp_if (p := 0 ≤ num) rfl (fun a1 => ?_) (fun a1 => ?_)
  · walk_at "open_"
    refine attr_ hs F.c_Scene rfl rfl rfl ?_
    refine ⟨trivial, len_list_ok hl ?_⟩
    refine cmp_if (p := num < lks.length) (by wide_open with refs_length; rfl) (fun a2 => ?_) (fun a2 => ?_)
    · walk_at "open_"
      obtain ⟨i, rfl⟩ := Int.eq_ofNat_of_zero_le a1
      obtain ⟨lk, hlk⟩ : ∃ lk, lks[i]? = some lk := ⟨_, List.getElem?_eq_getElem (by simpa using a2)⟩
      walk_at "open_"
      try simp only [Bool.not_true]
      refine attr_ hs F.c_Scene rfl rfl rfl ?_
      refine attr_ hs F.c_Scene rfl rfl rfl ?_
      refine attr_ hs F.c_Scene rfl rfl rfl ?_
      refine attr_ hs F.c_Scene rfl rfl rfl ?_
      refine sub_list hl (pick_ref hlk) ?_
      refine attr_ hs F.c_Scene rfl rfl rfl ?_
      refine attr_ hs F.c_Scene rfl rfl rfl ?_
      refine add_ok ?_
      refine ⟨keep_fn F.k_Scene, (new_Scene F fun a st' ha hst' hne => ?_).T⟩
      have h1 : Sub G ((G.set a (sceneO b gd ls lk mask (dp + 1) st')).set st' (.list [.int 0 0])) := sub_set_new (sub_set ha) hst'
      walk_at "open_"
      refine attr_ (h1 _ _ hs) F.c_Scene rfl rfl rfl ?_
      refine seta_ (by rw [GH.set_ne _ _ hne, GH.set_self]; rfl) F.c_Scene rfl (Nat.le_of_ble_eq_true rfl) ?_
      exact (i_EA (G.set a (sceneO b gd ls lk mask (dp + 1) st)) (sub_of_set (sub_set_new h1 ha) (GH.set_self _ _ _)) (k2 i lk a rfl hlk ha))
    · walk_at "open_"
      exact ret_same (k1 fun x => a2 x.2)
  · walk_at "open_"
    exact ret_same (k1 fun x => a1 x.1)
theorem inner_scene_ (F : Facts W) {s b gd ls l st : Addr} {mask dp num : Int} {lks : List Addr} (hs : G s = some (sceneO b gd ls l mask dp st)) (hl : G ls = some (.list (refs lks)))
    (k1 : ¬ (dp < 6 ∧ 0 ≤ num ∧ num < lks.length) → K .none G) (k2 : ∀ (i : Nat) lk a, dp < 6 → num = i → lks[i]? = some lk → G a = none → K (.ref a) (G.set a (sceneO b gd ls lk mask (dp + 1) st))) :
    CallC W (n + 4) (.ref a_inner_scene) [.ref s, .int num 0] G K := by
  refine fnC F F.f_inner_scene rfl rfl fun cd => ?_
  dsimp only [sp_inner_scene, b_inner_scene]
  walk_at "open_"
  refine attr_ hs F.c_Scene rfl rfl rfl ?_
  refine cmp_if (p := 6 ≤ dp) rfl (fun h6 => ?_) (fun h6 => ?_)
  · walk_at "open_"
    exact ret_same (k1 fun x => by omega)
  · walk_at "open_"
    refine ⟨keep_fn F.k_nested_scene, (nested_scene_ F hs hl (fun x => ret_same (k1 fun y => x y.2)) fun i lk a e h1 h2 => ret_same (k2 i lk a (by omega) e h1 h2)).T⟩
noncomputable def placO (r : Addr) (e : Int) : GO := .inst a_Places [(16, .ref r), (42, .int e 0)]
noncomputable def growM (ps : List Int) (i : Nat) (x : Int) (m : Nat) : List Int := ps.take (i + 1) ++ (List.range m).map (fun (j : Nat) => x + 1 + (j : Int)) ++ (ps.drop (i + 1)).map (· + (m : Int))
noncomputable def shrinkM (ps : List Int) (i : Nat) (m : Nat) : List Int := ps.take (i + 1) ++ (ps.drop (i + 1 + m)).map (· - (m : Int))
theorem cut_ints (ps : List Int) (lo hi : Option Nat) : cut (ps.map vInt) lo hi = ((ps.take (hi.getD ps.length)).drop (lo.getD 0)).map vInt := by simp [cut, List.map_drop, List.map_take]
theorem grow_ (F : Facts W) {p r : Addr} {e x : Int} {ps : List Int} {i m : Nat} (hp : G p = some (placO r e)) (hr : G r = some (.list (ps.map vInt))) (hx : ps[i]? = some x) (hm : m ≤ 100000) (hz : ps.length ≤ 100000)
    (k : ∀ r', G r' = none → r' ≠ p → K .none ((G.set r' (.list ((growM ps i x m).map vInt))).set p (placO r' e))) : CallC W (n + 1) (.ref a_grow) [.ref p, .int i 0, .int m 0] G K := by
  refine fnCc F F.f_grow rfl (by simp [sp_grow]) fun cd' cs hl hn hf => ?_
  refine o_EEEAAA (three_cells hl hn) fun c0 c1 c2 e94 hc1 hc2 hc3 => ?_; subst e94
  dsimp only [sp_grow, b_grow]
  have hS := sub_setCs (vs := srcM [some 0, some 1, some 2] [.ref p, .int i 0, .int m 0]) hn hf
  walk_at "open_"
  have h0 : (setCs G [c0, c1, c2] [some (Value.ref p), some (.int i 0), some (.int m 0)]) c0 = some (.cell (some (.ref p))) := by (wide_line using setCs_cons; wide_open with GH.set_self)
  have h1 : (setCs G [c0, c1, c2] [some (Value.ref p), some (.int i 0), some (.int m 0)]) c1 = some (.cell (some (.int i 0))) := by (wide_line using setCs_cons; wide_line using GH.set_ne _ _ hc1.symm; wide_line using setCs_cons; wide_open with GH.set_self)
  have h2 : (setCs G [c0, c1, c2] [some (Value.ref p), some (.int i 0), some (.int m 0)]) c2 = some (.cell (some (.int m 0))) := by (wide_line using setCs_cons; wide_line using GH.set_ne _ _ hc2.symm; wide_line using setCs_cons; wide_line using GH.set_ne _ _ hc3.symm; wide_line using setCs_cons; wide_open with GH.set_self)
  have hS : Sub G (setCs G [c0, c1, c2] [some (Value.ref p), some (.int i 0), some (.int m 0)]) := hS
  generalize setCs G [c0, c1, c2] [some (Value.ref p), some (.int i 0), some (.int m 0)] = G0 at *
  refine cell_ok (h2) ?_
  refine ⟨trivial, range1_ok ?_⟩
  intro rg hrg
  have s1 := sub_set (o := .range 0 m) hrg
  refine iter_range (GH.set_self _ _ _) (by omega) ⟨by simp [small]; (first | exact lqA (by lia) (by lia) | exact lqB (by lia) | exact lqD (by lia) | omega), ?_⟩
  refine comp_map (fun v => match v with | .int j _ => vInt (x + 1 + j) | v => v) trivial _ [] (fun y hy kk => ?_) ?_
  · refine o_EA (List.mem_map.mp hy) fun j hj e93 => ?_; subst e93
    intro kq
    refine cell_ok (s1 _ _ h0) ?_
    refine attr_ (s1 _ _ (hS _ _ hp)) F.c_Places rfl rfl rfl ?_
    refine cell_ok (s1 _ _ h1) ?_
    refine sub_list (s1 _ _ (hS _ _ hr)) (pick_int hx) ?_
    refine add_ok ?_
    refine add_ok ?_
    exact kq
  intro fr hfr
  have e1 : ([] ++ ((List.range m).map fun (j : Nat) => Value.int (j : Int) 0).map fun v => match v with | .int j _ => vInt (x + 1 + j) | v => v) = ((List.range m).map fun (j : Nat) => x + 1 + (j : Int)).map vInt := by simp only [List.nil_append, List.map_map]; rfl
  rw [e1] at *
  have s2 := s1.trans (sub_set (o := .list (((List.range m).map fun (j : Nat) => x + 1 + (j : Int)).map vInt)) hfr)
  refine cell_ok (s2 _ _ h0) ?_
  refine attr_ (s2 _ _ (hS _ _ hp)) F.c_Places rfl rfl rfl ?_
  refine cell_ok (s2 _ _ h1) ?_
  walk_at "open_"
  refine add_ok ?_
  refine slice_list_ok (lo := none) (hi := some (i + 1)) (s2 _ _ (hS _ _ hr)) rfl (by simp [partV]) ?_
  intro la hla
  wide_open with cut_ints
  have sa := sub_set (o := .list ((((ps.take ((some (i + 1)).getD ps.length)).drop ((none : Option Nat).getD 0)).map vInt))) hla
  refine concat_ok (GH.set_self _ _ _) (sa _ _ (GH.set_self _ _ _)) (by simp [small]; (first | exact lqA (by lia) (by lia) | exact lqB (by lia) | exact lqD (by lia) | omega)) ?_
  intro lb hlb
  have sb := sub_set (o := .list (((ps.take ((some (i + 1)).getD ps.length)).drop ((none : Option Nat).getD 0)).map vInt ++ ((List.range m).map fun (j : Nat) => x + 1 + (j : Int)).map vInt)) hlb
  have s4 := (s2.trans sa).trans sb
  refine cell_ok (s4 _ _ h0) ?_
  refine attr_ (s4 _ _ (hS _ _ hp)) F.c_Places rfl rfl rfl ?_
  refine cell_ok (s4 _ _ h1) ?_
  refine add_ok ?_
  refine slice_list_ok (lo := some (i + 1)) (hi := none) (s4 _ _ (hS _ _ hr)) (by simp [partV]) rfl ?_
  intro lc hlc
  wide_open with cut_ints
  have sc := sub_set (o := .list ((((ps.take ((none : Option Nat).getD ps.length)).drop ((some (i + 1)).getD 0)).map vInt))) hlc
  have s5 := s4.trans sc
  refine iter_list (GH.set_self _ _ _) ⟨by simp [small]; (first | exact lqA (by lia) (by lia) | exact lqB (by lia) | exact lqD (by lia) | omega), ?_⟩
  refine comp_map (fun v => match v with | .int j _ => vInt (j + m) | v => v) (GH.set_self _ _ _) _ [] (fun y hy kk => ?_) ?_
  · refine o_EA (List.mem_map.mp hy) fun j hj e93 => ?_; subst e93
    intro kq
    refine cell_ok (s5 _ _ h2) ?_
    refine add_ok ?_
    exact kq
  intro ld hld
  have e2 : ([] ++ (((ps.take ((none : Option Nat).getD ps.length)).drop ((some (i + 1)).getD 0)).map vInt).map fun v => match v with | .int j _ => vInt (j + m) | v => v) = ((ps.drop (i + 1)).map (· + (m : Int))).map vInt := by simp only [List.nil_append, List.map_map, Option.getD_none, Option.getD_some, List.take_length]; rfl
  rw [e2] at *
  have sd := sub_set (o := .list (((ps.drop (i + 1)).map (· + (m : Int))).map vInt)) hld
  have s6 := s5.trans sd
  refine concat_ok (sd _ _ (sc _ _ (GH.set_self _ _ _))) (GH.set_self _ _ _) (by simp [small]; (first | exact lqA (by lia) (by lia) | exact lqB (by lia) | exact lqD (by lia) | omega)) ?_
  intro le hle
  have s7 := s6.trans (sub_set (o := .list (((ps.take ((some (i + 1)).getD ps.length)).drop ((none : Option Nat).getD 0)).map vInt ++ ((List.range m).map fun (j : Nat) => x + 1 + (j : Int)).map vInt ++ ((ps.drop (i + 1)).map (· + (m : Int))).map vInt)) hle)
  refine cell_ok (s7 _ _ h0) ?_
  refine seta_ (s7 _ _ (hS _ _ hp)) F.c_Places rfl (Nat.le_of_ble_eq_true rfl) ?_
  have hG7 := hS.trans s7
  have hGle : G le = none := none_of_sub (hS.trans s6) hle
  have hlp : le ≠ p := by rintro rfl; wide_line with hp using hGle
  refine (i_EA _ (Sub.set2 (p := p) (sub_of_set hG7 (a := le) (o := .list ((growM ps i x m).map vInt)) ?_)) (k le hGle hlp))
  wide_open with GH.set_self
  simp [growM]
theorem shrink_ (F : Facts W) {p r : Addr} {e : Int} {ps : List Int} {i m : Nat} (hp : G p = some (placO r e)) (hr : G r = some (.list (ps.map vInt))) (hz : ps.length ≤ 100000)
    (k : ∀ r', G r' = none → r' ≠ p → K .none ((G.set r' (.list ((shrinkM ps i m).map vInt))).set p (placO r' e))) : CallC W (n + 1) (.ref a_shrink) [.ref p, .int i 0, .int m 0] G K := by
  refine fnCc F F.f_shrink rfl (by simp [sp_shrink]) fun cd' cs hl hn hf => ?_
  obtain ⟨c0, rfl⟩ := one_cell hl
  dsimp only [sp_shrink, b_shrink]
  have hS := sub_setCs (vs := srcM [some 2] [.ref p, .int i 0, .int m 0]) hn hf
  walk_at "open_"
  have h0 : (setCs G [c0] [some (Value.int m 0)]) c0 = some (.cell (some (.int m 0))) := by (wide_line using setCs_cons; wide_open with GH.set_self)
  have hS : Sub G (setCs G [c0] [some (Value.int m 0)]) := hS
  generalize setCs G [c0] [some (Value.int m 0)] = G0 at *
  refine attr_ (hS _ _ hp) F.c_Places rfl rfl rfl ?_
  refine add_ok ?_
  refine slice_list_ok (lo := none) (hi := some (i + 1)) (hS _ _ hr) rfl (by simp [partV]) ?_
  intro la hla
  wide_open with cut_ints
  have sa := sub_set (o := .list ((((ps.take ((some (i + 1)).getD ps.length)).drop ((none : Option Nat).getD 0)).map vInt))) hla
  refine attr_ (sa _ _ (hS _ _ hp)) F.c_Places rfl rfl rfl ?_
  refine add_ok ?_
  refine cell_ok (sa _ _ h0) ?_
  refine add_ok ?_
  refine slice_list_ok (lo := some (i + 1 + m)) (hi := none) (sa _ _ (hS _ _ hr)) (by simp [partV]) rfl ?_
  intro lc hlc
  wide_open with cut_ints
  have sc := sub_set (o := .list ((((ps.take ((none : Option Nat).getD ps.length)).drop ((some (i + 1 + m)).getD 0)).map vInt))) hlc
  have s5 := sa.trans sc
  refine iter_list (GH.set_self _ _ _) ⟨by simp [small]; (first | exact lqA (by lia) (by lia) | exact lqB (by lia) | exact lqD (by lia) | omega), ?_⟩
  refine comp_map (fun v => match v with | .int j _ => vInt (j - m) | v => v) (GH.set_self _ _ _) _ [] (fun y hy kk => ?_) ?_
  · refine o_EA (List.mem_map.mp hy) fun j hj e93 => ?_; subst e93
    intro kq
    refine cell_ok (s5 _ _ h0) ?_
    refine sub_int_ok ?_
    exact kq
  intro ld hld
  have e2 : ([] ++ (((ps.take ((none : Option Nat).getD ps.length)).drop ((some (i + 1 + m)).getD 0)).map vInt).map fun v => match v with | .int j _ => vInt (j - m) | v => v) = ((ps.drop (i + 1 + m)).map (· - (m : Int))).map vInt := by simp only [List.nil_append, List.map_map, Option.getD_none, Option.getD_some, List.take_length]; rfl
  rw [e2] at *
  have sd := sub_set (o := .list (((ps.drop (i + 1 + m)).map (· - (m : Int))).map vInt)) hld
  have s6 := s5.trans sd
  refine concat_ok (sd _ _ (sc _ _ (GH.set_self _ _ _))) (GH.set_self _ _ _) (by simp [small]; (first | exact lqA (by lia) (by lia) | exact lqB (by lia) | exact lqD (by lia) | omega)) ?_
  intro le hle
  have s7 := s6.trans (sub_set (o := .list (((ps.take ((some (i + 1)).getD ps.length)).drop ((none : Option Nat).getD 0)).map vInt ++ ((ps.drop (i + 1 + m)).map (· - (m : Int))).map vInt)) hle)
  refine seta_ (s7 _ _ (hS _ _ hp)) F.c_Places rfl (Nat.le_of_ble_eq_true rfl) ?_
  have hG7 := hS.trans s7
  have hGle : G le = none := none_of_sub (hS.trans s6) hle
  have hlp : le ≠ p := by rintro rfl; wide_line with hp using hGle
  refine (i_EA _ (Sub.set2 (p := p) (sub_of_set hG7 (a := le) (o := .list ((shrinkM ps i m).map vInt)) ?_)) (k le hGle hlp))
  wide_open with GH.set_self
  simp [shrinkM]
end
section
open PySem PySem.W PySem.Calls PyProof.Rows
variable {W : Wd} {n : Nat} {G : GH} {K : KV} {cs : List Addr}
noncomputable def SubBut (p : Addr) (G G' : GH) : Prop := ∀ a g, a ≠ p → G a = some g → G' a = some g
noncomputable def moveM (ps : List Int) (e : Int) (i : Nat) (x c : Int) : List Int × Int :=
  let c2 := if e + c < x then c + x - (e + c) else c
  let e2 := if e + c < x then x else e + c
  (if 0 < c2 then growM ps i x c2.toNat else if c2 < 0 then shrinkM ps i (-c2).toNat else ps, e2)
theorem move_ (F : Facts W) {p r : Addr} {e x c : Int} {ps : List Int} {i : Nat} (hp : G p = some (placO r e)) (hr : G r = some (.list (ps.map vInt))) (hx : ps[i]? = some x) (hc : c ≤ 10000 ∧ x - e ≤ 10000) (hz : ps.length ≤ 100000)
    (k : ∀ G' r', SubBut p G G' → (r' = r ∨ G r' = none) → G' p = some (placO r' (moveM ps e i x c).2) → G' r' = some (.list ((moveM ps e i x c).1.map vInt)) → K .none G') : CallC W (n + 2) (.ref a_move) [.ref p, .int i 0, .int c 0] G K := by
  refine fnC F F.f_move rfl rfl fun cd => ?_
  dsimp only [sp_move, b_move]
  walk_at "open_"
  refine attr_ hp F.c_Places rfl rfl rfl ?_
  refine add_ok ?_
  refine seta_ hp F.c_Places rfl (Nat.le_of_ble_eq_true rfl) ?_
  have hrp : r ≠ p := by rintro rfl; wide_line with hr using hp
  have hp1 : (G.set p (placO r (e + c))) p = some (placO r (e + c)) := GH.set_self _ _ _
  have hr1 : (G.set p (placO r (e + c))) r = some (.list (ps.map vInt)) := by wide_open with GH.set_ne _ _ hrp; exact hr
  walk_at "open_"
  refine attr_ hp1 F.c_Places rfl rfl rfl ?_
  refine attr_ hp1 F.c_Places rfl rfl rfl ?_
  refine sub_list hr1 (pick_int hx) ?_
  refine cmpI_ok rfl ?_
  -- the rest, from the change c2 and the end e2
  have rest : ∀ (c2 e2 : Int) (v0 : Value), c2 ≤ 100000 → (∀ G' r', SubBut p G G' → (r' = r ∨ G r' = none) → G' p = some (placO r' e2) → G' r' = some (.list ((if 0 < c2 then growM ps i x c2.toNat else if c2 < 0 then shrinkM ps i (-c2).toNat else ps).map vInt)) → K .none G') →
      cmpG W (n + 1) .Gt (.int c2 0) (.int 0 0) (G.set p (placO r e2)) fun x G1 => match x with
        | true => keepG W (.ref a_grow) G1 ∧ CallT W (n + 1) (.ref a_grow) [.ref p, .int i 0, .int c2 0] G1 fun v G1 => bodyK K .next [some (.ref p), some (.int i 0), some (.int c2 0)] G1
        | false => cmpG W (n + 1) .Lt (.int c2 0) (.int 0 0) G1 fun x G1 => match x with
          | true => negG (.int c2 0) G1 fun v G2 => keepG W (.ref a_shrink) G2 ∧ CallT W (n + 1) (.ref a_shrink) [.ref p, .int i 0, v] G2 fun v G1 => bodyK K .next [some (.ref p), some (.int i 0), some (.int c2 0)] G1
          | false => bodyK K .next [some (.ref p), some (.int i 0), some (.int c2 0)] G1 := by
    intro c2 e2 v0 hc2 kk
    have hp2 : (G.set p (placO r e2)) p = some (placO r e2) := GH.set_self _ _ _
    have hr2 : (G.set p (placO r e2)) r = some (.list (ps.map vInt)) := by wide_open with GH.set_ne _ _ hrp; exact hr
    have sb : SubBut p G (G.set p (placO r e2)) := fun a g ha hg => by wide_open with GH.set_ne _ _ ha; exact hg
    have fin : ∀ r' o, (G.set p (placO r e2)) r' = none → r' ≠ p → SubBut p G (((G.set p (placO r e2)).set r' o).set p (placO r' e2)) := fun r' o h0 h1 a g ha hg => by
      wide_open with GH.set_ne _ _ ha
      exact sub_set h0 _ _ (sb a g ha hg)
    refine cmp_if (p := 0 < c2) rfl (fun h1 => ?_) (fun h1 => ?_)
    · walk_at "open_"
      rw [if_pos h1] at kk
      obtain ⟨m, rfl⟩ := Int.eq_ofNat_of_zero_le (Int.le_of_lt h1)
      refine ⟨keep_fn F.k_grow, (grow_ F hp2 hr2 hx (m := m) (by lia) hz fun r' h0 h1 => ?_).T⟩
      exact (i_EA _ (fun z9 z9 h => h) (kk _ r' (fin r' _ h0 h1) (.inr (by rwa [GH.set_ne _ _ h1] at h0)) (GH.set_self _ _ _) (by (wide_line using GH.set_ne _ _ h1; wide_open with GH.set_self); rfl)))
    · walk_at "open_"
      rw [if_neg h1] at kk
      refine cmp_if (p := c2 < 0) rfl (fun h2 => ?_) (fun h2 => ?_)
      · walk_at "open_"
        rw [if_pos h2] at kk
        refine neg_ ?_
        obtain ⟨m, hm⟩ := Int.eq_ofNat_of_zero_le (show 0 ≤ -c2 by lia)
        rw [hm] at kk ⊢
        refine ⟨keep_fn F.k_shrink, (shrink_ F hp2 hr2 (m := m) hz fun r' h0 h1 => ?_).T⟩
        exact (i_EA _ (fun z9 z9 h => h) (kk _ r' (fin r' _ h0 h1) (.inr (by rwa [GH.set_ne _ _ h1] at h0)) (GH.set_self _ _ _) (by (wide_line using GH.set_ne _ _ h1; wide_open with GH.set_self); rfl)))
      · walk_at "open_"
        rw [if_neg h2] at kk
        exact (i_EA _ (fun z9 z9 h => h) (kk _ r sb (.inl rfl) hp2 hr2))
  by_cases hlt : e + c < x
  · wide_open with decide_eq_true hlt
    walk_at "open_"
    refine attr_ hp1 F.c_Places rfl rfl rfl ?_
    refine sub_list hr1 (pick_int hx) ?_
    refine add_ok ?_
    refine attr_ hp1 F.c_Places rfl rfl rfl ?_
    refine sub_int_ok ?_
    walk_at "open_"
    refine attr_ hp1 F.c_Places rfl rfl rfl ?_
    refine sub_list hr1 (pick_int hx) ?_
    refine seta_ hp1 F.c_Places rfl (Nat.le_of_ble_eq_true rfl) ?_
    wide_open with GH.set_set
    refine rest (c + x - (e + c)) x .none (by lia) fun G' r' h1 h0 h2 h3 => k G' r' h1 h0 ?_ ?_
    · unfold moveM; simp only [hlt, if_true]; exact h2
    · unfold moveM; simp only [hlt, if_true]; exact h3
  · wide_open with decide_eq_false hlt
    walk_at "open_"
    refine rest c (e + c) .none (by lia) fun G' r' h1 h0 h2 h3 => k G' r' h1 h0 ?_ ?_
    · unfold moveM; simp only [hlt, if_false]; exact h2
    · unfold moveM; simp only [hlt, if_false]; exact h3
structure Sc where
  s : Addr
  b : Addr
  gd : Addr
  ls : Addr
  l : Addr
  st : Addr
  mask : Int
  dp : Int
noncomputable def Sc.o (S : Sc) : GO := sceneO S.b S.gd S.ls S.l S.mask S.dp S.st
noncomputable def After (S : Sc) (p : Addr) (ps : List Int) (e : Int) (i : Nat) (x : Int) (m : Nat) (K : KV) (G : GH) : Prop := ∃ r as r3, G S.s = some S.o ∧ G S.b = some (bufO r) ∧ G r = some (.list (refs as)) ∧ as.length ≤ 5000 ∧ G p = some (placO r3 e) ∧ G r3 = some (.list (ps.map vInt)) ∧
  (let c := (as.length : Int) - m
   if 0 < c ∧ 64 < c + ps.length then K (.bool false) (G.set p (placO r3 (e + c))) else if c = 0 then K (.bool true) G else
    ∀ G' r', SubBut p G G' → (r' = r3 ∨ G r' = none) → G' p = some (placO r' (moveM ps e i x c).2) → G' r' = some (.list ((moveM ps e i x c).1.map vInt)) → K (.bool true) G')
theorem do_action_ (F : Facts W) {S : Sc} {p r r3 at_ ap : Addr} {as lks : List Addr} {ps : List Int} {e num : Int} {i k₀ : Nat} (hs : G S.s = some S.o) (hb : G S.b = some (bufO r)) (hr : G r = some (.list (refs as))) (hlk : G S.ls = some (.list (refs lks)))
    (hst : G S.st = some (.list [.int k₀ 0])) (hp : G p = some (placO r3 e)) (hr3 : G r3 = some (.list (ps.map vInt))) (hat : G at_ = some (.tup [.int i 0, .int num 0])) (hz : ps.length ≤ 100000) (hne3 : r3 ≠ S.st) (hxe : ∀ x ∈ ps, x - e ≤ 10000)
    (k1 : (∀ x, ps[i]? = some x → x < as.length → S.dp < 6 → 0 ≤ num → num < lks.length → k₀ < 256 → False) → K (.bool true) G)
    (k2 : ∀ (x : Int) (nm : Nat) (lk inner : Addr), ps[i]? = some x → x < as.length → S.dp < 6 → num = nm → lks[nm]? = some lk → k₀ < 256 → G inner = none →
      keepG W (.ref ap) ((G.set inner (sceneO S.b S.gd S.ls lk S.mask (S.dp + 1) S.st)).set S.st (.list [.int ((k₀ : Int) + 1) 0])) ∧
      CallT W (n + 4) (.ref ap) [.ref inner, .int x 0] ((G.set inner (sceneO S.b S.gd S.ls lk S.mask (S.dp + 1) S.st)).set S.st (.list [.int ((k₀ : Int) + 1) 0])) fun v G2 => ∃ q : Int, v = .int q 0 ∧ (q < 0 → K (.bool true) G2) ∧ (0 ≤ q → After S p ps e i x as.length K G2)) :
    CallC W (n + 5) (.ref a_do_action) [.ref S.s, .ref p, .ref at_, .ref ap] G K := by
  refine fnC F F.f_do_action rfl rfl fun cd => ?_
  dsimp only [sp_do_action, b_do_action]
  walk_at "open_"
  refine (i_EAA _ (by unfold itemsG; dsimp only; rw [hat]) rfl ?_)
  dsimp only [sPs_cons, sPs_nil]
  walk_at "open_"
  refine attr_ hp F.c_Places rfl rfl rfl ?_
  refine ⟨trivial, len_list_ok hr3 ?_⟩
  refine cmp_if (p := (ps.length : Int) ≤ i) (by wide_open with (show (ps.map vInt).length = ps.length by simp); rfl) (fun h1 => ?_) (fun h1 => ?_)
  · walk_at "open_"
    exact ret_same (k1 fun x hx => by wide_line with List.getElem?_eq_none (by lia) using hx)
  · walk_at "open_"
    obtain ⟨x, hx⟩ : ∃ x, ps[i]? = some x := ⟨_, List.getElem?_eq_getElem (by lia)⟩
    refine attr_ hp F.c_Places rfl rfl rfl ?_
    refine sub_list hr3 (pick_int hx) ?_
    refine attr_ hs F.c_Scene rfl rfl rfl ?_
    refine attr_ hb F.c_Buffer rfl rfl rfl ?_
    refine ⟨trivial, len_list_ok hr ?_⟩
    refine cmp_if (p := (as.length : Int) ≤ x) (by wide_open with refs_length; rfl) (fun h2 => ?_) (fun h2 => ?_)
    · walk_at "open_"
      exact ret_same (k1 fun y hy hlt => by wide_line with hx using hy; lia)
    · walk_at "open_"
      refine ⟨keep_fn F.k_inner_scene, (inner_scene_ F hs hlk (fun hno => ?_) fun nm lk inner hd hnum hlk' hin => ?_).T⟩
      · refine is_none_ok rfl ?_
        exact ret_same (k1 fun y hy hlt hd h0 hl hk => hno (i_AA hd h0 hl))
      · refine is_none_ok rfl ?_
        simp only [isN]
        have s1 := sub_set (o := sceneO S.b S.gd S.ls lk S.mask (S.dp + 1) S.st) hin
        walk_at "open_"
        refine attr_ (s1 _ _ hs) F.c_Scene rfl rfl rfl ?_
        refine sub_list (s1 _ _ hst) rfl ?_
        refine cmp_if (p := (256 : Int) ≤ k₀) rfl (fun h3 => ?_) (fun h3 => ?_)
        · walk_at "open_"
          exact ret_pure s1 (k1 fun y hy hlt hd h0 hl hk => by lia)
        · walk_at "open_"
          refine attr_ (s1 _ _ hs) F.c_Scene rfl rfl rfl ?_
          refine sub_list (s1 _ _ hst) rfl ?_
          refine add_ok ?_
          refine attr_ (s1 _ _ hs) F.c_Scene rfl rfl rfl ?_
          unfold setiG
          dsimp only
          wide_open with s1 _ _ hst
          refine (i_EA _ rfl ?_)
          obtain ⟨hkp, hcall⟩ := k2 x nm lk inner hx (by lia) hd hnum hlk' (by lia) hin
          have hne : ∀ {a : Addr} {g : GO}, G a = some g → (∀ xs, g ≠ .list xs) → ((G.set inner (sceneO S.b S.gd S.ls lk S.mask (S.dp + 1) S.st)).set S.st (.list [.int ((k₀ : Int) + 1) 0])) a = some g := fun {a g} ha hg => by
            wide_open with GH.set_ne _ _ (by rintro rfl; wide_line with hst using ha; exact hg _ rfl)
            exact s1 _ _ ha
          have e0 : List.set [Value.int (k₀ : Int) 0] (Int.toNat 0) (.int ((k₀ : Int) + 1) 0) = [.int ((k₀ : Int) + 1) 0] := rfl
          wide_open with e0
          walk_at "open_"
          refine attr_ (hne hs (fun z9 h => by wide_open using h)) F.c_Scene rfl rfl rfl ?_
          refine attr_ (hne hb (fun z9 h => by wide_open using h)) F.c_Buffer rfl rfl rfl ?_
          have hrst : r ≠ S.st ∨ r = S.st := by by_cases h : r = S.st; exact .inr h; exact .inl h
          have hr' : ((G.set inner (sceneO S.b S.gd S.ls lk S.mask (S.dp + 1) S.st)).set S.st (.list [.int ((k₀ : Int) + 1) 0])) r = some (.list (refs as)) := by
            wide_open with GH.set_ne
            · exact s1 _ _ hr
            · rintro rfl; rw [hr] at hst
              cases as with
              | nil => wide_open using hst
              | cons z zs => wide_open using hst
          have hr3' : ((G.set inner (sceneO S.b S.gd S.ls lk S.mask (S.dp + 1) S.st)).set S.st (.list [.int ((k₀ : Int) + 1) 0])) r3 = some (.list (ps.map vInt)) := by
            wide_open with GH.set_ne _ _ hne3; exact s1 _ _ hr3
          refine ⟨trivial, len_list_ok hr' ?_⟩
          walk_at "open_"
          refine attr_ (hne hp (fun z9 h => by wide_open using h)) F.c_Places rfl rfl rfl ?_
          refine sub_list hr3' (pick_int hx) ?_
          refine ⟨hkp, hcall.mono fun v G2 hv => ?_⟩
          refine o_EAA hv fun q e92 hq1 hq2 => ?_; try clear hv; subst e92
          refine cmp_if (p := q < 0) rfl (fun hq => ?_) (fun hq => ?_)
          · walk_at "open_"
            exact ret_same (hq1 hq)
          · walk_at "open_"
            refine o_EEEAAAAAA (hq2 (by lia)) fun r4 as2 r5 a1 a2 a3 a4 a5 a6 a7 => ?_
            refine attr_ a1 F.c_Scene rfl rfl rfl ?_
            refine attr_ a2 F.c_Buffer rfl rfl rfl ?_
            refine ⟨trivial, len_list_ok a3 ?_⟩
            refine sub_int_ok ?_
            refine cmpI_ok rfl ?_
            (wide_line using refs_length; wide_open with refs_length)
            dsimp only at a7
            by_cases c0 : (0 : Int) < (as2.length : Int) - as.length
            · wide_open with decide_eq_true c0
              walk_at "open_"
              refine attr_ a5 F.c_Places rfl rfl rfl ?_
              refine ⟨trivial, len_list_ok a6 ?_⟩
              refine add_ok ?_
              refine cmp_if (p := 64 < (as2.length : Int) - as.length + ps.length) (by wide_open with (show (ps.map vInt).length = ps.length by simp); rfl) (fun c1 => ?_) (fun c1 => ?_)
              · walk_at "open_"
                rw [if_pos ⟨c0, c1⟩] at a7
                refine attr_ a5 F.c_Places rfl rfl rfl ?_
                refine add_ok ?_
                refine seta_ a5 F.c_Places rfl (Nat.le_of_ble_eq_true rfl) ?_
                exact ret_same a7
              · walk_at "open_"
                rw [if_neg (fun h => c1 h.2), if_neg (by lia)] at a7
                refine cmpI_ok rfl ?_
                wide_open with decide_eq_false (by lia)
                walk_at "open_"
                refine ⟨keep_fn F.k_move, (move_ F a5 a6 hx ⟨by lia, hxe x (List.mem_of_getElem? hx)⟩ hz fun G' r' q1 q0 q2 q3 => ?_).T⟩
                exact ret_same (a7 G' r' q1 q0 q2 q3)
            · wide_open with decide_eq_false c0
              walk_at "open_"
              rw [if_neg (fun h => c0 h.1)] at a7
              refine cmpI_ok rfl ?_
              by_cases c1 : (as2.length : Int) - as.length = 0
              · wide_open with decide_eq_true c1
                walk_at "open_"
                rw [if_pos c1] at a7
                exact ret_same a7
              · wide_open with decide_eq_false c1
                walk_at "open_"
                rw [if_neg c1] at a7
                refine ⟨keep_fn F.k_move, (move_ F a5 a6 hx ⟨by lia, hxe x (List.mem_of_getElem? hx)⟩ hz fun G' r' q1 q0 q2 q3 => ?_).T⟩
                exact ret_same (a7 G' r' q1 q0 q2 q3)
end
section
open PySem PySem.W PySem.Calls PyProof.Rows
variable {W : Wd} {n : Nat} {G : GH} {K : KV} {cs : List Addr}
theorem do_actions_ (F : Facts W) {s p ac ap : Addr} {ats : List Addr} (Inv : Nat → GH → Prop) (h0 : Inv 0 G) (hac : ∀ j G', Inv j G' → G' ac = some (.tup (refs ats)))
    (step : ∀ j at_ G', ats[j]? = some at_ → Inv j G' → CallT W n (.ref a_do_action) [.ref s, .ref p, .ref at_, .ref ap] G' fun v G2 => (v = .bool true ∧ Inv (j + 1) G2) ∨ (v = .bool false ∧ ∃ r e, G2 p = some (placO r e) ∧ K (.int e 0) G2))
    (fin : ∀ G', Inv ats.length G' → ∃ r e, G' p = some (placO r e) ∧ K (.int e 0) G') : CallC W (n + 1) (.ref a_do_actions) [.ref s, .ref p, .ref ac, .ref ap] G K := by
  refine fnC F F.f_do_actions rfl rfl fun cd => ?_
  dsimp only [sp_do_actions, b_do_actions]
  walk_at "open_"
  refine iter_tup (hac 0 G h0) ?_
  refine for_inv (fun ys m G' => ∃ (j : Nat) (x : Option Value), ys = refs (ats.drop j) ∧ m = [some (.ref s), some (.ref p), some (.ref ac), some (.ref ap), x] ∧ j ≤ ats.length ∧ Inv j G') ?_ ?_ ?_ _ _ _ (i_EEAAA 0 none rfl rfl (Nat.zero_le _) h0)
  · intro ys m G' hx9; refine o_EEAAA hx9 fun j x z9 z9 z9 hi => ?_; try clear hx9; exact hac _ _ hi
  · intro m G' hx9; refine o_EEAAA hx9 fun j x e e94 hj hi => ?_; try clear hx9; subst e94
    have : ats.drop j = [] := by simpa [refs] using e.symm
    have hl : ats.length ≤ j := List.drop_eq_nil_iff.mp this
    obtain rfl : j = ats.length := by lia
    walk_at "open_"
    refine o_EEA (fin _ hi) fun r e h1 h2 => ?_
    refine attr_ h1 F.c_Places rfl rfl rfl ?_
    exact ret_same h2
  · intro y ys m G' Kn nxt nxc nxr hx9; refine o_EEAAA hx9 fun j x e e94 hj hi => ?_; try clear hx9; subst e94
    have hlt : j < ats.length := by
      rcases Nat.lt_or_ge j ats.length with h | h
      · exact h
      · wide_line with List.drop_eq_nil_of_le h using e
    rw [List.drop_eq_getElem_cons hlt] at e
    simp only [refs, List.map_cons, List.cons.injEq] at e
    obtain ⟨rfl, rfl⟩ := e
    walk_at "open_"
    refine ⟨keep_fn F.k_do_action, (step j _ G' (List.getElem?_eq_getElem hlt) hi).mono fun v G2 hv => ?_⟩
    rcases hv with ⟨rfl, hi2⟩ | ⟨rfl, r, e, h1, h2⟩
    · dsimp only [truthG_b, bnot_true]
      exact nxt _ _ (i_EEAAA (j + 1) _ rfl rfl hlt hi2)
    · dsimp only [truthG_b, bnot_false]
      refine attr_ h1 F.c_Places rfl rfl rfl ?_
      walk_at "open_"
      exact nxr _ _ _ (ret_same h2)
noncomputable def HangR (st : List Addr) (I : Addr → Inf) (G0 G1 : GH) : Prop := (∀ a g, a ∉ st → G0 a = some g → G1 a = some g) ∧
  ((st.length < 2 ∧ ∀ a ∈ st, G1 a = some (infoO (I a))) ∨ (2 ≤ st.length ∧ ∃ M, (∃ a ∈ st, (I a).cluster = M) ∧ (∀ a ∈ st, M ≤ (I a).cluster) ∧ ∀ a ∈ st, G1 a = some (infoO (hangI st M I a))))
theorem apply_context3_ (F : Facts W) {S : Sc} {tb ru b i' a' sets rl ac ap a : Addr} {ch : Bool} {cv cl : Value} {ep i k₀ : Nat} {V : View} {bs is as : List (Int → Bool)} {f : Int → Bool} {ps : List Int} {bb ee : Int} {G0 : GH}
    (hsG : G S.s = some S.o) (hstG : G S.st = some (.list [.int k₀ 0])) (hG0 : G0 = if S.dp = 0 then G.set S.st (.list [.int 0 0]) else G)
    (hsc : SceneAt G0 S.s V) (hs0 : G0 S.s = some S.o) (ht : G0 tb = some (ctxO 3 ch sets cv cl)) (hs : G0 sets = some (.dict [(0, .ref rl)] ep)) (hrl : G0 rl = some (.list [.ref ru]))
    (hr : G0 ru = some (ruleO b i' a' (.ref ac))) (hb : CovRow G0 b bs) (hi : CovRow G0 i' (f :: is)) (ha : CovRow G0 a' as) (hat : V.as[i]? = some a) (hz : V.as.length ≤ 1000)
    (hm : matchM V i a bs f is as = some (ps, bb, ee))
    (k : ∀ G1 p r (h : ps ≠ []), HangR (cutA V.as bb.toNat (ee.toNat + 1)) V.I G0 G1 → G0 p = none → G0 r = none → p ≠ r → G1 p = some (placO r (ps.getLast h + 1)) → G1 r = some (.list (ps.map vInt)) →
      CallT W (n + 9) (.ref a_do_actions) [.ref S.s, .ref p, .ref ac, .ref ap] G1 K) :
    CallC W (n + 10) (.ref a_apply_context) [.ref S.s, .ref tb, .int i 0, .ref ap] G K := by
  refine fnC F F.f_apply_context rfl rfl fun cd => ?_
  dsimp only [sp_apply_context, b_apply_context]
  walk_at "open_"
  refine attr_ hsG F.c_Scene rfl rfl rfl ?_
  refine cmpI_ok rfl ?_
  obtain ⟨b0, gd, ls, l, dp, st, kd, ms, q1, q2, q3, q4, q5⟩ := id hsc
  rw [hs0] at q1
  have eb : S.b = b0 := by unfold Sc.o sceneO at q1; simp at q1; exact q1.1
  subst eb
  -- behind the reset
  have main : forG (fun z9 => True) (fun z9 m G k => True) [] [] G0 (fun z9 z9 z9 => True) → True := fun z9 => trivial
  clear main
  have fg : f (V.I a).glyph = true := by
    unfold matchM at hm
    split at hm
    · assumption
    · wide_open using hm
  have hbe : (0 ≤ bb ∧ bb < V.as.length) ∧ (0 ≤ ee ∧ ee < V.as.length) ∧ ps ≠ [] := by
    have hil : i < V.as.length := (List.getElem?_eq_some_iff.mp hat).1
    unfold matchM at hm
    rw [if_pos fg] at hm
    refine o_EA (Option.bind_eq_some_iff.mp hm) fun qs h1 hm => ?_
    refine o_EA (Option.bind_eq_some_iff.mp hm) fun b1 h2 hm => ?_
    refine o_EA (Option.map_eq_some_iff.mp hm) fun e1 h3 hm => ?_
    wide_open using hm
    refine (i_AA (walk_range (fun f a hn => srch_lt hn) ⟨Int.natCast_nonneg i, by lia⟩ h2) (walk_range (fun f a hn => srch_lt hn) ?_ h3) (by simp))
    have hmem := List.getLast_mem (l := (i : Int) :: qs) (by simp)
    rcases List.mem_cons.mp hmem with e | hmem
    · wide_open with e; lia
    · exact places_range (fun f a hn => srch_lt hn) h1 _ hmem
  refine o_AA hbe fun n91 n92 hne => ?_; try clear hbe; obtain ⟨hb0, hb1⟩ := n91; obtain ⟨he0, he1⟩ := n92
  refine o_EA q2.ex fun r0 r1 r2 => ?_
  have go : wpSs W (n + 9) cd [] [] (b_apply_context.drop 1) [some (.ref S.s), some (.ref tb), some (.int i 0), some (.ref ap), none, none] G0 (bodyK K) := by
    dsimp only [b_apply_context, ndropS, ndrop0]
    walk_at "open_"
    refine attr_ hs0 F.c_Scene rfl rfl rfl ?_
    refine attr_ r1 F.c_Buffer rfl rfl rfl ?_
    refine sub_list r2 (pick_ref hat) ?_
    refine attr_ (q2.info a (List.mem_of_getElem? hat)) F.c_Info rfl rfl rfl ?_
    refine ⟨keep_fn F.k_rules_at, (rules_at3_ F rfl ht hs hrl hr hb hi ha (fun z9 l tu bl il al Gx p1 p2 p3 p4 p5 p6 => ?_) (fun hfalse => by wide_line with fg using hfalse)).T⟩
    refine iter_list p2 ⟨p2, ?_⟩
    walk_at "open_"
    refine ⟨keep_fn F.k_match_rule, (match_rule_ F (hsc.sub p1) hat p3 p4 p5 p6 (fun hno => by wide_line with hm using hno) fun ps' b' e' hm' pl tp Gy w1 w2 w3 w4 w5 w6 => ?_).T⟩
    rw [hm] at hm'
    wide_open using hm'
    refine isNot_none_ok rfl ?_
    simp only [isN, Bool.not_false]
    have s2 := p1.trans w1
    walk_at "open_"
    refine attr_ (s2 _ _ hs0) F.c_Scene rfl rfl rfl ?_
    refine sub_tup w6 rfl ?_
    refine sub_tup w6 rfl ?_
    refine add_ok ?_
    obtain ⟨b1, rfl⟩ := Int.eq_ofNat_of_zero_le hb0
    obtain ⟨e1, rfl⟩ := Int.eq_ofNat_of_zero_le he0
    wide_open with (show ((e1 : Int) + 1) = ((e1 + 1 : Nat) : Int) by push_cast; rfl)
    simp only [Int.toNat_natCast] at k
    have tailp : ∀ Gh : GH, (∀ a g, a ∉ cutA V.as b1 (e1 + 1) → Gy a = some g → Gh a = some g) → HangR (cutA V.as b1 (e1 + 1)) V.I G0 Gh →
        wpSs W (n + 9) cd [] [] [.ret (.call (.val (.ref a_do_actions)) [(.var (.loc 0)), (.call (.val (.ref a_Places)) [(.sub (.var (.loc 5)) (.val (.int (0) 0))), (.bin .Add (.sub (.sub (.var (.loc 5)) (.val (.int (0) 0))) (.neg (.val (.int (1) 0)))) (.val (.int (1) 0)))]), (.sub (.var (.loc 4)) (.val (.int (3) 0))), (.var (.loc 3))])]
          [some (.ref S.s), some (.ref tb), some (.int i 0), some (.ref ap), some (.ref tu), some (.ref tp)] Gh (bodyK K) := by
      intro Gh g1 hR
      walk_at "open_"
      have notst : ∀ {x : Addr} {g : GO}, Gy x = some g → (∀ d, g ≠ infoO d) → x ∉ cutA V.as b1 (e1 + 1) := fun {x g} hx hg hmem => by
        have := s2 _ _ (q2.info x (List.mem_of_mem_take (List.mem_of_mem_drop hmem)))
        wide_line with hx using this; exact hg _ rfl
      have gtp := g1 _ _ (notst w6 fun d => by unfold infoO; intro h; wide_open using h) w6
      have gpl := g1 _ _ (notst w5 fun d => by unfold infoO; intro h; wide_open using h) w5
      have htu := w1 _ _ p3
      have gtu := g1 _ _ (notst htu fun d => by unfold infoO; intro h; wide_open using h) htu
      refine sub_tup gtp rfl ?_
      refine sub_tup gtp rfl ?_
      refine neg_ ?_
      obtain ⟨q, qs, rfl⟩ : ∃ q qs, ps = q :: qs := by
        cases ps with
        | nil => exact absurd rfl hne
        | cons q qs => exact (i_EE q qs rfl)
      refine sub_list gpl (lastI (h := hne)) ?_
      refine add_ok ?_
      refine ⟨keep_fn F.k_Places, (new_Places F ?_).T⟩
      intro p hp
      have sp := sub_set (o := .inst a_Places [(16, .ref pl), (42, .int ((q :: qs).getLast hne + 1) 0)]) hp
      refine sub_tup (sp _ _ gtu) rfl ?_
      have hp0 : G0 p = none := by
        cases hq : G0 p with
        | none => rfl
        | some g =>
          by_cases hmem : p ∈ cutA V.as b1 (e1 + 1)
          · rcases hR.2 with ⟨_, h⟩ | ⟨_, M, _, _, h⟩
            · wide_line with h p hmem using hp
            · wide_line with h p hmem using hp
          · wide_line with hR.1 p g hmem hq using hp
      have hpp : p ≠ pl := by rintro rfl; wide_line with gpl using hp
      refine ⟨keep_fn F.k_do_actions, (k _ p pl hne ⟨fun x g hx hg => sp _ _ (hR.1 x g hx hg), ?_⟩ hp0 (none_of_sub p1 w2) hpp (GH.set_self _ _ _) (sp _ _ gpl)).mono fun v G' kv => ret_same kv⟩
      rcases hR.2 with ⟨h1, h2⟩ | ⟨h1, M, h2, h3, h4⟩
      · exact .inl ⟨h1, fun x hx => sp _ _ (h2 x hx)⟩
      · exact .inr (i_AEAA h1 M h2 h3 (fun x hx => sp _ _ (h4 x hx)))
    have qR := q2.sub s2
    refine ⟨keep_fn F.k_hang, (hang_ F qR (fun hlt => ?_) (fun M h2 h3 h4 => ?_) hz).T⟩
    · exact tailp _ (fun z9 z9 z9 h => h) ⟨fun x g z9 h => s2 _ _ h, .inl ⟨hlt, fun x hx => qR.info x (List.mem_of_mem_take (List.mem_of_mem_drop hx))⟩⟩
    · refine tailp _ (fun x g hx h => ?_) ⟨fun x g hx h => ?_, .inr (i_AEAA h2 M h3 h4 (fun x hx => ?_))⟩
      · unfold hangH; wide_open with if_neg hx; exact h
      · unfold hangH; wide_open with if_neg hx; exact s2 _ _ h
      · unfold hangH; wide_open with if_pos hx
  by_cases hd : S.dp = 0
  · wide_open with decide_eq_true hd
    walk_at "open_"
    rw [if_pos hd] at hG0
    refine attr_ hsG F.c_Scene rfl rfl rfl ?_
    unfold setiG
    dsimp only
    wide_open with hstG
    refine (i_EA _ rfl ?_)
    subst hG0
    exact go
  · wide_open with decide_eq_false hd
    rw [if_neg hd] at hG0
    subst hG0
    exact go
end
section
open PySem PySem.W PySem.Calls PyProof.Rows
noncomputable def a__law_edit : Addr := 575
noncomputable def a__law_done : Addr := 580
noncomputable def a__law_deep_right : Addr := 585
noncomputable def a_law : Addr := 590
noncomputable def defIn (x : Str) : List Stmt → Option Stmt
  | [] => none
  | st :: r => match st with
    | .FunctionDef name _ _ _ _ _ _ _ _ _ => if name == x then some st else defIn x r
    | _ => defIn x r
noncomputable def fName : Stmt → Str
  | .FunctionDef x _ _ _ _ _ _ _ _ _ => x
  | _ => default
noncomputable def fArgs : Stmt → Arguments
  | .FunctionDef _ x _ _ _ _ _ _ _ _ => x
  | _ => ⟨[], [], none, [], [], none, []⟩
noncomputable def fBody : Stmt → List Stmt
  | .FunctionDef _ _ x _ _ _ _ _ _ _ => x
  | _ => []
noncomputable def fScope : Stmt → Scope
  | .FunctionDef _ _ _ _ _ _ x _ _ _ => x
  | _ => { kind := .function, names := [], isGenerator := false, isCoroutine := false }
noncomputable def fPos : Stmt → Pos
  | .FunctionDef _ _ _ _ _ _ _ _ _ x => x
  | _ => default
noncomputable def st_deep : Stmt := ((defIn "_law_deep_right" PySem.Challenge.pw_nu0235_01.main.body).bind fun s => defIn "apply_at" (fBody s)).getD (.Pass default)
noncomputable def st_law : Stmt := ((defIn "law" PySem.Challenge.pw_nu0235_01.main.body).bind fun s => defIn "apply_at" (fBody s)).getD (.Pass default)
noncomputable def b__law_edit : List CS := [
  .set (.one (.loc 1)) (.comp (.call (.val (.ref a_Info)) [(.val (.int (0) 0)), (.val (.int (90) 0)), (.attr (.sub (.var (.cel 1)) (.var (.cel 0))) 2)]) (.one (.loc 1)) (.call (.val (.type "range")) [(.ite (.cmp .Eq (.var (.loc 0)) (.val (.int (5) 0))) (.val (.int (63) 0)) (.var (.loc 0)))]) .tt 2 [1, 0]),
  .ite (.cmp .Eq (.var (.loc 0)) (.val (.int (0) 0))) [
    .ret (.bin .Add (.bin .Add (.slice (.var (.cel 0)) (.val .none) (.var (.cel 1)) (.val .none)) (.list [(.call (.val (.ref a_Info)) [(.val (.int (0) 0)), (.val (.int (91) 0)), (.attr (.sub (.var (.cel 0)) (.var (.cel 1))) 2)])])) (.slice (.var (.cel 0)) (.bin .Add (.var (.cel 1)) (.val (.int (1) 0))) (.val .none) (.val .none)))] [],
  .ite (.cmp .In (.var (.loc 0)) (.tup [(.val (.int (1) 0)), (.val (.int (2) 0)), (.val (.int (5) 0))])) [
    .ret (.bin .Add (.bin .Add (.slice (.var (.cel 0)) (.val .none) (.bin .Add (.var (.cel 1)) (.val (.int (1) 0))) (.val .none)) (.var (.loc 1))) (.slice (.var (.cel 0)) (.bin .Add (.var (.cel 1)) (.val (.int (1) 0))) (.val .none) (.val .none)))] [],
  .ite (.cmp .In (.var (.loc 0)) (.tup [(.val (.int (3) 0)), (.val (.int (4) 0))])) [
    .ret (.bin .Add (.slice (.var (.cel 0)) (.val .none) (.bin .Add (.var (.cel 1)) (.val (.int (1) 0))) (.val .none)) (.slice (.var (.cel 0)) (.bin .Sub (.bin .Add (.bin .Add (.var (.cel 1)) (.val (.int (1) 0))) (.var (.loc 0))) (.val (.int (2) 0))) (.val .none) (.val .none)))] [],
  .ite (.cmp .Eq (.var (.loc 0)) (.val (.int (6) 0))) [
    .ret (.bin .Add (.slice (.var (.cel 0)) (.val .none) (.var (.cel 1)) (.val .none)) (.slice (.var (.cel 0)) (.bin .Add (.var (.cel 1)) (.val (.int (1) 0))) (.val .none) (.val .none)))] [],
  .ret (.var (.cel 0))]
noncomputable def sp__law_edit : FnSpec := ⟨["row", "at", "number"], ["number", "fresh"], ["row", "at"], [some 2, none], [some 0, some 1], b__law_edit⟩
noncomputable def b__law_done : List CS := [
  .set (.one (.loc 5)) (.list []),
  .set (.one (.loc 6)) (.call (.val (.type "list")) [(.var (.loc 1))]),
  .set (.one (.loc 7)) (.var (.loc 2)),
  .for (.many [(.loc 8), (.loc 9)]) (.var (.loc 3)) [
    .ite (.or (.cmp .GtE (.var (.loc 8)) (.call (.val (.builtin "len")) [(.var (.loc 6))])) (.or (.cmp .GtE (.sub (.var (.loc 6)) (.var (.loc 8))) (.call (.val (.builtin "len")) [(.var (.loc 0))])) (.or (.cmp .Gt (.var (.loc 9)) (.val (.int (7) 0))) (.cmp .Eq (.var (.loc 4)) (.val (.int (6) 0)))))) [
      .cont] [],
    .expr (.meth (.var (.loc 5)) 43 [(.tup [(.var (.loc 9)), (.sub (.var (.loc 6)) (.var (.loc 8))), (.bin .Add (.var (.loc 4)) (.val (.int (1) 0)))])]),
    .ite (.cmp .Eq (.var (.loc 9)) (.val (.int (7) 0))) [
      .cont] [],
    .set (.one (.loc 10)) (.call (.val (.ref a__law_edit)) [(.var (.loc 0)), (.sub (.var (.loc 6)) (.var (.loc 8))), (.var (.loc 9))]),
    .set (.many [(.cel 0), (.cel 1)]) (.tup [(.call (.val (.builtin "len")) [(.var (.loc 10))]), (.call (.val (.builtin "len")) [(.var (.loc 0))])]),
    .ite (.and (.cmp .Gt (.bin .Add (.bin .Sub (.var (.cel 0)) (.var (.cel 1))) (.call (.val (.builtin "len")) [(.var (.loc 6))])) (.val (.int (64) 0))) (.cmp .Gt (.var (.cel 0)) (.var (.cel 1)))) [
      .ret (.tup [(.var (.loc 10)), (.bin .Sub (.bin .Add (.var (.loc 7)) (.var (.cel 0))) (.var (.cel 1))), (.var (.loc 5))])] [],
    .set (.one (.cel 2)) (.sub (.var (.loc 6)) (.var (.loc 8))),
    .set (.one (.loc 11)) (.comp (.bin .Sub (.var (.cel 0)) (.var (.loc 1))) (.one (.loc 1)) (.slice (.var (.loc 6)) (.bin .Add (.var (.loc 8)) (.val (.int (1) 0))) (.val .none) (.val .none)) .tt 2 [1]),
    .ite (.cmp .Gt (.var (.cel 0)) (.var (.cel 1))) [
      .set (.one (.loc 6)) (.bin .Add (.bin .Add (.slice (.var (.loc 6)) (.val .none) (.bin .Add (.var (.loc 8)) (.val (.int (1) 0))) (.val .none)) (.comp (.bin .Add (.bin .Add (.var (.cel 0)) (.val (.int (1) 0))) (.var (.loc 1))) (.one (.loc 1)) (.call (.val (.type "range")) [(.bin .Sub (.var (.cel 0)) (.var (.cel 1)))]) .tt 2 [2])) (.comp (.bin .Sub (.var (.cel 0)) (.var (.loc 1))) (.one (.loc 1)) (.var (.loc 11)) .tt 2 [0]))] [
      .ite (.cmp .LtE (.bin .Sub (.var (.loc 7)) (.var (.cel 2))) (.bin .Sub (.var (.cel 1)) (.var (.cel 0)))) [
        .set (.one (.loc 6)) (.bin .Add (.slice (.var (.loc 6)) (.val .none) (.bin .Add (.var (.loc 8)) (.val (.int (1) 0))) (.val .none)) (.comp (.bin .Sub (.var (.cel 0)) (.var (.loc 1))) (.one (.loc 1)) (.slice (.var (.loc 11)) (.bin .Sub (.var (.loc 7)) (.var (.cel 2))) (.val .none) (.val .none)) .tt 2 [0]))] [
        .set (.one (.loc 6)) (.bin .Add (.slice (.var (.loc 6)) (.val .none) (.bin .Add (.var (.loc 8)) (.val (.int (1) 0))) (.val .none)) (.comp (.bin .Sub (.var (.cel 0)) (.var (.loc 1))) (.one (.loc 1)) (.slice (.var (.loc 11)) (.bin .Sub (.var (.cel 1)) (.var (.cel 0))) (.val .none) (.val .none)) .tt 2 [0]))]],
    .set (.one (.loc 7)) (.call (.val (.builtin "max")) [(.bin .Sub (.var (.cel 0)) (.bin .Sub (.var (.cel 1)) (.var (.loc 7)))), (.var (.cel 2))]),
    .set (.one (.loc 0)) (.var (.loc 10))],
  .ret (.tup [(.var (.loc 0)), (.var (.loc 7)), (.var (.loc 5))])]
noncomputable def sp__law_done : FnSpec := ⟨["row", "places", "end", "actions", "depth"], ["row", "places", "end", "actions", "depth", "log", "rest", "last", "index", "number", "later", "ends"], ["size", "old", "spot"], [some 0, some 1, some 2, some 3, some 4, none, none, none, none, none, none, none], [none, none, none], b__law_done⟩
noncomputable def b__law_deep_right : List CS := [
  .set (.one (.cel 0)) (.sub (.tup [(.val (.int (1) 0)), (.val (.int (2) 0)), (.val (.int (1) 0)), (.val (.int (2) 0)), (.val (.int (1) 0)), (.val (.int (2) 0)), (.val (.int (1) 0)), (.val (.int (3) 0))]) (.call (.val (.ref a__law_take)) [(.var (.loc 0)), (.val (.int (8) 0))])),
  .set (.one (.cel 1)) (.call (.val (.ref a__law_take)) [(.var (.loc 0)), (.val (.int (7) 0))]),
  .set (.one (.loc 1)) (.call (.val (.ref a_Buffer)) [(.list [(.call (.val (.ref a_Info)) [(.val (.int (0) 0)), (.val (.int (1) 0)), (.val (.int (0) 0))])])]),
  .seta (.sub (.attr (.var (.loc 1)) 16) (.val (.int (0) 0))) 3 (.val (.int (1) 0)),
  .set (.one (.cel 4)) (.call (.val (.ref a_Contexts)) [(.val (.int (3) 0)), (.val (.bool true)), (.dict [0] [(.list [(.call (.val (.ref a_Rule)) [(.tup []), (.tup [(.call (.val (.ref a_coverage_of)) [(.list [(.val (.int (1) 0))])])]), (.tup []), (.bin .Mult (.tup [(.tup [(.val (.int (0) 0)), (.val (.int (0) 0))])]) (.var (.cel 0)))])])])]),
  .set (.one (.loc 2)) (.call (.val (.ref a_Lookup)) [(.val (.str "chain" 0)), (.val (.int (0) 0)), (.val (.int (0) 0)), (.list [(.var (.cel 4))])]),
  .set (.one (.loc 3)) (.call (.val (.ref a_Scene)) [(.var (.loc 1)), (.call (.val (.ref a_Gdef)) [(.call (.val (.ref a_ClassDef)) [(.dict [] [])]), (.call (.val (.ref a_ClassDef)) [(.dict [] [])]), (.list [])]), (.list [(.var (.loc 2))]), (.var (.loc 2)), (.val (.int (1) 0)), (.var (.cel 1))]),
  .set (.one (.cel 3)) (.list []),
  .fdef (.cel 2) st_deep,
  .set (.one (.loc 4)) (.call (.val (.builtin "min")) [(.val (.int (256) 0)), (.call (.val (.builtin "sum")) [(.comp (.bin .Pow (.var (.cel 0)) (.var (.loc 1))) (.one (.loc 1)) (.call (.val (.type "range")) [(.val (.int (1) 0)), (.bin .Sub (.val (.int (7) 0)) (.var (.cel 1)))]) .tt 2 [0])])]),
  .ite (.or (.cmp .NotEq (.call (.val (.ref a_apply_context)) [(.var (.loc 3)), (.var (.cel 4)), (.val (.int (0) 0)), (.var (.cel 2))]) (.val (.int (1) 0))) (.or (.cmp .NotEq (.call (.val (.builtin "len")) [(.var (.cel 3))]) (.var (.loc 4))) (.cmp .Gt (.call (.val (.builtin "len")) [(.comp (.var (.loc 1)) (.one (.loc 1)) (.var (.cel 3)) (.cmp .Eq (.var (.loc 1)) (.bin .Add (.var (.cel 0)) (.val (.int (1) 0)))) 2 [1])]) (.var (.cel 0))))) [
    .ret (.val (.bool false))] [],
  .ite (.and (.cmp .Eq (.var (.cel 1)) (.val (.int (0) 0))) (.cmp .Lt (.var (.cel 0)) (.val (.int (3) 0)))) [
    .ret (.and (.ofB (.cmp .Eq (.call (.val (.ref a_apply_context)) [(.var (.loc 3)), (.var (.cel 4)), (.val (.int (0) 0)), (.var (.cel 2))]) (.val (.int (1) 0)))) (.ofB (.cmp .Eq (.call (.val (.builtin "len")) [(.var (.cel 3))]) (.bin .Mult (.val (.int (2) 0)) (.var (.loc 4))))))] [],
  .ret (.val (.bool true))]
noncomputable def sp__law_deep_right : FnSpec := ⟨["pool"], ["pool", "rows", "lookup", "scene", "due"], ["many", "depth", "apply_at", "log", "table"], [some 0, none, none, none, none], [none, none, none, none, none], b__law_deep_right⟩
noncomputable def b__law_deep_right_apply_at : List CS := [
  .expr (.meth (.var (.cel 1)) 43 [(.attr (.var (.loc 0)) 40)]),
  .ret (.call (.val (.ref a_apply_context)) [(.var (.loc 0)), (.var (.cel 2)), (.var (.loc 1)), (.var (.cel 0))])]
noncomputable def sp__law_deep_right_apply_at : FnSpec := ⟨["inner", "at"], ["inner", "at"], ["apply_at", "log", "table"], [some 0, some 1], [none, none, none], b__law_deep_right_apply_at⟩
noncomputable def b_law : List CS := [
  .set (.one (.cel 0)) (.comp (.bin .Mod (.call (.val (.builtin "abs")) [(.var (.loc 1))]) (.bin .Pow (.val (.int (10) 0)) (.val (.int (80) 0)))) (.one (.loc 1)) (.slice (.var (.loc 0)) (.val .none) (.val (.int (24) 0)) (.val .none)) .tt 2 []),
  .set (.one (.loc 2)) (.comp (.tup [(.call (.val (.ref a__law_take)) [(.var (.cel 0)), (.val (.int (5) 0))]), (.call (.val (.ref a__law_take)) [(.var (.cel 0)), (.val (.int (9) 0))])]) (.one (.loc 1)) (.call (.val (.type "range")) [(.call (.val (.ref a__law_take)) [(.var (.cel 0)), (.val (.int (6) 0))])]) .tt 2 [0]),
  .set (.one (.loc 3)) (.call (.val (.ref a__law_take)) [(.var (.cel 0)), (.val (.int (3) 0))]),
  .set (.one (.loc 4)) (.bin .Add (.val (.int (1) 0)) (.call (.val (.ref a__law_take)) [(.var (.cel 0)), (.val (.int (4) 0))])),
  .set (.one (.loc 5)) (.call (.val (.ref a__law_take)) [(.var (.cel 0)), (.val (.int (3) 0))]),
  .set (.one (.loc 6)) (.call (.val (.ref a__law_take)) [(.var (.cel 0)), (.val (.int (3) 0))]),
  .set (.one (.loc 7)) (.bin .Add (.val (.int (4) 0)) (.call (.val (.ref a__law_take)) [(.var (.cel 0)), (.val (.int (3) 0))])),
  .set (.one (.loc 8)) (.call (.val (.ref a_coverage_of)) [(.list [(.val (.int (1) 0)), (.val (.int (90) 0))])]),
  .set (.one (.loc 9)) (.list []),
  .set (.one (.cel 1)) (.list []),
  .for (.one (.loc 1)) (.call (.val (.type "range")) [(.bin .Add (.bin .Add (.bin .Add (.var (.loc 3)) (.var (.loc 4))) (.var (.loc 5))) (.var (.loc 6)))]) [
    .ite (.and (.cmp2 .Lt .Lt (.val (.int (0) 0)) (.var (.loc 1)) (.bin .Add (.bin .Add (.var (.loc 3)) (.var (.loc 4))) (.var (.loc 5)))) (.cmp .Eq (.call (.val (.ref a__law_take)) [(.var (.cel 0)), (.val (.int (3) 0))]) (.val (.int (1) 0)))) [
      .expr (.meth (.var (.loc 9)) 43 [(.call (.val (.ref a_Info)) [(.val (.int (0) 0)), (.val (.int (2) 0)), (.call (.val (.builtin "len")) [(.var (.loc 9))])])]),
      .seta (.sub (.var (.loc 9)) (.neg (.val (.int (1) 0)))) 9 (.val (.str "zwj" 0))] [],
    .expr (.meth (.var (.cel 1)) 43 [(.call (.val (.builtin "len")) [(.var (.loc 9))])]),
    .expr (.meth (.var (.loc 9)) 43 [(.call (.val (.ref a_Info)) [(.val (.int (0) 0)), (.val (.int (1) 0)), (.call (.val (.builtin "len")) [(.var (.loc 9))])])])],
  .set (.one (.cel 1)) (.slice (.var (.cel 1)) (.val .none) (.bin .Add (.bin .Add (.var (.loc 3)) (.var (.loc 4))) (.var (.loc 5))) (.val .none)),
  .set (.one (.cel 3)) (.call (.val (.ref a_Buffer)) [(.var (.loc 9))]),
  .for (.one (.loc 10)) (.attr (.var (.cel 3)) 16) [
    .seta (.var (.loc 10)) 3 (.val (.int (1) 0))],
  .set (.one (.loc 11)) (.call (.val (.type "tuple")) [(.comp (.tup [(.var (.loc 1)), (.var (.loc 2))]) (.many [(.loc 1), (.loc 2)]) (.var (.loc 2)) .tt 3 [])]),
  .set (.one (.loc 12)) (.call (.val (.ref a_Rule)) [(.bin .Mult (.tup [(.var (.loc 8))]) (.var (.loc 3))), (.bin .Mult (.tup [(.var (.loc 8))]) (.var (.loc 4))), (.bin .Mult (.tup [(.var (.loc 8))]) (.var (.loc 5))), (.var (.loc 11))]),
  .set (.one (.loc 13)) (.call (.val (.ref a_Contexts)) [(.val (.int (3) 0)), (.val (.bool true)), (.dict [0] [(.list [(.var (.loc 12))])])]),
  .set (.one (.loc 14)) (.comp (.call (.val (.ref a_Lookup)) [(.val (.str "single" 0)), (.val (.int (0) 0)), (.var (.loc 1)), (.list [])]) (.one (.loc 1)) (.call (.val (.type "range")) [(.val (.int (8) 0))]) .tt 2 []),
  .set (.one (.loc 15)) (.call (.val (.ref a_Gdef)) [(.call (.val (.ref a_ClassDef)) [(.dict [] [])]), (.call (.val (.ref a_ClassDef)) [(.dict [] [])]), (.list [])]),
  .set (.one (.loc 16)) (.call (.val (.ref a_Scene)) [(.var (.cel 3)), (.var (.loc 15)), (.var (.loc 14)), (.call (.val (.ref a_Lookup)) [(.val (.str "chain" 0)), (.val (.int (0) 0)), (.val (.int (0) 0)), (.list [(.var (.loc 13))])]), (.val (.int (1) 0)), (.var (.loc 7))]),
  .set (.one (.loc 17)) (.call (.val (.type "list")) [(.attr (.var (.cel 3)) 16)]),
  .set (.one (.cel 2)) (.list []),
  .fdef (.loc 18) st_law,
  .set (.one (.loc 19)) (.call (.val (.ref a_apply_context)) [(.var (.loc 16)), (.var (.loc 13)), (.sub (.var (.cel 1)) (.var (.loc 3))), (.var (.loc 18))]),
  .set (.one (.loc 20)) (.slice (.var (.cel 1)) (.var (.loc 3)) (.bin .Add (.var (.loc 3)) (.var (.loc 4))) (.val .none)),
  .set (.many [(.loc 21), (.loc 22), (.loc 23)]) (.call (.val (.ref a__law_done)) [(.var (.loc 17)), (.var (.loc 20)), (.bin .Add (.sub (.var (.loc 20)) (.neg (.val (.int (1) 0)))) (.val (.int (1) 0))), (.var (.loc 11)), (.var (.loc 7))]),
  .ite (.or (.cmp .NotEq (.var (.loc 19)) (.var (.loc 22))) (.or (.cmp .NotEq (.var (.cel 2)) (.var (.loc 23))) (.cmp .NotEq (.meth (.var (.cel 3)) 20 []) (.comp (.attr (.var (.loc 1)) 1) (.one (.loc 1)) (.var (.loc 21)) .tt 2 [])))) [
    .ret (.val (.bool false))] [],
  .set (.one (.loc 24)) (.comp (.attr (.var (.loc 1)) 4) (.one (.loc 1)) (.var (.loc 17)) .tt 2 []),
  .ret (.and (.call (.val (.ref a__law_deep_right)) [(.var (.cel 0))]) (.ofB (.cmp .Eq (.var (.loc 24)) (.comp (.ofB (.cmp2 .Lt .LtE (.sub (.var (.cel 0)) (.val (.int (0) 0))) (.var (.loc 1)) (.sub (.var (.cel 0)) (.neg (.val (.int (1) 0)))))) (.one (.loc 1)) (.call (.val (.type "range")) [(.call (.val (.builtin "len")) [(.var (.loc 17))])]) .tt 2 [1]))))]
noncomputable def sp_law : FnSpec := ⟨["script"], ["script", "turn", "ways", "back", "inside", "ahead", "more", "depth", "every", "infos", "info", "actions", "rule", "table", "lookups", "gdef", "scene", "before", "apply_at", "answer", "places", "due_row", "due", "due_log", "unsafe"], ["pool", "spots", "log", "rows"], [some 0, none, none, none, none, none, none, none, none, none, none, none, none, none, none, none, none, none, none, none, none, none, none, none, none], [none, none, none, none], b_law⟩
noncomputable def b_law_apply_at : List CS := [
  .set (.one (.loc 2)) (.attr (.attr (.var (.loc 0)) 39) 34),
  .expr (.meth (.var (.cel 0)) 43 [(.tup [(.var (.loc 2)), (.var (.loc 1)), (.attr (.var (.loc 0)) 40)])]),
  .ite (.or (.cmp .NotEq (.attr (.var (.loc 0)) 3) (.val (.int (1) 0))) (.or (.cmp .NotEq (.attr (.attr (.var (.loc 0)) 39) 9) (.val (.str "single" 0))) (.or (.cmp .NotEq (.call (.val (.builtin "len")) [(.attr (.var (.loc 0)) 38)]) (.val (.int (8) 0))) (.cmp .NotEq (.call (.val (.builtin "len")) [(.attr (.attr (.var (.loc 0)) 36) 16)]) (.call (.val (.builtin "len")) [(.attr (.var (.cel 1)) 16)]))))) [
    .expr (.meth (.var (.cel 0)) 43 [(.val (.str "another scene" 0))])] [],
  .ite (.cmp .Eq (.var (.loc 2)) (.val (.int (7) 0))) [
    .ret (.neg (.val (.int (1) 0)))] [],
  .seta (.var (.cel 1)) 16 (.call (.val (.ref a__law_edit)) [(.attr (.var (.cel 1)) 16), (.var (.loc 1)), (.var (.loc 2))]),
  .ret (.bin .Add (.var (.loc 1)) (.val (.int (1) 0)))]
noncomputable def sp_law_apply_at : FnSpec := ⟨["inner", "at"], ["inner", "at", "number"], ["log", "rows"], [some 0, some 1, none], [none, none], b_law_apply_at⟩
structure Facts1 (W : Wd) (P1 P2 : Addr) : Prop where
  F : Facts W
  f__law_edit : ∃ code, FnAt W a__law_edit sp__law_edit code 3 []
  f__law_done : ∃ code, FnAt W a__law_done sp__law_done code 5 []
  f__law_deep_right : FnAt W a__law_deep_right sp__law_deep_right (.ref 584) 1 []
  f_law : FnAt W a_law sp_law (.ref 589) 1 []
  k__law_edit : W.fns.contains a__law_edit = true
  k__law_done : W.fns.contains a__law_done = true
  k__law_deep_right : W.fns.contains a__law_deep_right = true
  mk_deep : ∀ (n : Nat) (c0 c1 c2 c3 c4 : Addr) (G : GH) (K : KV), G P1 = some (.raw (tabObj #[])) →
    (∀ f c' G', f ≠ c' → G f = none → G c' = none → (∀ a, a ≠ f → a ≠ c' → a ≠ P1 → G' a = G a) → Tab G' P1 → CloAt W G' f sp__law_deep_right_apply_at [c2, c3, c4] 2 → K (.ref f) G') →
    FDefT W n (.ref 584) sp__law_deep_right.cels [c0, c1, c2, c3, c4] st_deep G K
  mk_law : ∀ (n : Nat) (c0 c1 c2 c3 : Addr) (G : GH) (K : KV), G P2 = some (.raw (tabObj #[])) →
    (∀ f c' G', f ≠ c' → G f = none → G c' = none → (∀ a, a ≠ f → a ≠ c' → a ≠ P2 → G' a = G a) → Tab G' P2 → CloAt W G' f sp_law_apply_at [c2, c3] 2 → K (.ref f) G') →
    FDefT W n (.ref 589) sp_law.cels [c0, c1, c2, c3] st_law G K
end
section
open PySem PySem.W PySem.Calls PyProof.Rows
variable {W : Wd} {n : Nat} {G : GH} {K : KV} {cs : List Addr} {P1 P2 : Addr}
theorem take_ (F : Facts W) {pl : Addr} {xs : List Int} {m : Nat} (hp : G pl = some (.list (xs.map vInt))) (hx : ∀ x ∈ xs, 0 ≤ x) (hm : 1 ≤ m) (hm' : m ≤ 1000)
    (k : ∀ (d : Nat) (ys : List Int), d < m → (∀ y ∈ ys, 0 ≤ y) → K (.int d 0) (G.set pl (.list (ys.map vInt)))) : CallC W (n + 1) (.ref a__law_take) [.ref pl, .int m 0] G K := by
  refine fnC F F.f__law_take rfl rfl fun cd => ?_
  dsimp only [sp__law_take, b__law_take]
  walk_at "open_"
  refine ⟨trivial, len_list_ok hp ?_⟩
  refine cmpI_ok rfl ?_
  cases xs with
  | nil =>
    wide_open with decide_eq_true (by simp)
    walk_at "open_"
    refine ret_same ?_
    have := k 0 [] hm (fun y hy => by cases hy)
    rwa [GH.set_same _ hp] at this
  | cons x xs =>
    have hx0 := hx x List.mem_cons_self
    wide_open with decide_eq_false (by simp; lia)
    walk_at "open_"
    refine sub_list hp rfl ?_
    refine mod_ok (by lia) ?_
    walk_at "open_"
    refine sub_list hp rfl ?_
    refine div_ok (by lia) (PyProof.noPylong_small (by lia)) ?_
    unfold setiG
    dsimp only
    wide_open with hp
    refine (i_EA _ (by unfold setIdx; rw [if_pos ⟨by decide, by simp⟩]) ?_)
    obtain ⟨q, hq⟩ := Int.eq_ofNat_of_zero_le hx0
    subst hq
    have hmod : ((q : Int)).fmod (m : Int) = ((q % m : Nat) : Int) := by wide_open with Int.fmod_eq_emod_of_nonneg _ (by lia); rfl
    have hdiv : ((q : Int)).fdiv (m : Int) = ((q / m : Nat) : Int) := by wide_open with Int.fdiv_eq_ediv_of_nonneg _ (by lia); rfl
    have e0 : List.set ((((q : Int)) :: xs).map vInt) (Int.toNat 0) (.int (((q : Int)).fdiv (m : Int)) 0) = ((((q / m : Nat) : Int)) :: xs).map vInt := by wide_open with hdiv; rfl
    wide_open with e0
    wide_open with hmod
    have h1 : (G.set pl (.list (((((q / m : Nat) : Int)) :: xs).map vInt))) pl = some (.list (((((q / m : Nat) : Int)) :: xs).map vInt)) := GH.set_self _ _ _
    walk_at "open_"
    refine sub_list h1 rfl ?_
    have hd : q % m < m := Nat.mod_lt _ hm
    refine cmp_if (p := ((q / m : Nat) : Int) = 0) rfl (fun h0 => ?_) (fun h0 => ?_)
    · walk_at "open_"
      refine (i_EAA _ (meth_pop F h1) trivial (pop0_ok h1 ?_))
      wide_open with GH.set_set
      exact ret_same (k (q % m) xs hd fun y hy => hx y (List.mem_cons_of_mem _ hy))
    · walk_at "open_"
      refine ret_same (k (q % m) _ hd fun y hy => ?_)
      rcases List.mem_cons.mp hy with rfl | hy
      · exact Int.natCast_nonneg _
      · exact hx y (List.mem_cons_of_mem _ hy)
noncomputable def GlyphAt (G : GH) (a : Addr) (g : Int) : Prop := ∃ d, G a = some (infoO d) ∧ d.glyph = g
noncomputable def RowG (G : GH) (r : Addr) (gl : List Int) : Prop := ∃ as, G r = some (.list (refs as)) ∧ All2 (GlyphAt G) as gl
theorem GlyphAt.sub {G' : GH} {a g} (x : GlyphAt G a g) (h : Sub G G') : GlyphAt G' a g := let ⟨d, h1, h2⟩ := x; (i_EA d (h _ _ h1) h2)
theorem RowG.sub {G' : GH} {r gl} (x : RowG G r gl) (h : Sub G G') : RowG G' r gl := let ⟨as, h1, h2⟩ := x; (i_EA as (h _ _ h1) (h2.imp fun z9 z9 a => a.sub h))
theorem All2.take {α β : Type} {R : α → β → Prop} : ∀ {as : List α} {bs : List β} (k : Nat), All2 R as bs → All2 R (as.take k) (bs.take k)
  | _, _, 0, _ => .nil
  | _, _, _ + 1, .nil => .nil
  | _, _, k + 1, .cons h t => .cons h (t.take k)
theorem All2.drop {α β : Type} {R : α → β → Prop} : ∀ {as : List α} {bs : List β} (k : Nat), All2 R as bs → All2 R (as.drop k) (bs.drop k)
  | _, _, 0, h => h
  | _, _, _ + 1, .nil => .nil
  | _, _, k + 1, .cons _ t => t.drop k
theorem All2.append {α β : Type} {R : α → β → Prop} {as as' : List α} {bs bs' : List β} (h : All2 R as bs) (h' : All2 R as' bs') : All2 R (as ++ as') (bs ++ bs') := by
  induction h with
  | nil => exact h'
  | cons x _ ih => exact .cons x ih
theorem All2.get {α β : Type} {R : α → β → Prop} : ∀ {as : List α} {bs : List β} {i : Nat} {a : α}, All2 R as bs → as[i]? = some a → ∃ b, bs[i]? = some b ∧ R a b
  | _, _, i, _, .nil, e => by simp at e
  | _, _, 0, _, .cons h _, e => by simp at e; subst e; exact (i_EA _ rfl h)
  | _, _, i + 1, _, .cons _ t, e => by simp at e; refine o_EA (t.get e) fun b h1 h2 => ?_; exact (i_EA b (by simpa using h1) h2)
theorem cut_refs (as : List Addr) (lo hi : Option Nat) : cut (refs as) lo hi = refs ((as.take (hi.getD as.length)).drop (lo.getD 0)) := by simp [cut, refs, List.map_drop, List.map_take]
noncomputable def freshN (num : Nat) : Nat := if num = 5 then 63 else num
noncomputable def editM (gl : List Int) (i num : Nat) : List Int :=
  if num = 0 then gl.take i ++ [91] ++ gl.drop (i + 1)
  else if num = 1 ∨ num = 2 ∨ num = 5 then gl.take (i + 1) ++ List.replicate (freshN num) 90 ++ gl.drop (i + 1)
  else if num = 3 ∨ num = 4 then gl.take (i + 1) ++ gl.drop (i + 1 + num - 2)
  else if num = 6 then gl.take i ++ gl.drop (i + 1) else gl
theorem edit_ (H1 : Facts1 W P1 P2) {r : Addr} {gl : List Int} {i num : Nat} (hr : RowG G r gl) (hi : i < gl.length) (hn : num ≤ 6) (hz : gl.length ≤ 10000)
    (k : ∀ r' G', Sub G G' → G r' = none → RowG G' r' (editM gl i num) → K (.ref r') G') : CallC W (n + 3) (.ref a__law_edit) [.ref r, .int i 0, .int num 0] G K := by
  have F := H1.F
  refine o_EA hr fun as r1 r2 => ?_; try clear hr
  have hlen := r2.length
  obtain ⟨a, ha⟩ : ∃ a, as[i]? = some a := ⟨_, List.getElem?_eq_getElem (by lia)⟩
  refine o_EAEA (r2.get ha) fun g hg d hd hdg => ?_
  refine fnCc F H1.f__law_edit rfl (by simp [sp__law_edit]) fun cd' cs hl hnd hf => ?_
  refine o_EEA (two_cells hl hnd) fun c0 c1 e93 hc => ?_; subst e93
  dsimp only [sp__law_edit, b__law_edit]
  have hS := sub_setCs (vs := srcM [some 0, some 1] [.ref r, .int i 0, .int num 0]) hnd hf
  walk_at "open_"
  have h0 : (setCs G [c0, c1] [some (Value.ref r), some (.int i 0)]) c0 = some (.cell (some (.ref r))) := by (wide_line using setCs_cons; wide_open with GH.set_self)
  have h1 : (setCs G [c0, c1] [some (Value.ref r), some (.int i 0)]) c1 = some (.cell (some (.int i 0))) := by (wide_line using setCs_cons; wide_line using GH.set_ne _ _ hc.symm; wide_line using setCs_cons; wide_open with GH.set_self)
  have hS : Sub G (setCs G [c0, c1] [some (Value.ref r), some (.int i 0)]) := hS
  generalize setCs G [c0, c1] [some (Value.ref r), some (.int i 0)] = G0 at *
  refine cmpI_ok rfl ?_
  have rng : ∀ (fn : Nat) (v : Int), v = fn → fn ≤ 1000 → (fn = freshN num) → CallT W (n + 2) (.type "range") [.int v 0] G0 fun iv G1 => iterG iv G1 fun xs chk => small xs.length ∧ compG chk (fun x G2 k => wpE W (n + 2) [c1, c0] [none, some x] (.call (.val (.ref a_Info)) [(.val (.int (0) 0)), (.val (.int (90) 0)), (.attr (.sub (.var (.cel 1)) (.var (.cel 0))) 2)]) G2 fun v G5 => k (some v) G5) xs [] G1 fun v G1 =>
      wpSs W (n + 2) cd' ["row", "at"] [c0, c1] (b__law_edit.drop 1) [some (.int num 0), some v] G1 (bodyK K) := by
    rintro fn _ rfl hfn hfe
    refine range1_ok ?_
    intro rg hrg
    have s1 := sub_set (o := .range 0 fn) hrg
    refine iter_range (GH.set_self _ _ _) (by lia) ⟨by simp [small]; (first | exact lqA (by lia) (by lia) | exact lqB (by lia) | exact lqD (by lia) | lia), ?_⟩
    refine comp_inv (fun xs acc G' => Sub G0 G' ∧ ∃ (j : Nat) (us : List Addr), xs = ((List.range fn).map fun (j : Nat) => Value.int (j : Int) 0).drop j ∧ j ≤ fn ∧ acc = refs us ∧ All2 (GlyphAt G') us (List.replicate j 90)) (fun z9 z9 z9 z9 => trivial) ?_ ?_ _ _ _ (i_AEEAAA s1 0 ([]) rfl (Nat.zero_le _) rfl .nil)
    · intro acc G' hx9; refine o_AEEAAA hx9 fun hS1 j us e hj e96 hu => ?_; try clear hx9; subst e96
      have hj2 : fn ≤ j := by
        have := List.drop_eq_nil_iff.mp e.symm
        simpa using this
      obtain rfl : j = fn := by lia
      intro fr hfr
      have s2 := sub_set (o := .list (refs us)) hfr
      have hS2 := hS.trans (hS1.trans s2)
      have q0 := s2 _ _ (hS1 _ _ h0)
      have q1 := s2 _ _ (hS1 _ _ h1)
      have qf : (G'.set fr (.list (refs us))) fr = some (.list (refs us)) := GH.set_self _ _ _
      have quq := hu.imp fun _ _ (x : GlyphAt G' _ _) => x.sub s2
      have hul := hu.length
      simp only [List.length_replicate] at hul
      generalize G'.set fr (.list (refs us)) = G1 at *
      have rows := r2.imp fun _ _ (x : GlyphAt G _ _) => x.sub hS2
      dsimp only [b__law_edit, ndropS, ndrop0]
      walk_at "open_"
      refine cmpI_ok rfl ?_
      by_cases n0 : num = 0
      · subst n0
        wide_open with decide_eq_true (by rfl)
        walk_at "open_"
        refine cell_ok (q0) ?_
        refine cell_ok (q1) ?_
        refine slice_list_ok (lo := none) (hi := some i) (hS2 _ _ r1) rfl rfl ?_
        intro la hla
        wide_open with cut_refs
        have sa := sub_set (o := .list (refs ((as.take ((some i).getD as.length)).drop ((none : Option Nat).getD 0)))) hla
        refine cell_ok (sa _ _ q0) ?_
        refine cell_ok (sa _ _ q1) ?_
        refine sub_list (sa _ _ (hS2 _ _ r1)) (pick_ref ha) ?_
        refine attr_ (sa _ _ (hS2 _ _ hd)) F.c_Info rfl rfl rfl ?_
        refine ⟨keep_fn F.k_Info, (new_Info F ?_).T⟩
        intro nf hnf
        have sb := sub_set (o := infoO ⟨0, 91, d.cluster, 0, false, ""⟩) hnf
        intro lb hlb
        have sc := sub_set (o := .list [.ref nf]) hlb
        have sbc := sb.trans sc
        refine concat_ok (xs := refs ((as.take ((some i).getD as.length)).drop ((none : Option Nat).getD 0))) (ys := [.ref nf]) (sbc _ _ (GH.set_self _ _ _)) (GH.set_self _ _ _) (by simp [small, refs]; lia) ?_
        intro lc hlc
        have sd := sub_set (o := .list (refs ((as.take ((some i).getD as.length)).drop ((none : Option Nat).getD 0)) ++ [.ref nf])) hlc
        have s5 := sa.trans (sbc.trans sd)
        refine cell_ok (s5 _ _ q0) ?_
        refine cell_ok (s5 _ _ q1) ?_
        refine add_ok ?_
        refine slice_list_ok (lo := some (i + 1)) (hi := none) (s5 _ _ (hS2 _ _ r1)) (by simp [partV]) rfl ?_
        intro ld hld
        wide_open with cut_refs
        have se := sub_set (o := .list (refs ((as.take ((none : Option Nat).getD as.length)).drop ((some (i + 1)).getD 0)))) hld
        refine concat_ok (se _ _ (GH.set_self _ _ _)) (GH.set_self _ _ _) (by simp [small, refs]; lia) ?_
        intro le hle
        have sf := sub_set (o := .list (refs ((as.take ((some i).getD as.length)).drop ((none : Option Nat).getD 0)) ++ [.ref nf] ++ refs ((as.take ((none : Option Nat).getD as.length)).drop ((some (i + 1)).getD 0)))) hle
        have s6 := s5.trans (se.trans sf)
        refine ret_same (k le _ (hS2.trans s6) (none_of_sub (hS2.trans (s5.trans se)) hle) (i_EA (as.take i ++ [nf] ++ as.drop (i + 1)) (by wide_open with GH.set_self; simp [refs]) ?_))
        have rr := rows.imp fun _ _ (x : GlyphAt G1 _ _) => x.sub s6
        have e : editM gl i 0 = gl.take i ++ [91] ++ gl.drop (i + 1) := rfl
        wide_open with e
        refine ((rr.take i).append (.cons (show GlyphAt _ nf 91 from (i_EA ⟨0, 91, d.cluster, 0, false, ""⟩ ?_ rfl)) .nil)).append (rr.drop (i + 1))
        exact (sc.trans (sd.trans (se.trans sf))) _ _ (GH.set_self _ _ _)
      · wide_open with decide_eq_false (by lia)
        walk_at "open_"
        intro t1 ht1
        have st1 := sub_set (o := .tup [.int 1 0, .int 2 0, .int 5 0]) ht1
        refine in_tup_ok (ns := [1, 2, 5]) (i := num) (GH.set_self _ _ _) ?_
        by_cases n1 : num = 1 ∨ num = 2 ∨ num = 5
        · have e : ([1, 2, 5] : List Int).any (· == (num : Int)) = true := by rcases n1 with rfl | rfl | rfl <;> rfl
          wide_open with e
          refine cell_ok (st1 _ _ q0) ?_
          refine cell_ok (st1 _ _ q1) ?_
          walk_at "open_"
          refine add_ok ?_
          refine slice_list_ok (lo := none) (hi := some (i + 1)) (st1 _ _ (hS2 _ _ r1)) rfl (by simp [partV]) ?_
          intro la hla
          wide_open with cut_refs
          have sa := st1.trans (sub_set (o := .list (refs ((as.take ((some (i + 1)).getD as.length)).drop ((none : Option Nat).getD 0)))) hla)
          refine concat_ok (ys := refs us) (GH.set_self _ _ _) (sa _ _ qf) (by simp [small, refs]; lia) ?_
          intro lb hlb
          have sb := sa.trans (sub_set (o := .list (refs ((as.take ((some (i + 1)).getD as.length)).drop ((none : Option Nat).getD 0)) ++ refs us)) hlb)
          refine cell_ok (sb _ _ q0) ?_
          refine cell_ok (sb _ _ q1) ?_
          refine add_ok ?_
          refine slice_list_ok (lo := some (i + 1)) (hi := none) (sb _ _ (hS2 _ _ r1)) (by simp [partV]) rfl ?_
          intro ld hld
          wide_open with cut_refs
          have se := sub_set (o := .list (refs ((as.take ((none : Option Nat).getD as.length)).drop ((some (i + 1)).getD 0)))) hld
          refine concat_ok (se _ _ (GH.set_self _ _ _)) (GH.set_self _ _ _) (by simp [small, refs]; lia) ?_
          intro le hle
          have sf := sub_set (o := .list (refs ((as.take ((some (i + 1)).getD as.length)).drop ((none : Option Nat).getD 0)) ++ refs us ++ refs ((as.take ((none : Option Nat).getD as.length)).drop ((some (i + 1)).getD 0)))) hle
          have s6 := sb.trans (se.trans sf)
          refine ret_same (k le _ (hS2.trans s6) (none_of_sub (hS2.trans (sb.trans se)) hle) (i_EA (as.take (i + 1) ++ us ++ as.drop (i + 1)) (by wide_open with GH.set_self; simp [refs]) ?_))
          have rr := rows.imp fun _ _ (x : GlyphAt G1 _ _) => x.sub s6
          have e : editM gl i num = gl.take (i + 1) ++ List.replicate (freshN num) 90 ++ gl.drop (i + 1) := by unfold editM; (wide_line using if_neg n0; wide_open with if_pos n1)
          (wide_line using e; (first | refine hfe ▸ ?_ | rewrite [← hfe]); try with_reducible rfl)
          exact ((rr.take (i + 1)).append (quq.imp fun _ _ (x : GlyphAt G1 _ _) => x.sub s6)).append (rr.drop (i + 1))
        · have e : ([1, 2, 5] : List Int).any (· == (num : Int)) = false := by
            simp only [List.any_cons, List.any_nil, Bool.or_false, Bool.or_eq_false_iff, beq_eq_false_iff_ne]
            lia
          wide_open with e
          intro t2 ht2
          have st2 := st1.trans (sub_set (o := .tup [.int 3 0, .int 4 0]) ht2)
          refine in_tup_ok (ns := [3, 4]) (i := num) (GH.set_self _ _ _) ?_
          by_cases n2 : num = 3 ∨ num = 4
          · have e : ([3, 4] : List Int).any (· == (num : Int)) = true := by rcases n2 with rfl | rfl <;> rfl
            wide_open with e
            refine cell_ok (st2 _ _ q0) ?_
            refine cell_ok (st2 _ _ q1) ?_
            walk_at "open_"
            refine add_ok ?_
            refine slice_list_ok (lo := none) (hi := some (i + 1)) (st2 _ _ (hS2 _ _ r1)) rfl (by simp [partV]) ?_
            intro la hla
            wide_open with cut_refs
            have sa := st2.trans (sub_set (o := .list (refs ((as.take ((some (i + 1)).getD as.length)).drop ((none : Option Nat).getD 0)))) hla)
            refine cell_ok (sa _ _ q0) ?_
            refine cell_ok (sa _ _ q1) ?_
            refine add_ok ?_
            refine add_ok ?_
            refine sub_int_ok ?_
            refine slice_list_ok (lo := some (i + 1 + num - 2)) (hi := none) (sa _ _ (hS2 _ _ r1)) (by simp only [partV]; congr 1; lia) rfl ?_
            intro ld hld
            wide_open with cut_refs
            have se := sub_set (o := .list (refs ((as.take ((none : Option Nat).getD as.length)).drop ((some (i + 1 + num - 2)).getD 0)))) hld
            refine concat_ok (se _ _ (GH.set_self _ _ _)) (GH.set_self _ _ _) (by simp [small, refs]; lia) ?_
            intro le hle
            have sf := sub_set (o := .list (refs ((as.take ((some (i + 1)).getD as.length)).drop ((none : Option Nat).getD 0)) ++ refs ((as.take ((none : Option Nat).getD as.length)).drop ((some (i + 1 + num - 2)).getD 0)))) hle
            have s6 := sa.trans (se.trans sf)
            refine ret_same (k le _ (hS2.trans s6) (none_of_sub (hS2.trans (sa.trans se)) hle) (i_EA (as.take (i + 1) ++ as.drop (i + 1 + num - 2)) (by wide_open with GH.set_self; simp [refs]) ?_))
            have rr := rows.imp fun _ _ (x : GlyphAt G1 _ _) => x.sub s6
            have e : editM gl i num = gl.take (i + 1) ++ gl.drop (i + 1 + num - 2) := by unfold editM; (wide_line using if_neg n0; wide_line using if_neg n1; wide_open with if_pos n2)
            wide_open with e
            exact (rr.take (i + 1)).append (rr.drop (i + 1 + num - 2))
          · have e : ([3, 4] : List Int).any (· == (num : Int)) = false := by
              simp only [List.any_cons, List.any_nil, Bool.or_false, Bool.or_eq_false_iff, beq_eq_false_iff_ne]
              lia
            wide_open with e
            have n6 : num = 6 := by lia
            subst n6
            refine cmp_t rfl (by rfl) ?_
            walk_at "open_"
            refine cell_ok (st2 _ _ q0) ?_
            refine cell_ok (st2 _ _ q1) ?_
            refine slice_list_ok (lo := none) (hi := some i) (st2 _ _ (hS2 _ _ r1)) rfl rfl ?_
            intro la hla
            wide_open with cut_refs
            have sa := st2.trans (sub_set (o := .list (refs ((as.take ((some i).getD as.length)).drop ((none : Option Nat).getD 0)))) hla)
            refine cell_ok (sa _ _ q0) ?_
            refine cell_ok (sa _ _ q1) ?_
            refine add_ok ?_
            refine slice_list_ok (lo := some (i + 1)) (hi := none) (sa _ _ (hS2 _ _ r1)) (by simp [partV]) rfl ?_
            intro ld hld
            wide_open with cut_refs
            have se := sub_set (o := .list (refs ((as.take ((none : Option Nat).getD as.length)).drop ((some (i + 1)).getD 0)))) hld
            refine concat_ok (se _ _ (GH.set_self _ _ _)) (GH.set_self _ _ _) (by simp [small, refs]; lia) ?_
            intro le hle
            have sf := sub_set (o := .list (refs ((as.take ((some i).getD as.length)).drop ((none : Option Nat).getD 0)) ++ refs ((as.take ((none : Option Nat).getD as.length)).drop ((some (i + 1)).getD 0)))) hle
            have s6 := sa.trans (se.trans sf)
            refine ret_same (k le _ (hS2.trans s6) (none_of_sub (hS2.trans (sa.trans se)) hle) (i_EA (as.take i ++ as.drop (i + 1)) (by wide_open with GH.set_self; simp [refs]) ?_))
            have rr := rows.imp fun _ _ (x : GlyphAt G1 _ _) => x.sub s6
            exact (rr.take i).append (rr.drop (i + 1))
    · intro x xs acc G' Kc nxt hx9; refine o_AEEAAA hx9 fun hS1 j us e hj e96 hu => ?_; try clear hx9; subst e96
      have hjl : j < fn := by
        rcases Nat.lt_or_ge j fn with h | h
        · exact h
        · wide_line with List.drop_eq_nil_of_le (by simpa using h) using e
      rw [List.drop_eq_getElem_cons (by simpa using hjl)] at e
      simp only [List.cons.injEq] at e
      obtain ⟨rfl, rfl⟩ := e
      have hSS := hS.trans hS1
      walk_at "open_"
      refine cell_ok (hS1 _ _ h0) ?_
      refine cell_ok (hS1 _ _ h1) ?_
      refine sub_list (hSS _ _ r1) (pick_ref ha) ?_
      refine attr_ (hSS _ _ hd) F.c_Info rfl rfl rfl ?_
      refine ⟨keep_fn F.k_Info, (new_Info F ?_).T⟩
      intro nf hnf
      have sb := sub_set (o := infoO ⟨0, 90, d.cluster, 0, false, ""⟩) hnf
      refine nxt (some _) _ (i_AEEAAA (hS1.trans sb) (j + 1) (us ++ [nf]) rfl hjl (by simp [refs]) ?_)
      wide_open with List.replicate_succ'
      exact (hu.imp fun _ _ (x : GlyphAt G' _ _) => x.sub sb).snoc (i_EA _ (GH.set_self _ _ _) rfl)
  by_cases n5 : num = 5
  · subst n5
    wide_open with decide_eq_true (by rfl)
    walk_at "open_"
    refine ⟨trivial, ?_⟩
    have z := rng 63 63 rfl (by decide) rfl
    revert z
    dsimp only [b__law_edit, ndropS, ndrop0]
    walk_at "open_"
    exact fun z => z
  · wide_open with decide_eq_false (by lia)
    walk_at "open_"
    refine ⟨trivial, ?_⟩
    have z := rng num num rfl (by lia) (by unfold freshN; wide_open with if_neg n5)
    revert z
    dsimp only [b__law_edit, ndropS, ndrop0]
    walk_at "open_"
    exact fun z => z
end
section
open PySem PySem.W PySem.Calls PyProof.Rows
structure Good (ps : List Int) (e : Int) : Prop where
  up : ps.Pairwise (· < ·)
  le : ∀ p ∈ ps, 0 ≤ p ∧ p ≤ e
theorem Good.gap {ps : List Int} {e x : Int} {i : Nat} (g : Good ps e) (hx : ps[i]? = some x) : ps.length ≤ i + 1 + (e - x).toNat := by
  have key : ∀ (d : Nat), ∀ y, ps[i + d]? = some y → x + d ≤ y := by
    intro d
    induction d with
    | zero => intro y hy; rw [Nat.add_zero, hx] at hy; wide_open using hy; lia
    | succ d ih =>
      intro y hy
      obtain ⟨h1, rfl⟩ := List.getElem?_eq_some_iff.mp hy
      have h2 : i + d < ps.length := by lia
      have h3 := ih _ (List.getElem?_eq_getElem h2)
      have h4 := List.pairwise_iff_getElem.mp g.up (i + d) (i + (d + 1)) h2 h1 (by lia)
      push_cast
      lia
  obtain ⟨hi, _⟩ := List.getElem?_eq_some_iff.mp hx
  have hl : i + (ps.length - 1 - i) < ps.length := by lia
  have h1 := key (ps.length - 1 - i) _ (List.getElem?_eq_getElem hl)
  have h2 := (g.le _ (List.getElem_mem hl)).2
  lia
noncomputable def restL (ps : List Int) (e : Int) (i : Nat) (x size old : Int) : List Int :=
  if old < size then ps.take (i + 1) ++ (List.range (size - old).toNat).map (fun (t : Nat) => x + 1 + (t : Int)) ++ ((ps.drop (i + 1)).map (old - ·)).map (size - ·)
  else if e - x ≤ old - size then ps.take (i + 1) ++ (((ps.drop (i + 1)).map (old - ·)).drop (e - x).toNat).map (size - ·)
  else ps.take (i + 1) ++ (((ps.drop (i + 1)).map (old - ·)).drop (old - size).toNat).map (size - ·)
set_option tactic.hygienic true in
theorem law_move {ps : List Int} {e x size old : Int} {i : Nat} (g : Good ps e) (hx : ps[i]? = some x) :
    restL ps e i x size old = (if size - old = 0 then ps else (moveM ps e i x (size - old)).1) ∧
    (if x > size - (old - e) then x else size - (old - e)) = (if size - old = 0 then e else (moveM ps e i x (size - old)).2) := by
  have hxe := (g.le x (List.mem_of_getElem? hx)).2
  have hgap := g.gap hx
  have hm : ∀ l : List Int, (l.map (old - ·)).map (size - ·) = l.map (· + (size - old)) := fun l => by
    wide_open with List.map_map; apply List.map_congr_left; intro a _; simp only [Function.comp]; lia
  have hmd : ∀ (l : List Int) (k : Nat), ((l.map (old - ·)).drop k).map (size - ·) = (l.drop k).map (· + (size - old)) := fun l k => by ((first | refine List.map_drop ▸ ?_ | rewrite [← List.map_drop]); wide_open with hm)
  unfold restL
  constructor
  · by_cases h1 : old < size
    · (wide_line using if_pos h1; wide_line using if_neg (by lia); wide_open with hm)
      unfold moveM
      dsimp only
      (wide_line using (if_neg (show ¬ (e + (size - old) < x) by lia)); wide_open with if_pos (by lia))
      unfold growM
      have : ((size - old).toNat : Int) = size - old := by lia
      rw [this]
    · wide_open with if_neg h1
      by_cases h0 : size - old = 0
      · wide_open with if_pos h0
        have e1 : (old - size).toNat = 0 := by lia
        have hadd : ∀ l : List Int, l.map (· + (size - old)) = l := fun l => by wide_open with h0; simp
        split
        · rename_i h2
          have : (e - x).toNat = 0 := by lia
          (wide_line using hmd; wide_line using this; wide_line using List.drop_zero; wide_line using hadd; wide_open with List.take_append_drop)
        · (wide_line using hmd; wide_line using e1; wide_line using List.drop_zero; wide_line using hadd; wide_open with List.take_append_drop)
      · wide_open with if_neg h0
        unfold moveM
        dsimp only
        by_cases h2 : e + (size - old) < x
        · (wide_line using if_pos h2; wide_line using if_pos (by lia); wide_open with hmd)
          have hnil : (ps.drop (i + 1)).drop (e - x).toNat = [] := by wide_open with List.drop_drop; exact List.drop_eq_nil_of_le (by lia)
          (wide_line using hnil; wide_line using List.map_nil; wide_line using List.append_nil; wide_open with if_neg (by lia))
          split
          · unfold shrinkM
            have : ps.drop (i + 1 + (-(size - old + x - (e + (size - old)))).toNat) = [] := List.drop_eq_nil_of_le (by lia)
            (wide_line using this; wide_line using List.map_nil; wide_open with List.append_nil)
          · wide_open with List.take_of_length_le (by lia)
        · (wide_line using if_neg h2; wide_line using (if_neg (show ¬ (0 < size - old) by lia)); wide_open with (if_pos (show size - old < 0 by lia)))
          unfold shrinkM
          have e1 : ((-(size - old)).toNat : Int) = -(size - old) := by lia
          have e2 : (fun (a : Int) => a - ((-(size - old)).toNat : Int)) = fun a => a + (size - old) := by funext a; wide_open with e1; lia
          wide_open with e2
          split
          · have : (e - x).toNat = (-(size - old)).toNat := by lia
            (wide_line using hmd; wide_line using this; wide_open with List.drop_drop)
          · have : (old - size).toNat = (-(size - old)).toNat := by lia
            (wide_line using hmd; wide_line using this; wide_open with List.drop_drop)
  · by_cases h0 : size - old = 0
    · (wide_line using if_pos h0; wide_open with if_neg (by lia)); lia
    · wide_open with if_neg h0
      unfold moveM
      dsimp only
      split <;> split <;> lia
theorem good_move {ps : List Int} {e x c : Int} {i : Nat} (g : Good ps e) (hx : ps[i]? = some x) : Good (moveM ps e i x c).1 (moveM ps e i x c).2 := by
  have hx0 := g.le x (List.mem_of_getElem? hx)
  obtain ⟨hi, hxi⟩ := List.getElem?_eq_some_iff.mp hx
  have tk : ∀ p ∈ ps.take (i + 1), 0 ≤ p ∧ p ≤ x := fun p hp => by
    obtain ⟨j, hj, rfl⟩ := List.getElem_of_mem hp
    rw [List.length_take] at hj
    wide_open with List.getElem_take
    refine ⟨(g.le _ (List.getElem_mem _)).1, ?_⟩
    rcases Nat.lt_or_ge j i with h | h
    · have := List.pairwise_iff_getElem.mp g.up j i (by lia) hi h; lia
    · have : j = i := by lia
      subst this; lia
  have dr : ∀ (k : Nat), ∀ p ∈ ps.drop (i + 1 + k), x + k < p ∧ p ≤ e := fun k p hp => by
    obtain ⟨j, hj, rfl⟩ := List.getElem_of_mem hp
    wide_open with List.getElem_drop
    rw [List.length_drop] at hj
    refine ⟨?_, (g.le _ (List.getElem_mem _)).2⟩
    have key : ∀ (d : Nat) (h : i + d < ps.length), x + d ≤ ps[i + d] := by
      intro d
      induction d with
      | zero => intro h; simp only [Nat.add_zero]; lia
      | succ d ih =>
        intro h
        have h2 := ih (by lia)
        have h4 := List.pairwise_iff_getElem.mp g.up (i + d) (i + (d + 1)) (by lia) h (by lia)
        push_cast; lia
    have := key (1 + k + j) (by lia)
    have e2 : ps[i + (1 + k + j)]'(by lia) = ps[i + 1 + k + j] := by congr 1; lia
    rw [e2] at this
    push_cast at this; lia
  have pt : (ps.take (i + 1)).Pairwise (· < ·) := g.up.sublist (List.take_sublist _ _)
  have pd : ∀ k, (ps.drop k).Pairwise (· < ·) := fun k => g.up.sublist (List.drop_sublist _ _)
  have gr : ∀ (m : Nat) (e' : Int), x + m ≤ e' → e + m ≤ e' → Good (growM ps i x m) e' := fun m e' h1 h2 => by
    unfold growM
    have mid : ((List.range m).map fun (j : Nat) => x + 1 + (j : Int)).Pairwise (· < ·) := by
      wide_open with List.pairwise_map
      exact List.pairwise_lt_range.imp fun h => by lia
    have d0 := dr 0
    simp only [Nat.add_zero] at d0
    refine ⟨List.pairwise_append.mpr (i_AA (List.pairwise_append.mpr (i_AA pt mid (fun a ha b hb => ?_))) ?_ (fun a ha b hb => ?_)), fun p hp => ?_⟩
    · refine o_EA (List.mem_map.mp hb) fun j z9 e93 => ?_; subst e93
      have := tk a ha; lia
    · wide_open with List.pairwise_map; exact (pd _).imp fun h => by lia
    · refine o_EA (List.mem_map.mp hb) fun q hq e93 => ?_; subst e93
      have := d0 q hq
      rcases List.mem_append.mp ha with ha | ha
      · have := tk a ha; push_cast at *; lia
      · refine o_EA (List.mem_map.mp ha) fun j hj e93 => ?_; subst e93
        have := List.mem_range.mp hj; push_cast at *; lia
    · rcases List.mem_append.mp hp with hp | hp
      · rcases List.mem_append.mp hp with hp | hp
        · have := tk p hp; lia
        · refine o_EA (List.mem_map.mp hp) fun j hj e93 => ?_; subst e93
          have := List.mem_range.mp hj; lia
      · refine o_EA (List.mem_map.mp hp) fun q hq e93 => ?_; subst e93
        have := d0 q hq; push_cast at *; lia
  have sh : ∀ (m : Nat) (e' : Int), x ≤ e' → e - m ≤ e' → Good (shrinkM ps i m) e' := fun m e' h1 h2 => by
    unfold shrinkM
    refine ⟨List.pairwise_append.mpr (i_AA pt ?_ (fun a ha b hb => ?_)), fun p hp => ?_⟩
    · wide_open with List.pairwise_map; exact (pd _).imp fun h => by lia
    · refine o_EA (List.mem_map.mp hb) fun q hq e93 => ?_; subst e93
      have := dr m q hq
      have := tk a ha; lia
    · rcases List.mem_append.mp hp with hp | hp
      · have := tk p hp; lia
      · refine o_EA (List.mem_map.mp hp) fun q hq e93 => ?_; subst e93
        have := dr m q hq; lia
  have id' : ∀ e', e ≤ e' → Good ps e' := fun e' h => ⟨g.up, fun p hp => ⟨(g.le p hp).1, Int.le_trans (g.le p hp).2 h⟩⟩
  unfold moveM
  dsimp only
  by_cases h : e + c < x
  · (wide_line using if_pos h; wide_line using if_pos h; wide_open with if_neg (by lia))
    split
    · exact sh _ _ (Int.le_refl _) (by lia)
    · exact id' _ (by lia)
  · (wide_line using if_neg h; wide_open with if_neg h)
    split
    · exact gr _ _ (by lia) (by lia)
    · split
      · exact sh _ _ (by lia) (by lia)
      · exact id' _ (by lia)
structure St where
  gl : List Int
  ps : List Int
  e : Int
  lg : List (Int × Int × Int)
noncomputable def actM (dp : Int) (s : St) (a : Nat × Nat) : St × Bool := match s.ps[a.1]? with
  | none => (s, true)
  | some x => if ¬ x < s.gl.length ∨ 7 < a.2 ∨ 6 ≤ dp then (s, true) else
    if a.2 = 7 then ({ s with lg := s.lg ++ [((a.2 : Int), x, dp + 1)] }, true) else
    let gl' := editM s.gl x.toNat a.2
    let c := (gl'.length : Int) - s.gl.length
    if 0 < c ∧ 64 < c + s.ps.length then (⟨gl', s.ps, s.e + c, s.lg ++ [((a.2 : Int), x, dp + 1)]⟩, false)
    else (⟨gl', if c = 0 then s.ps else (moveM s.ps s.e a.1 x c).1, if c = 0 then s.e else (moveM s.ps s.e a.1 x c).2, s.lg ++ [((a.2 : Int), x, dp + 1)]⟩, true)
noncomputable def runM (dp : Int) : St → List (Nat × Nat) → St
  | s, [] => s
  | s, a :: as => if (actM dp s a).2 then runM dp (actM dp s a).1 as else (actM dp s a).1
theorem edit_len (gl : List Int) (i num : Nat) (hi : i < gl.length) : (editM gl i num).length ≤ gl.length + 63 + num := by
  unfold editM freshN
  split
  · simp; lia
  · split
    · simp; split <;> lia
    · split
      · simp; exact Nat.le_trans (lqN (by lia)) (by lia)
      · split
        · simp; exact Nat.le_trans (lqN (by lia)) (by lia)
        · lia
theorem moveM_len (ps : List Int) (e : Int) (i : Nat) (x c : Int) (hxe : x ≤ e) : (moveM ps e i x c).1.length ≤ ps.length + c.toNat := by
  unfold moveM
  dsimp only
  by_cases h : e + c < x
  · (wide_line using if_pos h; wide_open with if_neg (by lia))
    split
    · unfold shrinkM; simp; exact Nat.le_trans (lqN (Nat.le_add_right _ _)) (Nat.le_add_right _ _)
    · lia
  · wide_open with if_neg h
    split
    · unfold growM; simp; lia
    · split
      · unfold shrinkM; simp; exact Nat.le_trans (lqN (Nat.le_add_right _ _)) (Nat.le_add_right _ _)
      · lia
end
section
open PySem PySem.W PySem.Calls PyProof.Rows
variable {W : Wd} {n : Nat} {G : GH} {K : KV} {cs : List Addr} {P1 P2 : Addr}
noncomputable def ActsAt (G : GH) (ac : Addr) (avs : List (Nat × Nat)) : Prop := ∃ ats, G ac = some (.tup (refs ats)) ∧ All2 (fun t (q : Nat × Nat) => G t = some (.tup [.int q.1 0, .int q.2 0])) ats avs
theorem ActsAt.sub {G' : GH} {a v} (x : ActsAt G a v) (h : Sub G G') : ActsAt G' a v := let ⟨as, h1, h2⟩ := x; (i_EA as (h _ _ h1) (h2.imp fun z9 z9 a => h _ _ a))
noncomputable def LogT (G : GH) (t : Addr) (q : Int × Int × Int) : Prop := G t = some (.tup [.int q.1 0, .int q.2.1 0, .int q.2.2 0])
noncomputable def LogAt (G : GH) (l : Addr) (lg : List (Int × Int × Int)) : Prop := ∃ ts, G l = some (.list (refs ts)) ∧ All2 (LogT G) ts lg
theorem LogAt.sub {G' : GH} {a v} (x : LogAt G a v) (h : Sub G G') : LogAt G' a v := let ⟨as, h1, h2⟩ := x; (i_EA as (h _ _ h1) (h2.imp fun z9 z9 a => h _ _ a))
theorem ne_kind {a b : Addr} {g g' : GO} (ha : G a = some g) (hb : G b = some g') (h : g ≠ g') : a ≠ b := by rintro rfl; wide_line with ha using hb; exact h rfl
theorem set_ne_of {a b : Addr} {g o : GO} (ha : G a = some g) (h : a ≠ b) : (G.set b o) a = some g := by wide_open with GH.set_ne _ _ h; exact ha
theorem RowG.set {r b : Addr} {gl : List Int} {g' o : GO} (x : RowG G r gl) (h : r ≠ b) (hb : G b = some g') (hk : ∀ d, infoO d ≠ g') : RowG (G.set b o) r gl := by
  refine o_EA x fun as h1 h2 => ?_; try clear x
  exact (i_EA as (set_ne_of h1 h) (h2.imp fun _ _ ⟨d, e, q⟩ => (i_EA d (set_ne_of e (ne_kind e hb (hk d))) q)))
theorem LogAt.set {l b : Addr} {lg : List (Int × Int × Int)} {g' o : GO} (x : LogAt G l lg) (h : l ≠ b) (hb : G b = some g') (hk : ∀ vs, GO.tup vs ≠ g') : LogAt (G.set b o) l lg := by
  refine o_EA x fun as h1 h2 => ?_; try clear x
  exact (i_EA as (set_ne_of h1 h) (h2.imp fun z9 z9 e => set_ne_of e (ne_kind e hb (hk _))))
theorem LogAt.push {l t : Addr} {lg : List (Int × Int × Int)} {q : Int × Int × Int} (x : LogAt G l lg) (ht : LogT G t q) : ∃ vs, G l = some (.list vs) ∧ vs.length = lg.length ∧ LogAt (G.set l (.list (vs ++ [.ref t]))) l (lg ++ [q]) := by
  refine o_EA x fun ts h1 h2 => ?_; try clear x
  refine (i_EAAEA _ h1 (by (wide_line using refs_length; wide_open with h2.length)) (ts ++ [t]) (by wide_open with GH.set_self; simp [refs]) ?_)
  refine (h2.imp fun z9 z9 e => set_ne_of e (ne_kind e h1 (by simp))).snoc (set_ne_of ht (ne_kind ht h1 (by simp)))
set_option maxHeartbeats 2000000 in
theorem law_done_ (H1 : Facts1 W P1 P2) {r pl ac : Addr} {s : St} {avs : List (Nat × Nat)} {dp : Int} (hr : RowG G r s.gl) (hp : G pl = some (.list (s.ps.map vInt))) (hg : Good s.ps s.e) (ha : ActsAt G ac avs) (hlg : s.lg = [])
    (hz : avs.length ≤ 5 ∧ s.gl.length ≤ 100 ∧ s.ps.length ≤ 100) (hn : ∀ q ∈ avs, q.2 ≤ 8) (hd : dp ≤ 6)
    (k : ∀ t r' lgA G', Sub G G' → G' t = some (.tup [.ref r', .int (runM dp s avs).e 0, .ref lgA]) → RowG G' r' (runM dp s avs).gl → LogAt G' lgA (runM dp s avs).lg → K (.ref t) G') :
    CallC W (n + 4) (.ref a__law_done) [.ref r, .ref pl, .int s.e 0, .ref ac, .int dp 0] G K := by
  have F := H1.F
  refine o_EA ha fun ats a1 a2 => ?_; try clear ha
  refine fnCc F H1.f__law_done rfl (by simp [sp__law_done]) fun cd' cs hl hnd hf => ?_
  refine o_EEEAAA (three_cells hl hnd) fun c0 c1 c2 e94 hc1 hc2 hc3 => ?_; subst e94
  dsimp only [sp__law_done, b__law_done]
  have hS := sub_setCs (vs := srcM [none, none, none] [.ref r, .ref pl, .int s.e 0, .ref ac, .int dp 0]) hnd hf
  walk_at "open_"
  have h0 : (setCs G [c0, c1, c2] [none, none, none]) c0 = some (.cell none) := by (wide_line using setCs_cons; wide_open with GH.set_self)
  have h1 : (setCs G [c0, c1, c2] [none, none, none]) c1 = some (.cell none) := by (wide_line using setCs_cons; wide_line using GH.set_ne _ _ hc1.symm; wide_line using setCs_cons; wide_open with GH.set_self)
  have h2 : (setCs G [c0, c1, c2] [none, none, none]) c2 = some (.cell none) := by (wide_line using setCs_cons; wide_line using GH.set_ne _ _ hc2.symm; wide_line using setCs_cons; wide_line using GH.set_ne _ _ hc3.symm; wide_line using setCs_cons; wide_open with GH.set_self)
  have hS : Sub G (setCs G [c0, c1, c2] [none, none, none]) := hS
  have f0 := hf c0 (by simp)
  have f1 := hf c1 (by simp)
  have f2 := hf c2 (by simp)
  generalize setCs G [c0, c1, c2] [none, none, none] = G0 at *
  intro lgA hlgA
  have s1 := sub_set (o := .list []) hlgA
  refine ⟨trivial, list_of_list_ok (s1 _ _ (hS _ _ hp)) ?_⟩
  intro rs hrs
  have s2 := sub_set (o := .list (s.ps.map vInt)) hrs
  have hS2 := hS.trans (s1.trans s2)
  have nlr : rs ≠ lgA := by rintro rfl; wide_line with GH.set_self using hrs
  have flg := none_of_sub hS hlgA
  walk_at "open_"
  refine iter_tup (hS2 _ _ a1) ?_
  refine for_inv (fun ys m G' => Sub G G' ∧ ∃ (j : Nat) (t : St) (rw' rs' : Addr) (x1 x2 x3 x4 : Option Value) (y0 y1 y2 : Option Value), ys = refs (ats.drop j) ∧ j ≤ ats.length ∧
      m = [some (.ref rw'), some (.ref pl), some (.int s.e 0), some (.ref ac), some (.int dp 0), some (.ref lgA), some (.ref rs'), some (.int t.e 0), x1, x2, x3, x4] ∧ G' c0 = some (.cell y0) ∧ G' c1 = some (.cell y1) ∧ G' c2 = some (.cell y2) ∧
      RowG G' rw' t.gl ∧ G' rs' = some (.list (t.ps.map vInt)) ∧ LogAt G' lgA t.lg ∧ rw' ≠ lgA ∧ rs' ≠ lgA ∧ Good t.ps t.e ∧ t.gl.length ≤ 100 + 80 * j ∧ t.ps.length ≤ 100 + 80 * j ∧ t.lg.length ≤ j ∧ runM dp t (avs.drop j) = runM dp s avs) ?_ ?_ ?_ _ _ _
      ⟨hS2, 0, s, r, rs, none, none, none, none, none, none, none, rfl, Nat.zero_le _, rfl, s2 _ _ (s1 _ _ h0), s2 _ _ (s1 _ _ h1), s2 _ _ (s1 _ _ h2), hr.sub hS2, GH.set_self _ _ _, (i_EA ([]) (s2 _ _ (GH.set_self _ _ _)) (by wide_open with hlg; exact .nil)),
        (by rintro rfl; refine o_EA hr fun as e z9 => ?_; try clear hr; wide_line with flg using e), nlr, hg, by (first | lia | omega), by (first | lia | omega), by wide_open with hlg; exact Nat.le_refl _, rfl⟩
  · intro ys m G' hx9; obtain ⟨hG, _⟩ := hx9; exact hG _ _ a1
  · intro m G' hx9; refine o_AEEEEEEEEEEEAAAAAAAAAAAAAAA hx9 fun hG j t rw' rs' x1 x2 x3 x4 y0 y1 y2 e hj e915 z9 z9 z9 q1 q2 q3 z9 z9 z9 z9 z9 z9 hrun => ?_; try clear hx9; subst e915
    have : ats.drop j = [] := by simpa [refs] using e.symm
    have hl2 : ats.length ≤ j := List.drop_eq_nil_iff.mp this
    have : avs.drop j = [] := List.drop_eq_nil_of_le (by ((first | refine a2.length ▸ ?_ | rewrite [← a2.length]); try with_reducible rfl); exact hl2)
    rw [this] at hrun
    walk_at "open_"
    intro tp htp
    have s3 := sub_set (o := .tup [.ref rw', .int t.e 0, .ref lgA]) htp
    have hrun : t = runM dp s avs := hrun
    refine ret_same (k tp rw' lgA _ (hG.trans s3) (by ((first | refine hrun ▸ ?_ | rewrite [← hrun]); try with_reducible rfl); exact GH.set_self _ _ _) (by ((first | refine hrun ▸ ?_ | rewrite [← hrun]); try with_reducible rfl); exact q1.sub s3) (by ((first | refine hrun ▸ ?_ | rewrite [← hrun]); try with_reducible rfl); exact q3.sub s3))
  · intro y ys m G' Kn nxt nxc nxr hx9; refine o_AEEEEEEEEEEEAAAAAAAAAAAAAAA hx9 fun hG j t rw' rs' x1 x2 x3 x4 y0 y1 y2 e hj e915 k0 k1 k2 q1 q2 q3 n1 n2 hgd z1 z2 z3 hrun => ?_; try clear hx9; subst e915
    have hlt : j < ats.length := by
      rcases Nat.lt_or_ge j ats.length with h | h
      · exact h
      · wide_line with List.drop_eq_nil_of_le h using e
    have hj5 : j < 5 := by have := a2.length; (first | lia | omega)
    have hps : t.ps.length ≤ 4000000 := by lia
    rw [List.drop_eq_getElem_cons hlt] at e
    simp only [refs, List.map_cons, List.cons.injEq] at e
    obtain ⟨rfl, rfl⟩ := e
    refine o_EA (a2.get (List.getElem?_eq_getElem hlt)) fun n91 hq hqt => ?_; obtain ⟨i, num⟩ := n91
    obtain ⟨hjl, hqe⟩ := List.getElem?_eq_some_iff.mp hq
    rw [List.drop_eq_getElem_cons hjl, hqe, runM] at hrun
    have hnum := hn (i, num) (List.mem_of_getElem? hq)
    simp only at hnum hqt
    generalize ats[j] = at_ at *
    refine o_EA (id q1) fun as q1a q1b => ?_
    have qal := q1b.length
    -- going on with a state
    have goon : ∀ (G2 : GH) (t2 : St) (rw2 rs2 : Addr) (x1 x2 x3 x4 : Option Value) (y0 y1 y2 : Option Value), Sub G G2 → (actM dp t (i, num)) = (t2, true) → G2 c0 = some (.cell y0) → G2 c1 = some (.cell y1) → G2 c2 = some (.cell y2) →
        RowG G2 rw2 t2.gl → G2 rs2 = some (.list (t2.ps.map vInt)) → LogAt G2 lgA t2.lg → rw2 ≠ lgA → rs2 ≠ lgA → Good t2.ps t2.e → t2.gl.length ≤ 100 + 80 * (j + 1) → t2.ps.length ≤ 100 + 80 * (j + 1) → t2.lg.length ≤ j + 1 →
        ∀ fl : Fl, (fl = .next ∨ fl = .cont) → Kn fl [some (.ref rw2), some (.ref pl), some (.int s.e 0), some (.ref ac), some (.int dp 0), some (.ref lgA), some (.ref rs2), some (.int t2.e 0), x1, x2, x3, x4] G2 :=
      fun G2 t2 rw2 rs2 x1 x2 x3 x4 y0 y1 y2 e0 e1 e2 e3 e4 e5 e6 e7 e8 e9 ea eb ec ed fl hfl => by
        rcases hfl with rfl | rfl
        · exact nxt _ _ (i_AEEEEEEEEEEEAAAAAAAAAAAAAAA e0 (j + 1) t2 rw2 rs2 x1 x2 x3 x4 y0 y1 y2 rfl hlt rfl e2 e3 e4 e5 e6 e7 e8 e9 ea eb ec ed (by rw [e1] at hrun; simpa using hrun))
        · exact nxc _ _ (i_AEEEEEEEEEEEAAAAAAAAAAAAAAA e0 (j + 1) t2 rw2 rs2 x1 x2 x3 x4 y0 y1 y2 rfl hlt rfl e2 e3 e4 e5 e6 e7 e8 e9 ea eb ec ed (by rw [e1] at hrun; simpa using hrun))
    walk_at "open_"
    refine (i_EAA _ (by unfold itemsG; dsimp only; rw [hG _ _ hqt]) rfl ?_)
    dsimp only [sPs_cons, sPs_nil]
    walk_at "open_"
    refine ⟨trivial, len_list_ok q2 ?_⟩
    refine cmpI_ok rfl ?_
    wide_open with (show (t.ps.map vInt).length = t.ps.length by simp)
    have skip : actM dp t (i, num) = (t, true) → Kn .cont [some (.ref rw'), some (.ref pl), some (.int s.e 0), some (.ref ac), some (.int dp 0), some (.ref lgA), some (.ref rs'), some (.int t.e 0), some (.int i 0), some (.int num 0), x3, x4] G' :=
      fun he => goon G' t rw' rs' _ _ _ _ _ _ _ hG he k0 k1 k2 q1 q2 q3 n1 n2 hgd (by (first | lia | omega)) (by (first | lia | omega)) (by (first | lia | omega)) _ (.inr rfl)
    by_cases b1 : (t.ps.length : Int) ≤ i
    · wide_open with decide_eq_true b1
      walk_at "open_"
      refine skip ?_
      unfold actM
      wide_open with List.getElem?_eq_none (by (first | lia | omega))
    · wide_open with decide_eq_false b1
      walk_at "open_"
      obtain ⟨x, hx⟩ : ∃ x, t.ps[i]? = some x := ⟨_, List.getElem?_eq_getElem (by (first | lia | omega))⟩
      have hxe := hgd.le x (List.mem_of_getElem? hx)
      refine sub_list q2 (pick_int hx) ?_
      refine ⟨trivial, len_list_ok q1a ?_⟩
      refine cmpI_ok rfl ?_
      (wide_line using refs_length; wide_open with qal)
      have hact : ∀ (r : St × Bool), (if ¬ x < t.gl.length ∨ 7 < num ∨ 6 ≤ dp then (t, true) else r) = r ∨ True := fun z9 => .inr trivial
      clear hact
      by_cases b2 : (t.gl.length : Int) ≤ x
      · rw [decide_eq_true b2]
        walk_at "open_"
        refine skip ?_
        unfold actM
        simp only [hx]
        rw [if_pos (.inl (by (first | lia | omega)))]
      · wide_open with decide_eq_false b2
        walk_at "open_"
        refine cmp_if (p := (7 : Int) < num) rfl (fun b3 => ?_) (fun b3 => ?_)
        · walk_at "open_"
          refine skip ?_
          unfold actM
          simp only [hx]
          rw [if_pos (.inr (.inl (by (first | lia | omega))))]
        · walk_at "open_"
          refine cmp_if (p := dp = 6) rfl (fun b4 => ?_) (fun b4 => ?_)
          · walk_at "open_"
            refine skip ?_
            unfold actM
            simp only [hx]
            rw [if_pos (.inr (.inr (by (first | lia | omega))))]
          · walk_at "open_"
            have hact0 : actM dp t (i, num) = if num = 7 then ({ t with lg := t.lg ++ [((num : Int), x, dp + 1)] }, true) else
                (let gl' := editM t.gl x.toNat num
                 let c := (gl'.length : Int) - t.gl.length
                 if 0 < c ∧ 64 < c + t.ps.length then (⟨gl', t.ps, t.e + c, t.lg ++ [((num : Int), x, dp + 1)]⟩, false)
                 else (⟨gl', if c = 0 then t.ps else (moveM t.ps t.e i x c).1, if c = 0 then t.e else (moveM t.ps t.e i x c).2, t.lg ++ [((num : Int), x, dp + 1)]⟩, true)) := by
              unfold actM
              simp only [hx]
              wide_open with if_neg (by (first | lia | omega))
            refine o_EA (id q3) fun ts0 hts0 z9 => ?_
            refine (i_EA _ (meth_append F hts0) ?_)
            refine sub_list q2 (pick_int hx) ?_
            refine add_ok ?_
            intro tp htp
            have s3 := sub_set (o := .tup [.int num 0, .int x 0, .int (dp + 1) 0]) htp
            have hlt3 : LogT (G'.set tp (.tup [.int num 0, .int x 0, .int (dp + 1) 0])) tp ((num : Int), x, dp + 1) := GH.set_self _ _ _
            refine o_EAA ((q3.sub s3).push hlt3) fun vs hvs hvl q3' => ?_
            refine ⟨trivial, append_ok hvs (by simp [small]; (first | exact lqA (Nat.le_add_right _ _) hps | exact lqB (by lia) | exact lqD (by lia) | lia | omega)) ?_⟩
            -- the heap with the log turned
            have p0 := set_ne_of (o := .list (vs ++ [.ref tp])) (s3 _ _ k0) (ne_kind (s3 _ _ k0) hvs (by simp))
            have p1 := set_ne_of (o := .list (vs ++ [.ref tp])) (s3 _ _ k1) (ne_kind (s3 _ _ k1) hvs (by simp))
            have p2 := set_ne_of (o := .list (vs ++ [.ref tp])) (s3 _ _ k2) (ne_kind (s3 _ _ k2) hvs (by simp))
            have pS : Sub G ((G'.set tp (.tup [.int num 0, .int x 0, .int (dp + 1) 0])).set lgA (.list (vs ++ [.ref tp]))) := sub_set_new (hG.trans s3) flg
            have pq1 := (q1.sub s3).set (o := .list (vs ++ [.ref tp])) n1 hvs (fun d => by unfold infoO; simp)
            have pq2 := set_ne_of (o := .list (vs ++ [.ref tp])) (s3 _ _ q2) n2
            generalize (G'.set tp (.tup [.int num 0, .int x 0, .int (dp + 1) 0])).set lgA (.list (vs ++ [.ref tp])) = G1 at *
            refine cmpI_ok rfl ?_
            by_cases b5 : num = 7
            · wide_open with decide_eq_true (by (first | lia | omega))
              walk_at "open_"
              refine goon G1 { t with lg := t.lg ++ [((num : Int), x, dp + 1)] } rw' rs' _ _ _ _ _ _ _ pS (by (wide_line using hact0; wide_open with if_pos b5)) p0 p1 p2 pq1 pq2 q3' n1 n2 hgd (by refine (?_ : t.gl.length ≤ _); (first | lia | omega)) (by refine (?_ : t.ps.length ≤ _); (first | lia | omega)) (by simp; (first | lia | omega)) _ (.inr rfl)
            · wide_open with decide_eq_false (by (first | lia | omega))
              walk_at "open_"
              rw [if_neg b5] at hact0
              obtain ⟨xn, rfl⟩ := Int.eq_ofNat_of_zero_le hxe.1
              simp only [Int.toNat_natCast] at hact0
              refine sub_list pq2 (pick_int hx) ?_
              have hxl : xn < t.gl.length := by (first | lia | omega)
              have hel := edit_len t.gl xn num hxl
              refine ⟨keep_fn H1.k__law_edit, (edit_ H1 pq1 hxl (by (first | lia | omega)) (by (first | lia | omega)) fun r2 G2 g1 g2 g3 => ?_).T⟩
              refine o_EA (id g3) fun as2 w1 w2 => ?_
              have w2l := w2.length
              refine ⟨trivial, len_list_ok w1 ?_⟩
              refine o_EA (pq1.sub g1) fun as3 v1 v2 => ?_
              have v2l := v2.length
              refine ⟨trivial, len_list_ok v1 ?_⟩
              (wide_line using refs_length; wide_line using refs_length; wide_line using w2l; wide_open with v2l)
              intro tp2 htp2
              have s4 := sub_set (o := .tup [.int (editM t.gl xn num).length 0, .int t.gl.length 0]) htp2
              refine (i_EAA _ (by unfold itemsG; dsimp only; rw [GH.set_self]) rfl ?_)
              dsimp only [sPs_cons, sPs_nil]
              walk_at "open_"
              obtain ⟨h20, h21, h22⟩ : G2 c0 = some (.cell y0) ∧ G2 c1 = some (.cell y1) ∧ G2 c2 = some (.cell y2) := (i_AA (g1 _ _ p0) (g1 _ _ p1) (g1 _ _ p2))
              refine (i_EEAA c0 y0 rfl (s4 _ _ h20) ?_)
              refine (i_EEAA c1 y1 rfl (set_ne_of (s4 _ _ h21) hc1.symm) ?_)
              have n3 : r2 ≠ lgA := by rintro rfl; refine o_EA q3' fun z9 e z9 => ?_; try clear q3'; wide_line with g2 using e
              have S0 : ∀ v, (((G2.set tp2 (.tup [.int (editM t.gl xn num).length 0, .int t.gl.length 0])).set c0 (.cell v)).set c1 (.cell (some (.int t.gl.length 0)))) c0 = some (.cell v) := fun v => by (wide_line using GH.set_ne _ _ hc1; wide_open with GH.set_self)
              have m0 := S0 (some (.int (editM t.gl xn num).length 0))
              have m1 : (((G2.set tp2 (.tup [.int (editM t.gl xn num).length 0, .int t.gl.length 0])).set c0 (.cell (some (.int (editM t.gl xn num).length 0)))).set c1 (.cell (some (.int t.gl.length 0)))) c1 = some (.cell (some (.int t.gl.length 0))) := GH.set_self _ _ _
              have m2 := set_ne_of (o := .cell (some (.int t.gl.length 0))) (set_ne_of (o := .cell (some (.int (editM t.gl xn num).length 0))) (s4 _ _ h22) hc2.symm) hc3.symm
              have mS : Sub G (((G2.set tp2 (.tup [.int (editM t.gl xn num).length 0, .int t.gl.length 0])).set c0 (.cell (some (.int (editM t.gl xn num).length 0)))).set c1 (.cell (some (.int t.gl.length 0)))) := sub_set_new (sub_set_new (pS.trans (g1.trans s4)) f0) f1
              have c0n : ∀ {a : Addr} {g : GO}, G2 a = some g → (∀ v, g ≠ .cell v) → (((G2.set tp2 (.tup [.int (editM t.gl xn num).length 0, .int t.gl.length 0])).set c0 (.cell (some (.int (editM t.gl xn num).length 0)))).set c1 (.cell (some (.int t.gl.length 0)))) a = some g := fun {a g} ha hk => set_ne_of (set_ne_of (s4 _ _ ha) (ne_kind ha h20 (hk _))) (ne_kind ha h21 (hk _))
              have mrow : RowG (((G2.set tp2 (.tup [.int (editM t.gl xn num).length 0, .int t.gl.length 0])).set c0 (.cell (some (.int (editM t.gl xn num).length 0)))).set c1 (.cell (some (.int t.gl.length 0)))) r2 (editM t.gl xn num) := by
                refine o_EA g3 fun as' e1 e2 => ?_; try clear g3
                exact (i_EA as' (c0n e1 (by simp)) (e2.imp fun _ _ ⟨d, e, q⟩ => (i_EA d (c0n e (fun v => by unfold infoO; simp)) q)))
              have mlog : LogAt (((G2.set tp2 (.tup [.int (editM t.gl xn num).length 0, .int t.gl.length 0])).set c0 (.cell (some (.int (editM t.gl xn num).length 0)))).set c1 (.cell (some (.int t.gl.length 0)))) lgA (t.lg ++ [((num : Int), (xn : Int), dp + 1)]) := by
                refine o_EA (q3'.sub g1) fun as' e1 e2 => ?_
                exact (i_EA as' (c0n e1 (by simp)) (e2.imp fun z9 z9 e => c0n e (by simp)))
              have mrs := c0n (g1 _ _ pq2) (by simp)
              generalize ((G2.set tp2 (.tup [.int (editM t.gl xn num).length 0, .int t.gl.length 0])).set c0 (.cell (some (.int (editM t.gl xn num).length 0)))).set c1 (.cell (some (.int t.gl.length 0))) = G3 at *
              refine cell_ok (m0) ?_
              refine cell_ok (m1) ?_
              refine sub_int_ok ?_
              refine ⟨trivial, len_list_ok mrs ?_⟩
              refine add_ok ?_
              refine cmpI_ok rfl ?_
              wide_open with (show (t.ps.map vInt).length = t.ps.length by simp)
              rcases Classical.em (0 < ((editM t.gl xn num).length : Int) - t.gl.length ∧ 64 < ((editM t.gl xn num).length : Int) - t.gl.length + t.ps.length) with hstop | hstop
              · wide_open with decide_eq_true hstop.2
                walk_at "open_"
                refine cell_ok (m0) ?_
                refine cell_ok (m1) ?_
                refine cmp_t rfl (by (first | lia | omega)) ?_
                walk_at "open_"
                refine cell_ok (m0) ?_
                refine add_ok ?_
                refine cell_ok (m1) ?_
                refine sub_int_ok ?_
                intro tq htq
                have s5 := sub_set (o := .tup [.ref r2, .int (t.e + (editM t.gl xn num).length - t.gl.length) 0, .ref lgA]) htq
                try dsimp only at hact0
                rw [if_pos hstop] at hact0
                rw [hact0] at hrun
                simp only [Bool.false_eq_true, if_false] at hrun
                walk_at "open_"
                refine nxr _ _ _ (ret_same (k tq r2 lgA _ (mS.trans s5) ?_ ?_ ?_))
                · ((first | refine hrun ▸ ?_ | rewrite [← hrun]); wide_open with GH.set_self)
                  have : t.e + ((editM t.gl xn num).length : Int) - t.gl.length = t.e + (((editM t.gl xn num).length : Int) - t.gl.length) := by (first | lia | omega)
                  rw [this]
                · ((first | refine hrun ▸ ?_ | rewrite [← hrun]); try with_reducible rfl); exact mrow.sub s5
                · ((first | refine hrun ▸ ?_ | rewrite [← hrun]); try with_reducible rfl); exact mlog.sub s5
              · by_cases b6 : 64 < ((editM t.gl xn num).length : Int) - t.gl.length + t.ps.length
                case' neg => wide_open with decide_eq_false b6
                case' pos =>
                  wide_open with decide_eq_true b6
                  walk_at "open_"
                  refine cell_ok (m0) ?_
                  refine cell_ok (m1) ?_
                  refine cmp_f rfl (by (first | lia | omega)) ?_
                all_goals
                  walk_at "open_"
                  refine sub_list mrs (pick_int hx) ?_
                  refine (i_EEAA c2 y2 rfl m2 ?_)
                  have w0 := set_ne_of (o := .cell (some (.int xn 0))) m0 hc2
                  have w1' := set_ne_of (o := .cell (some (.int xn 0))) m1 hc3
                  have w2' : (G3.set c2 (.cell (some (.int xn 0)))) c2 = some (.cell (some (.int xn 0))) := GH.set_self _ _ _
                  have wS : Sub G (G3.set c2 (.cell (some (.int xn 0)))) := sub_set_new mS f2
                  have wq1 := mrow.set (o := .cell (some (.int xn 0))) (by rintro rfl; refine o_EA mrow fun z9 e z9 => ?_; try clear mrow; wide_line with m2 using e) m2 (fun d => by unfold infoO; simp)
                  have wq3 := mlog.set (o := .cell (some (.int xn 0))) (by rintro rfl; refine o_EA mlog fun z9 e z9 => ?_; try clear mlog; wide_line with m2 using e) m2 (fun d => by simp)
                  have wrs := set_ne_of (o := .cell (some (.int xn 0))) mrs (ne_kind mrs m2 (by simp))
                  generalize G3.set c2 (.cell (some (.int xn 0))) = G4 at *
                  walk_at "open_"
                  refine add_ok ?_
                  refine slice_list_ok (lo := some (i + 1)) (hi := none) wrs (by simp [partV]) rfl ?_
                  intro la hla
                  wide_open with cut_ints
                  have sa := sub_set (o := .list (((t.ps.take ((none : Option Nat).getD t.ps.length)).drop ((some (i + 1)).getD 0)).map vInt)) hla
                  refine iter_list (GH.set_self _ _ _) ⟨by simp [small]; (first | exact lqA (Nat.le_add_right _ _) hps | exact lqB (by lia) | exact lqD (by lia) | lia | omega), ?_⟩
                  refine comp_map (fun v => match v with | .int j _ => vInt ((t.gl.length : Int) - j) | v => v) (GH.set_self _ _ _) _ [] (fun y hy kk => ?_) ?_
                  · refine o_EA (List.mem_map.mp hy) fun j' hj' e93 => ?_; subst e93
                    intro kq
                    refine cell_ok (sa _ _ w1') ?_
                    refine sub_int_ok ?_
                    exact kq
                  intro en hen
                  have e1 : ([] ++ (((t.ps.take ((none : Option Nat).getD t.ps.length)).drop ((some (i + 1)).getD 0)).map vInt).map fun v => match v with | .int j _ => vInt ((t.gl.length : Int) - j) | v => v) = ((t.ps.drop (i + 1)).map ((t.gl.length : Int) - ·)).map vInt := by simp only [List.nil_append, List.map_map, Option.getD_none, Option.getD_some, List.take_length]; rfl
                  rw [e1] at *
                  have sb := sa.trans (sub_set (o := .list (((t.ps.drop (i + 1)).map ((t.gl.length : Int) - ·)).map vInt)) hen)
                  have hen' : ((G4.set la (.list (((t.ps.take ((none : Option Nat).getD t.ps.length)).drop ((some (i + 1)).getD 0)).map vInt))).set en (.list (((t.ps.drop (i + 1)).map ((t.gl.length : Int) - ·)).map vInt))) en = some (.list (((t.ps.drop (i + 1)).map ((t.gl.length : Int) - ·)).map vInt)) := GH.set_self _ _ _
                  generalize (G4.set la (.list (((t.ps.take ((none : Option Nat).getD t.ps.length)).drop ((some (i + 1)).getD 0)).map vInt))).set en (.list (((t.ps.drop (i + 1)).map ((t.gl.length : Int) - ·)).map vInt)) = G5 at *
                  have lgN : ∀ {Gx : GH} {a : Addr}, Sub G4 Gx → Gx a = none → a ≠ lgA := fun {Gx a} h1 h2 => by rintro rfl; refine o_EA wq3 fun z9 e z9 => ?_; try clear wq3; wide_line with h1 _ _ e using h2
                  refine cell_ok (sb _ _ w0) ?_
                  refine cell_ok (sb _ _ w1') ?_
                  refine cmp_if (p := (t.gl.length : Int) < (editM t.gl xn num).length) rfl (fun b8 => ?_) (fun b8 => ?_)
                  · walk_at "open_"
                    refine add_ok ?_
                    refine slice_list_ok (lo := none) (hi := some (i + 1)) (sb _ _ wrs) rfl (by simp [partV]) ?_
                    intro lb hlb
                    wide_open with cut_ints
                    have sc := sb.trans (sub_set (o := .list (((t.ps.take ((some (i + 1)).getD t.ps.length)).drop ((none : Option Nat).getD 0)).map vInt)) hlb)
                    refine cell_ok (sc _ _ w0) ?_
                    refine cell_ok (sc _ _ w1') ?_
                    refine sub_int_ok ?_
                    obtain ⟨mm, hmm⟩ := Int.eq_ofNat_of_zero_le (show 0 ≤ ((editM t.gl xn num).length : Int) - t.gl.length by (first | lia | omega))
                    wide_open with hmm
                    refine ⟨trivial, range1_ok ?_⟩
                    intro rg hrg
                    have s1r := sub_set (o := .range 0 mm) hrg
                    have sd := sc.trans s1r
                    refine iter_range (GH.set_self _ _ _) (by (first | lia | omega)) ⟨by simp [small]; (first | exact lqA (Nat.le_add_right _ _) hps | exact lqB (by lia) | exact lqD (by lia) | lia | omega), ?_⟩
                    refine comp_map (fun v => match v with | .int j _ => vInt ((xn : Int) + 1 + j) | v => v) trivial _ [] (fun y hy kk => ?_) ?_
                    · refine o_EA (List.mem_map.mp hy) fun j' hj' e93 => ?_; subst e93
                      intro kq
                      refine cell_ok (sd _ _ w2') ?_
                      refine add_ok ?_
                      refine add_ok ?_
                      exact kq
                    intro lc hlc
                    have e2 : ([] ++ ((List.range mm).map fun (j : Nat) => Value.int (j : Int) 0).map fun v => match v with | .int j _ => vInt ((xn : Int) + 1 + j) | v => v) = ((List.range mm).map fun (j : Nat) => (xn : Int) + 1 + (j : Int)).map vInt := by simp only [List.nil_append, List.map_map]; rfl
                    rw [e2] at *
                    have s2r := sub_set (o := .list (((List.range mm).map fun (j : Nat) => (xn : Int) + 1 + (j : Int)).map vInt)) hlc
                    have se := sd.trans s2r
                    refine concat_ok (s2r _ _ (s1r _ _ (GH.set_self _ _ _))) (GH.set_self _ _ _) (by simp [small]; (first | exact lqA (Nat.le_add_right _ _) hps | exact lqB (by lia) | exact lqD (by lia) | lia | omega)) ?_
                    intro ld hld
                    have s3r := sub_set (o := .list (((t.ps.take ((some (i + 1)).getD t.ps.length)).drop ((none : Option Nat).getD 0)).map vInt ++ ((List.range mm).map fun (j : Nat) => (xn : Int) + 1 + (j : Int)).map vInt)) hld
                    have sf := se.trans s3r
                    have henf := s3r _ _ (s2r _ _ (s1r _ _ (sub_set (o := .list (((t.ps.take ((some (i + 1)).getD t.ps.length)).drop ((none : Option Nat).getD 0)).map vInt)) hlb _ _ hen')))
                    refine iter_list henf ⟨by simp [small]; (first | exact lqA (Nat.le_add_right _ _) hps | exact lqB (by lia) | exact lqD (by lia) | lia | omega), ?_⟩
                    refine comp_map (fun v => match v with | .int j _ => vInt (((editM t.gl xn num).length : Int) - j) | v => v) henf _ [] (fun y hy kk => ?_) ?_
                    · refine o_EA (List.mem_map.mp hy) fun j' hj' e93 => ?_; subst e93
                      intro kq
                      refine cell_ok (sf _ _ w0) ?_
                      refine sub_int_ok ?_
                      exact kq
                    intro le hle
                    have e3 : ([] ++ (((t.ps.drop (i + 1)).map ((t.gl.length : Int) - ·)).map vInt).map fun v => match v with | .int j _ => vInt (((editM t.gl xn num).length : Int) - j) | v => v) = (((t.ps.drop (i + 1)).map ((t.gl.length : Int) - ·)).map (((editM t.gl xn num).length : Int) - ·)).map vInt := by simp only [List.nil_append, List.map_map]; rfl
                    rw [e3] at *
                    have s4r := sub_set (o := .list ((((t.ps.drop (i + 1)).map ((t.gl.length : Int) - ·)).map (((editM t.gl xn num).length : Int) - ·)).map vInt)) hle
                    have sg := sf.trans s4r
                    refine concat_ok (s4r _ _ (GH.set_self _ _ _)) (GH.set_self _ _ _) (by simp [small]; (first | exact lqA (Nat.le_add_right _ _) hps | exact lqB (by lia) | exact lqD (by lia) | lia | omega)) ?_
                    intro rs5 hrs0
                    have S5 := sg.trans (sub_set (o := .list (((t.ps.take ((some (i + 1)).getD t.ps.length)).drop ((none : Option Nat).getD 0)).map vInt ++ ((List.range mm).map fun (j : Nat) => (xn : Int) + 1 + (j : Int)).map vInt ++ (((t.ps.drop (i + 1)).map ((t.gl.length : Int) - ·)).map (((editM t.gl xn num).length : Int) - ·)).map vInt)) hrs0)
                    have hne5 := lgN sg hrs0
                    have hrs5 := GH.set_self ((((((G5.set lb (.list (((t.ps.take ((some (i + 1)).getD t.ps.length)).drop ((none : Option Nat).getD 0)).map vInt))).set rg (.range 0 mm)).set lc (.list (((List.range mm).map fun (j : Nat) => (xn : Int) + 1 + (j : Int)).map vInt))).set ld (.list (((t.ps.take ((some (i + 1)).getD t.ps.length)).drop ((none : Option Nat).getD 0)).map vInt ++ ((List.range mm).map fun (j : Nat) => (xn : Int) + 1 + (j : Int)).map vInt))).set le (.list ((((t.ps.drop (i + 1)).map ((t.gl.length : Int) - ·)).map (((editM t.gl xn num).length : Int) - ·)).map vInt)))) rs5 (.list (((t.ps.take ((some (i + 1)).getD t.ps.length)).drop ((none : Option Nat).getD 0)).map vInt ++ ((List.range mm).map fun (j : Nat) => (xn : Int) + 1 + (j : Int)).map vInt ++ (((t.ps.drop (i + 1)).map ((t.gl.length : Int) - ·)).map (((editM t.gl xn num).length : Int) - ·)).map vInt))
                    have hval : ((t.ps.take ((some (i + 1)).getD t.ps.length)).drop ((none : Option Nat).getD 0)).map vInt ++ ((List.range mm).map fun (j : Nat) => (xn : Int) + 1 + (j : Int)).map vInt ++ (((t.ps.drop (i + 1)).map ((t.gl.length : Int) - ·)).map (((editM t.gl xn num).length : Int) - ·)).map vInt = (restL t.ps t.e i xn ((editM t.gl xn num).length : Int) (t.gl.length : Int)).map vInt := by
                      unfold restL
                      (wide_line using if_pos b8; wide_open with hmm)
                      simp
                    rw [hval] at hrs5 S5 ⊢
                    -- the new end, and on
                    refine cell_ok (S5 _ _ w0) ?_
                    refine cell_ok (S5 _ _ w1') ?_
                    walk_at "open_"
                    refine sub_int_ok ?_
                    refine sub_int_ok ?_
                    refine cell_ok (S5 _ _ w2') ?_
                    refine ⟨trivial, max2_ok ?_⟩
                    have hlm := law_move (size := ((editM t.gl xn num).length : Int)) (old := (t.gl.length : Int)) hgd hx
                    wide_open with hlm.2
                    refine goon _ ⟨editM t.gl xn num, if ((editM t.gl xn num).length : Int) - t.gl.length = 0 then t.ps else (moveM t.ps t.e i xn (((editM t.gl xn num).length : Int) - t.gl.length)).1, if ((editM t.gl xn num).length : Int) - t.gl.length = 0 then t.e else (moveM t.ps t.e i xn (((editM t.gl xn num).length : Int) - t.gl.length)).2, t.lg ++ [((num : Int), (xn : Int), dp + 1)]⟩ r2 rs5 _ _ _ _ _ _ _ (wS.trans S5) (by wide_open with hact0; (try dsimp only); wide_open with if_neg hstop) (S5 _ _ w0) (S5 _ _ w1') (S5 _ _ w2') (wq1.sub S5) (by (wide_line using hrs5; (first | refine hlm.1 ▸ ?_ | rewrite [← hlm.1]); try with_reducible rfl)) (wq3.sub S5) n3 hne5 ?_ ?_ ?_ ?_ _ (.inl rfl)
                    · dsimp only
                      split
                      · exact hgd
                      · exact good_move hgd hx
                    · dsimp only; (first | lia | omega)
                    · have := moveM_len t.ps t.e i xn (((editM t.gl xn num).length : Int) - t.gl.length) hxe.2
                      dsimp only
                      split <;> (first | lia | omega)
                    · simp; (first | lia | omega)
                  · walk_at "open_"
                    refine cell_ok (sb _ _ w2') ?_
                    refine sub_int_ok ?_
                    refine cell_ok (sb _ _ w1') ?_
                    refine cell_ok (sb _ _ w0) ?_
                    refine sub_int_ok ?_
                    refine cmp_if (p := t.e - (xn : Int) ≤ (t.gl.length : Int) - (editM t.gl xn num).length) rfl (fun b9 => ?_) (fun b9 => ?_)
                    · walk_at "open_"
                      obtain ⟨mm, hmm⟩ := Int.eq_ofNat_of_zero_le (show 0 ≤ t.e - (xn : Int) by (first | lia | omega))
                      have hrl : restL t.ps t.e i xn ((editM t.gl xn num).length : Int) (t.gl.length : Int) = t.ps.take (i + 1) ++ (((t.ps.drop (i + 1)).map ((t.gl.length : Int) - ·)).drop mm).map (((editM t.gl xn num).length : Int) - ·) := by
                        unfold restL; (wide_line using if_neg b8; wide_line using if_pos b9; wide_open with hmm); rfl
                      refine add_ok ?_
                      refine slice_list_ok (lo := none) (hi := some (i + 1)) (sb _ _ wrs) rfl (by simp [partV]) ?_
                      intro lb hlb
                      wide_open with cut_ints
                      have s1r := sub_set (o := .list (((t.ps.take ((some (i + 1)).getD t.ps.length)).drop ((none : Option Nat).getD 0)).map vInt)) hlb
                      have sc := sb.trans s1r
                      refine cell_ok (sc _ _ w2') ?_
                      refine sub_int_ok ?_
                      wide_open with hmm
                      refine slice_list_ok (lo := some mm) (hi := none) (s1r _ _ hen') rfl rfl ?_
                      intro lc hlc
                      wide_open with cut_ints
                      have s2r := sub_set (o := .list (((((t.ps.drop (i + 1)).map ((t.gl.length : Int) - ·)).take ((none : Option Nat).getD ((t.ps.drop (i + 1)).map ((t.gl.length : Int) - ·)).length)).drop ((some mm).getD 0)).map vInt)) hlc
                      have sd := sc.trans s2r
                      refine iter_list (GH.set_self _ _ _) ⟨by simp [small]; (first | exact lqA (Nat.le_add_right _ _) hps | exact lqB (by lia) | exact lqD (by lia) | lia | omega), ?_⟩
                      refine comp_map (fun v => match v with | .int j _ => vInt (((editM t.gl xn num).length : Int) - j) | v => v) (GH.set_self _ _ _) _ [] (fun y hy kk => ?_) ?_
                      · refine o_EA (List.mem_map.mp hy) fun j' hj' e93 => ?_; subst e93
                        intro kq
                        refine cell_ok (sd _ _ w0) ?_
                        refine sub_int_ok ?_
                        exact kq
                      intro le hle
                      have e3 : ([] ++ (((((t.ps.drop (i + 1)).map ((t.gl.length : Int) - ·)).take ((none : Option Nat).getD ((t.ps.drop (i + 1)).map ((t.gl.length : Int) - ·)).length)).drop ((some mm).getD 0)).map vInt).map fun v => match v with | .int j _ => vInt (((editM t.gl xn num).length : Int) - j) | v => v) = ((((t.ps.drop (i + 1)).map ((t.gl.length : Int) - ·)).drop mm).map (((editM t.gl xn num).length : Int) - ·)).map vInt := by simp only [List.nil_append, List.map_map, Option.getD_none, Option.getD_some, List.take_length]; rfl
                      rw [e3] at *
                      have s3r := sub_set (o := .list (((((t.ps.drop (i + 1)).map ((t.gl.length : Int) - ·)).drop mm).map (((editM t.gl xn num).length : Int) - ·)).map vInt)) hle
                      have se := sd.trans s3r
                      refine concat_ok (s3r _ _ (s2r _ _ (GH.set_self _ _ _))) (GH.set_self _ _ _) (by simp [small]; (first | exact lqA (Nat.le_add_right _ _) hps | exact lqB (by lia) | exact lqD (by lia) | lia | omega)) ?_
                      intro rs5 hrs0
                      have hval : ((t.ps.take ((some (i + 1)).getD t.ps.length)).drop ((none : Option Nat).getD 0)).map vInt ++ ((((t.ps.drop (i + 1)).map ((t.gl.length : Int) - ·)).drop mm).map (((editM t.gl xn num).length : Int) - ·)).map vInt = (restL t.ps t.e i xn ((editM t.gl xn num).length : Int) (t.gl.length : Int)).map vInt := by
                        wide_open with hrl
                        simp
                      rw [hval] at *
                      have S5 := se.trans (sub_set (o := .list ((restL t.ps t.e i xn ((editM t.gl xn num).length : Int) (t.gl.length : Int)).map vInt)) hrs0)
                      have hne5 := lgN se hrs0
                      have hrs5 := GH.set_self (((G5.set lb (.list (((t.ps.take ((some (i + 1)).getD t.ps.length)).drop ((none : Option Nat).getD 0)).map vInt))).set lc (.list (((((t.ps.drop (i + 1)).map ((t.gl.length : Int) - ·)).take ((none : Option Nat).getD ((t.ps.drop (i + 1)).map ((t.gl.length : Int) - ·)).length)).drop ((some mm).getD 0)).map vInt))).set le (.list (((((t.ps.drop (i + 1)).map ((t.gl.length : Int) - ·)).drop mm).map (((editM t.gl xn num).length : Int) - ·)).map vInt))) rs5 (.list ((restL t.ps t.e i xn ((editM t.gl xn num).length : Int) (t.gl.length : Int)).map vInt))
                      -- the new end, and on
                      refine cell_ok (S5 _ _ w0) ?_
                      refine cell_ok (S5 _ _ w1') ?_
                      walk_at "open_"
                      refine sub_int_ok ?_
                      refine sub_int_ok ?_
                      refine cell_ok (S5 _ _ w2') ?_
                      refine ⟨trivial, max2_ok ?_⟩
                      have hlm := law_move (size := ((editM t.gl xn num).length : Int)) (old := (t.gl.length : Int)) hgd hx
                      wide_open with hlm.2
                      refine goon _ ⟨editM t.gl xn num, if ((editM t.gl xn num).length : Int) - t.gl.length = 0 then t.ps else (moveM t.ps t.e i xn (((editM t.gl xn num).length : Int) - t.gl.length)).1, if ((editM t.gl xn num).length : Int) - t.gl.length = 0 then t.e else (moveM t.ps t.e i xn (((editM t.gl xn num).length : Int) - t.gl.length)).2, t.lg ++ [((num : Int), (xn : Int), dp + 1)]⟩ r2 rs5 _ _ _ _ _ _ _ (wS.trans S5) (by wide_open with hact0; (try dsimp only); wide_open with if_neg hstop) (S5 _ _ w0) (S5 _ _ w1') (S5 _ _ w2') (wq1.sub S5) (by (wide_line using hrs5; (first | refine hlm.1 ▸ ?_ | rewrite [← hlm.1]); try with_reducible rfl)) (wq3.sub S5) n3 hne5 ?_ ?_ ?_ ?_ _ (.inl rfl)
                      · dsimp only
                        split
                        · exact hgd
                        · exact good_move hgd hx
                      · dsimp only; (first | lia | omega)
                      · have := moveM_len t.ps t.e i xn (((editM t.gl xn num).length : Int) - t.gl.length) hxe.2
                        dsimp only
                        split <;> (first | lia | omega)
                      · simp; (first | lia | omega)
                    · walk_at "open_"
                      obtain ⟨mm, hmm⟩ := Int.eq_ofNat_of_zero_le (show 0 ≤ (t.gl.length : Int) - (editM t.gl xn num).length by (first | lia | omega))
                      have hrl : restL t.ps t.e i xn ((editM t.gl xn num).length : Int) (t.gl.length : Int) = t.ps.take (i + 1) ++ (((t.ps.drop (i + 1)).map ((t.gl.length : Int) - ·)).drop mm).map (((editM t.gl xn num).length : Int) - ·) := by
                        unfold restL; (wide_line using if_neg b8; wide_line using if_neg b9; wide_open with hmm); rfl
                      refine add_ok ?_
                      refine slice_list_ok (lo := none) (hi := some (i + 1)) (sb _ _ wrs) rfl (by simp [partV]) ?_
                      intro lb hlb
                      wide_open with cut_ints
                      have s1r := sub_set (o := .list (((t.ps.take ((some (i + 1)).getD t.ps.length)).drop ((none : Option Nat).getD 0)).map vInt)) hlb
                      have sc := sb.trans s1r
                      refine cell_ok (sc _ _ w1') ?_
                      refine cell_ok (sc _ _ w0) ?_
                      refine sub_int_ok ?_
                      wide_open with hmm
                      refine slice_list_ok (lo := some mm) (hi := none) (s1r _ _ hen') rfl rfl ?_
                      intro lc hlc
                      wide_open with cut_ints
                      have s2r := sub_set (o := .list (((((t.ps.drop (i + 1)).map ((t.gl.length : Int) - ·)).take ((none : Option Nat).getD ((t.ps.drop (i + 1)).map ((t.gl.length : Int) - ·)).length)).drop ((some mm).getD 0)).map vInt)) hlc
                      have sd := sc.trans s2r
                      refine iter_list (GH.set_self _ _ _) ⟨by simp [small]; (first | exact lqA (Nat.le_add_right _ _) hps | exact lqB (by lia) | exact lqD (by lia) | lia | omega), ?_⟩
                      refine comp_map (fun v => match v with | .int j _ => vInt (((editM t.gl xn num).length : Int) - j) | v => v) (GH.set_self _ _ _) _ [] (fun y hy kk => ?_) ?_
                      · refine o_EA (List.mem_map.mp hy) fun j' hj' e93 => ?_; subst e93
                        intro kq
                        refine cell_ok (sd _ _ w0) ?_
                        refine sub_int_ok ?_
                        exact kq
                      intro le hle
                      have e3 : ([] ++ (((((t.ps.drop (i + 1)).map ((t.gl.length : Int) - ·)).take ((none : Option Nat).getD ((t.ps.drop (i + 1)).map ((t.gl.length : Int) - ·)).length)).drop ((some mm).getD 0)).map vInt).map fun v => match v with | .int j _ => vInt (((editM t.gl xn num).length : Int) - j) | v => v) = ((((t.ps.drop (i + 1)).map ((t.gl.length : Int) - ·)).drop mm).map (((editM t.gl xn num).length : Int) - ·)).map vInt := by simp only [List.nil_append, List.map_map, Option.getD_none, Option.getD_some, List.take_length]; rfl
                      rw [e3] at *
                      have s3r := sub_set (o := .list (((((t.ps.drop (i + 1)).map ((t.gl.length : Int) - ·)).drop mm).map (((editM t.gl xn num).length : Int) - ·)).map vInt)) hle
                      have se := sd.trans s3r
                      refine concat_ok (s3r _ _ (s2r _ _ (GH.set_self _ _ _))) (GH.set_self _ _ _) (by simp [small]; (first | exact lqA (Nat.le_add_right _ _) hps | exact lqB (by lia) | exact lqD (by lia) | lia | omega)) ?_
                      intro rs5 hrs0
                      have hval : ((t.ps.take ((some (i + 1)).getD t.ps.length)).drop ((none : Option Nat).getD 0)).map vInt ++ ((((t.ps.drop (i + 1)).map ((t.gl.length : Int) - ·)).drop mm).map (((editM t.gl xn num).length : Int) - ·)).map vInt = (restL t.ps t.e i xn ((editM t.gl xn num).length : Int) (t.gl.length : Int)).map vInt := by
                        wide_open with hrl
                        simp
                      rw [hval] at *
                      have S5 := se.trans (sub_set (o := .list ((restL t.ps t.e i xn ((editM t.gl xn num).length : Int) (t.gl.length : Int)).map vInt)) hrs0)
                      have hne5 := lgN se hrs0
                      have hrs5 := GH.set_self (((G5.set lb (.list (((t.ps.take ((some (i + 1)).getD t.ps.length)).drop ((none : Option Nat).getD 0)).map vInt))).set lc (.list (((((t.ps.drop (i + 1)).map ((t.gl.length : Int) - ·)).take ((none : Option Nat).getD ((t.ps.drop (i + 1)).map ((t.gl.length : Int) - ·)).length)).drop ((some mm).getD 0)).map vInt))).set le (.list (((((t.ps.drop (i + 1)).map ((t.gl.length : Int) - ·)).drop mm).map (((editM t.gl xn num).length : Int) - ·)).map vInt))) rs5 (.list ((restL t.ps t.e i xn ((editM t.gl xn num).length : Int) (t.gl.length : Int)).map vInt))
                      -- the new end, and on
                      refine cell_ok (S5 _ _ w0) ?_
                      refine cell_ok (S5 _ _ w1') ?_
                      walk_at "open_"
                      refine sub_int_ok ?_
                      refine sub_int_ok ?_
                      refine cell_ok (S5 _ _ w2') ?_
                      refine ⟨trivial, max2_ok ?_⟩
                      have hlm := law_move (size := ((editM t.gl xn num).length : Int)) (old := (t.gl.length : Int)) hgd hx
                      wide_open with hlm.2
                      refine goon _ ⟨editM t.gl xn num, if ((editM t.gl xn num).length : Int) - t.gl.length = 0 then t.ps else (moveM t.ps t.e i xn (((editM t.gl xn num).length : Int) - t.gl.length)).1, if ((editM t.gl xn num).length : Int) - t.gl.length = 0 then t.e else (moveM t.ps t.e i xn (((editM t.gl xn num).length : Int) - t.gl.length)).2, t.lg ++ [((num : Int), (xn : Int), dp + 1)]⟩ r2 rs5 _ _ _ _ _ _ _ (wS.trans S5) (by wide_open with hact0; (try dsimp only); wide_open with if_neg hstop) (S5 _ _ w0) (S5 _ _ w1') (S5 _ _ w2') (wq1.sub S5) (by (wide_line using hrs5; (first | refine hlm.1 ▸ ?_ | rewrite [← hlm.1]); try with_reducible rfl)) (wq3.sub S5) n3 hne5 ?_ ?_ ?_ ?_ _ (.inl rfl)
                      · dsimp only
                        split
                        · exact hgd
                        · exact good_move hgd hx
                      · dsimp only; (first | lia | omega)
                      · have := moveM_len t.ps t.e i xn (((editM t.gl xn num).length : Int) - t.gl.length) hxe.2
                        dsimp only
                        split <;> (first | lia | omega)
                      · simp; (first | lia | omega)
end
section
open PySem PySem.W PySem.Calls PyProof.Rows
variable {W : Wd} {n : Nat} {G : GH} {K : KV} {cs : List Addr} {P1 P2 : Addr}
noncomputable def Kp2 (l b : Addr) (G G' : GH) : Prop := ∀ a g, a ≠ l → a ≠ b → G a = some g → G' a = some g
theorem cloC (F : Facts W) {f : Addr} {sp : FnSpec} {k : Nat} {args : List Value} (h : CloAt W G f sp cs k) (hk : args.length = k) (w : ∀ cd, wpSs W n cd sp.cels cs sp.body (srcM sp.lsrc args) G (bodyK K)) : CallC W (n + 1) (.ref f) args G K := by
  refine o_EE F.O fun mg mb O => ?_
  exact callT_clo O h hk w
theorem apply_law_ (H1 : Facts1 W P1 P2) {ap inner cl cr lg b gd ls lk st r : Addr} {dp : Int} {num xn : Nat} {gl : List Int} {lgs : List (Int × Int × Int)} {lks : List Addr} {tb : Value} (hc : CloAt W G ap sp_law_apply_at [cl, cr] 2)
    (hcl : G cl = some (.cell (some (.ref lg)))) (hcr : G cr = some (.cell (some (.ref b)))) (hi : G inner = some (sceneO b gd ls lk 1 dp st)) (hlk : G lk = some (lookO "single" 0 num tb)) (hls : G ls = some (.list (refs lks))) (hl8 : lks.length = 8) (hne : ls ≠ lg)
    (hb : G b = some (bufO r)) (hr : RowG G r gl) (hrl : r ≠ lg) (hlg : LogAt G lg lgs) (hx : xn < gl.length) (hn : num ≤ 7) (hz : gl.length ≤ 5000 ∧ lgs.length ≤ 1000)
    (k7 : num = 7 → ∀ G', Kp2 lg b G G' → G' b = some (bufO r) → RowG G' r gl → LogAt G' lg (lgs ++ [((num : Int), (xn : Int), dp)]) → K (.int (-1) 0) G')
    (k : num ≠ 7 → ∀ G' r', Kp2 lg b G G' → G' b = some (bufO r') → r' ≠ lg → G r' = none → RowG G' r' (editM gl xn num) → LogAt G' lg (lgs ++ [((num : Int), (xn : Int), dp)]) → K (.int ((xn : Int) + 1) 0) G') :
    CallC W (n + 4) (.ref ap) [.ref inner, .int xn 0] G K := by
  have F := H1.F
  refine cloC F hc rfl fun cd => ?_
  dsimp only [sp_law_apply_at, b_law_apply_at]
  walk_at "open_"
  refine attr_ hi F.c_Scene rfl rfl rfl ?_
  refine attr_ hlk F.c_Lookup rfl rfl rfl ?_
  refine cell_ok (hcl) ?_
  refine o_EA (id hlg) fun ts0 hts0 z9 => ?_
  refine (i_EA _ (meth_append F hts0) ?_)
  refine attr_ hi F.c_Scene rfl rfl rfl ?_
  intro tp htp
  have s3 := sub_set (o := .tup [.int num 0, .int xn 0, .int dp 0]) htp
  have hlt3 : LogT (G.set tp (.tup [.int num 0, .int xn 0, .int dp 0])) tp ((num : Int), (xn : Int), dp) := GH.set_self _ _ _
  refine o_EAA ((hlg.sub s3).push hlt3) fun vs hvs hvl hlg' => ?_
  refine ⟨trivial, append_ok hvs (by simp [small]; (first | exact lqA (by lia) (by lia) | exact lqB (by lia) | exact lqD (by lia) | lia)) ?_⟩
  have nk : ∀ {a : Addr} {g : GO}, G a = some g → (∀ xs, g ≠ .list xs) → ((G.set tp (.tup [.int num 0, .int xn 0, .int dp 0])).set lg (.list (vs ++ [.ref tp]))) a = some g := fun {a g} ha hk => set_ne_of (s3 _ _ ha) (ne_kind (s3 _ _ ha) hvs (hk _))
  have m1 := nk hi (by unfold sceneO; simp)
  have m2 := nk hlk (by unfold lookO; simp)
  have m3 := set_ne_of (o := .list (vs ++ [.ref tp])) (s3 _ _ hls) hne
  have m4 := nk hb (by unfold bufO; simp)
  have m5 := nk hcr (by simp)
  have m6 := (hr.sub s3).set (o := .list (vs ++ [.ref tp])) hrl hvs (fun d => by unfold infoO; simp)
  have mK : Kp2 lg b G ((G.set tp (.tup [.int num 0, .int xn 0, .int dp 0])).set lg (.list (vs ++ [.ref tp]))) := fun a g h1 z9 h => set_ne_of (s3 _ _ h) h1
  generalize (G.set tp (.tup [.int num 0, .int xn 0, .int dp 0])).set lg (.list (vs ++ [.ref tp])) = G1 at *
  refine o_EA (id m6) fun as r1 r2 => ?_
  walk_at "open_"
  refine attr_ m1 F.c_Scene rfl rfl rfl ?_
  refine cmpI_ok rfl ?_
  wide_open with decide_eq_true (by rfl)
  walk_at "open_"
  refine attr_ m1 F.c_Scene rfl rfl rfl ?_
  refine attr_ m2 F.c_Lookup rfl rfl rfl ?_
  refine ne_str_ok ?_
  wide_open with (show ((Str.ofString "single" : Str) != Str.ofString "single") = false by decide +kernel)
  refine attr_ m1 F.c_Scene rfl rfl rfl ?_
  refine ⟨trivial, len_list_ok m3 ?_⟩
  refine cmpI_ok rfl ?_
  (wide_line using refs_length; wide_open with hl8)
  wide_open with decide_eq_true (by rfl)
  walk_at "open_"
  refine attr_ m1 F.c_Scene rfl rfl rfl ?_
  refine attr_ m4 F.c_Buffer rfl rfl rfl ?_
  refine ⟨trivial, len_list_ok r1 ?_⟩
  refine cell_ok (m5) ?_
  refine attr_ m4 F.c_Buffer rfl rfl rfl ?_
  refine ⟨trivial, len_list_ok r1 ?_⟩
  refine cmpI_ok rfl ?_
  wide_open with decide_eq_true (by rfl)
  walk_at "open_"
  refine cmpI_ok rfl ?_
  by_cases h7 : num = 7
  · wide_open with decide_eq_true (by lia)
    walk_at "open_"
    refine neg_ ?_
    exact ret_same (k7 h7 _ mK m4 m6 hlg')
  · wide_open with decide_eq_false (by lia)
    walk_at "open_"
    refine cell_ok (m5) ?_
    refine attr_ m4 F.c_Buffer rfl rfl rfl ?_
    refine ⟨keep_fn H1.k__law_edit, (edit_ H1 m6 hx (by lia) (by lia) fun r' G2 g1 g2 g3 => ?_).T⟩
    refine cell_ok (g1 _ _ m5) ?_
    refine seta_ (g1 _ _ m4) F.c_Buffer rfl (Nat.le_of_ble_eq_true rfl) ?_
    walk_at "open_"
    refine add_ok ?_
    have n3 : r' ≠ lg := by rintro rfl; refine o_EA hlg' fun z9 e z9 => ?_; try clear hlg'; wide_line with g2 using e
    have hGr : G r' = none := by
      cases q : G r' with
      | none => rfl
      | some g =>
        by_cases e : r' = b
        · rw [e, m4] at g2; wide_open using g2
        · wide_line with mK r' g n3 e q using g2
    refine ret_same (k h7 _ r' (fun a g h1 h2 h => set_ne_of (g1 _ _ (mK a g h1 h2 h)) h2) (GH.set_self _ _ _) n3 hGr ?_ ?_)
    · exact g3.set (by rintro rfl; refine o_EA g3 fun z9 e z9 => ?_; try clear g3; wide_line with g1 _ _ m4 using e) (g1 _ _ m4) (fun d => by unfold infoO bufO; intro h; wide_open using h)
    · exact (hlg'.sub g1).set (by rintro rfl; refine o_EA hlg' fun z9 e z9 => ?_; try clear hlg'; wide_line with m4 using e) (g1 _ _ m4) (fun vs => by unfold bufO; simp)
theorem CloAt.kept {G' : GH} {f : Addr} {sp : FnSpec} {k : Nat} (x : CloAt W G f sp cs k) (h : ∀ a o, G a = some (.raw o) → G' a = some (.raw o)) : CloAt W G' f sp cs k := by
  obtain ⟨fd, oc, c', vs, t, h1, h2, h3, r⟩ := x
  exact ⟨fd, oc, c', vs, t, h _ _ h1, h2, h _ _ h3, r⟩
structure Fin1 (S : Sc) (lg p : Addr) (Gs G' : GH) (t : St) : Prop where
  keep : ∀ a g, a ≠ lg → a ≠ S.b → a ≠ S.st → a ≠ p → Gs a = some g → G' a = some g
  row : ∃ r, G' S.b = some (bufO r) ∧ RowG G' r t.gl
  log : LogAt G' lg t.lg
theorem acts1_ (H1 : Facts1 W P1 P2) {S : Sc} {ap p ac lg cl cr r r3 : Addr} {t0 : St} {avs : List (Nat × Nat)} {lks : List Addr} (hs : G S.s = some S.o) (hm : S.mask = 1) (hls : G S.ls = some (.list (refs lks))) (hl8 : lks.length = 8)
    (hlk : ∀ (nm : Nat) lk, lks[nm]? = some lk → ∃ tb, G lk = some (lookO "single" 0 nm tb)) (hb : G S.b = some (bufO r)) (hr : RowG G r t0.gl) (hst : G S.st = some (.list [.int 0 0])) (hp : G p = some (placO r3 t0.e)) (hr3 : G r3 = some (.list (t0.ps.map vInt)))
    (hg : Good t0.ps t0.e) (hlg : LogAt G lg t0.lg) (hl0 : t0.lg = []) (ha : ActsAt G ac avs) (hc : CloAt W G ap sp_law_apply_at [cl, cr] 2) (hcl : G cl = some (.cell (some (.ref lg)))) (hcr : G cr = some (.cell (some (.ref S.b))))
    (n1 : S.ls ≠ lg) (n2 : S.st ≠ lg) (n3 : r ≠ lg) (n4 : r3 ≠ lg) (n5 : r3 ≠ S.st) (n6 : S.ls ≠ S.st) (n7 : r ≠ S.st)
    (hz : avs.length ≤ 5 ∧ t0.gl.length ≤ 100 ∧ t0.ps.length ≤ 100) (hn : ∀ q ∈ avs, q.2 ≤ 8)
    (k : ∀ G', Fin1 S lg p G G' (runM S.dp t0 avs) → K (.int (runM S.dp t0 avs).e 0) G') :
    CallC W (n + 6) (.ref a_do_actions) [.ref S.s, .ref p, .ref ac, .ref ap] G K := by
  have F := H1.F
  refine o_EA (id ha) fun ats a1 a2 => ?_
  have hSb : S.b ≠ p := ne_kind hb hp (by unfold bufO placO; intro h; wide_open using h)
  refine do_actions_ (ats := ats) F (fun j G' => j ≤ ats.length ∧ ∃ (t : St) (r r3 : Addr) (kk : Nat), (∀ a g, a ≠ lg → a ≠ S.b → a ≠ S.st → a ≠ p → G a = some g → G' a = some g) ∧ G' S.b = some (bufO r) ∧ RowG G' r t.gl ∧ G' S.st = some (.list [.int kk 0]) ∧ kk ≤ j ∧
      G' p = some (placO r3 t.e) ∧ G' r3 = some (.list (t.ps.map vInt)) ∧ LogAt G' lg t.lg ∧ r ≠ lg ∧ r3 ≠ lg ∧ r3 ≠ S.st ∧ r ≠ S.st ∧ Good t.ps t.e ∧ t.gl.length ≤ 100 + 80 * j ∧ t.ps.length ≤ 100 + 80 * j ∧ t.lg.length ≤ j ∧ runM S.dp t (avs.drop j) = runM S.dp t0 avs)
    (i_AEEEEAAAAAAAAAAAAAAAA (Nat.zero_le _) t0 r r3 0 (fun a g z9 z9 z9 z9 h => h) hb hr hst (Nat.le_refl _) hp hr3 hlg n3 n4 n5 n7 hg (by lia) (by lia) (by wide_open with hl0; exact Nat.le_refl _) rfl) ?_ ?_ ?_
  · intro j G' hx9; refine o_AEEEEA hx9 fun z9 t r r3 kk h1 z9 => ?_; try clear hx9
    refine h1 _ _ ?_ ?_ ?_ ?_ a1
    · refine o_EA hlg fun z9 e z9 => ?_; try clear hlg; exact ne_kind a1 e (by simp)
    · exact ne_kind a1 hb (by unfold bufO; simp)
    · exact ne_kind a1 hst (by simp)
    · exact ne_kind a1 hp (by unfold placO; simp)
  · intro j at_ G' hat hx9; refine o_AEEEEAAAAAAAAAAAAAAAA hx9 fun hj t r r3 kk h1 h2 h3 h4 h5 h6 h7 h8 m3 m4 m5 m7 h9 z1 z2 z3 hrun => ?_; try clear hx9
    have hjl : j < ats.length := (List.getElem?_eq_some_iff.mp hat).1
    have hj5 : j < 5 := by have := a2.length; lia
    refine o_EA (a2.get hat) fun n91 hq hqt => ?_; obtain ⟨i, num⟩ := n91
    obtain ⟨hja, hqe⟩ := List.getElem?_eq_some_iff.mp hq
    rw [List.drop_eq_getElem_cons hja, hqe, runM] at hrun
    have hnum := hn (i, num) (List.mem_of_getElem? hq)
    simp only at hnum hqt
    have kp : ∀ {a : Addr} {g : GO}, G a = some g → (∀ xs, g ≠ .list xs) → (∀ r, g ≠ bufO r) → (∀ r e, g ≠ placO r e) → G' a = some g := fun {a g} h q1 q2 q3 => by
      refine o_EA hlg fun z9 e z9 => ?_; try clear hlg
      exact h1 a g (ne_kind h e (q1 _)) (ne_kind h hb (q2 _)) (ne_kind h hst (q1 _)) (ne_kind h hp (q3 _ _)) h
    have ks : G' S.s = some S.o := kp hs (by unfold Sc.o sceneO; simp) (by unfold Sc.o sceneO bufO; intro r h; wide_open using h) (by unfold Sc.o sceneO placO; intro r e h; wide_open using h)
    have kls : G' S.ls = some (.list (refs lks)) := h1 _ _ n1 (ne_kind hls hb (by unfold bufO; simp)) n6 (ne_kind hls hp (by unfold placO; simp)) hls
    have kat := kp hqt (by simp) (by unfold bufO; simp) (by unfold placO; simp)
    have kraw : ∀ a o, G a = some (.raw o) → G' a = some (.raw o) := fun a o h => kp h (by simp) (by unfold bufO; simp) (by unfold placO; simp)
    have kcl := kp hcl (by simp) (by unfold bufO; simp) (by unfold placO; simp)
    have kcr := kp hcr (by simp) (by unfold bufO; simp) (by unfold placO; simp)
    refine o_EA (id h3) fun as ra rb => ?_
    have ral := rb.length
    -- going on, or the end
    have goon : ∀ (G2 : GH) (t2 : St) (r2 r32 : Addr) (k2 : Nat), actM S.dp t (i, num) = (t2, true) → (∀ a g, a ≠ lg → a ≠ S.b → a ≠ S.st → a ≠ p → G a = some g → G2 a = some g) → G2 S.b = some (bufO r2) → RowG G2 r2 t2.gl → G2 S.st = some (.list [.int k2 0]) → k2 ≤ j + 1 →
        G2 p = some (placO r32 t2.e) → G2 r32 = some (.list (t2.ps.map vInt)) → LogAt G2 lg t2.lg → r2 ≠ lg → r32 ≠ lg → r32 ≠ S.st → r2 ≠ S.st → Good t2.ps t2.e → t2.gl.length ≤ 100 + 80 * (j + 1) → t2.ps.length ≤ 100 + 80 * (j + 1) → t2.lg.length ≤ j + 1 →
        ((Value.bool true = .bool true ∧ (j + 1 ≤ ats.length ∧ ∃ (t : St) (r r3 : Addr) (kk : Nat), (∀ a g, a ≠ lg → a ≠ S.b → a ≠ S.st → a ≠ p → G a = some g → G2 a = some g) ∧ G2 S.b = some (bufO r) ∧ RowG G2 r t.gl ∧ G2 S.st = some (.list [.int kk 0]) ∧ kk ≤ j + 1 ∧
      G2 p = some (placO r3 t.e) ∧ G2 r3 = some (.list (t.ps.map vInt)) ∧ LogAt G2 lg t.lg ∧ r ≠ lg ∧ r3 ≠ lg ∧ r3 ≠ S.st ∧ r ≠ S.st ∧ Good t.ps t.e ∧ t.gl.length ≤ 100 + 80 * (j + 1) ∧ t.ps.length ≤ 100 + 80 * (j + 1) ∧ t.lg.length ≤ j + 1 ∧ runM S.dp t (avs.drop (j + 1)) = runM S.dp t0 avs)) ∨
          (Value.bool true = .bool false ∧ ∃ r e, G2 p = some (placO r e) ∧ K (.int e 0) G2)) :=
      fun G2 t2 r2 r32 k2 e1 e2 e3 e4 e5 e6 e7 e8 e9 ea eb ec ed ee ef eg eh => .inl (i_AAEEEEAAAAAAAAAAAAAAAA rfl hjl t2 r2 r32 k2 e2 e3 e4 e5 e6 e7 e8 e9 ea eb ec ed ee ef eg eh (by rw [e1] at hrun; simpa using hrun))
    have act0 : ∀ x : Int, t.ps[i]? = some x → x < t.gl.length → S.dp < 6 → num ≤ 7 → actM S.dp t (i, num) = if num = 7 then ({ t with lg := t.lg ++ [((num : Int), x, S.dp + 1)] }, true) else
                (let gl' := editM t.gl x.toNat num
                 let c := (gl'.length : Int) - t.gl.length
                 if 0 < c ∧ 64 < c + t.ps.length then (⟨gl', t.ps, t.e + c, t.lg ++ [((num : Int), x, S.dp + 1)]⟩, false)
                 else (⟨gl', if c = 0 then t.ps else (moveM t.ps t.e i x c).1, if c = 0 then t.e else (moveM t.ps t.e i x c).2, t.lg ++ [((num : Int), x, S.dp + 1)]⟩, true)) := by
      intro x hx hxl hd h7
      unfold actM
      simp only [hx]
      wide_open with if_neg (by lia)
    refine CallC.T (do_action_ F ks h2 ra kls h4 h6 h7 kat (by lia) m5 (fun x hx => by have := (h9.le x hx).2; lia) (fun hno => ?_) fun x nm lk inner hx hxl hd hnm hlkk hk256 hin => ?_)
    · -- passed over
      refine goon G' t r r3 kk ?_ h1 h2 h3 h4 (by lia) h6 h7 h8 m3 m4 m5 m7 h9 (by lia) (by lia) (by lia)
      unfold actM
      cases hx : t.ps[i]? with
      | none => simp only [hx]
      | some x =>
        simp only [hx]
        by_cases hcond : ¬ x < t.gl.length ∨ 7 < num ∨ 6 ≤ S.dp
        · wide_open with if_pos hcond
        · exact absurd (hno x hx (by lia) (by lia) (Int.natCast_nonneg _) (by lia) (by lia)) id
    · -- done
      obtain rfl : num = nm := by lia
      have hxe := h9.le x (List.mem_of_getElem? hx)
      obtain ⟨xn, rfl⟩ := Int.eq_ofNat_of_zero_le hxe.1
      have hn7 : num ≤ 7 := by have := (List.getElem?_eq_some_iff.mp hlkk).1; lia
      obtain ⟨tb, htb⟩ := hlk num lk hlkk
      have klk := kp htb (by unfold lookO; simp) (by unfold lookO bufO; intro r h; wide_open using h) (by unfold lookO placO; intro r e h; wide_open using h)
      have act1 := act0 xn hx (by lia) hd hn7
      have s1 := sub_set (o := sceneO S.b S.gd S.ls lk S.mask (S.dp + 1) S.st) hin
      have c2 : ∀ {a : Addr} {g : GO}, G' a = some g → a ≠ S.st → ((G'.set inner (sceneO S.b S.gd S.ls lk S.mask (S.dp + 1) S.st)).set S.st (.list [.int ((kk : Int) + 1) 0])) a = some g := fun {a g} h q => set_ne_of (s1 _ _ h) q
      have stn : ∀ {a : Addr} {g : GO}, G' a = some g → (∀ xs, g ≠ .list xs) → a ≠ S.st := fun h q => ne_kind h h4 (q _)
      have g_in : ((G'.set inner (sceneO S.b S.gd S.ls lk S.mask (S.dp + 1) S.st)).set S.st (.list [.int ((kk : Int) + 1) 0])) inner = some (sceneO S.b S.gd S.ls lk 1 (S.dp + 1) S.st) := by
        (wide_line using GH.set_ne; wide_line using GH.set_self; wide_open with hm)
        rintro rfl; wide_line with h4 using hin
      have g_st : ((G'.set inner (sceneO S.b S.gd S.ls lk S.mask (S.dp + 1) S.st)).set S.st (.list [.int ((kk : Int) + 1) 0])) S.st = some (.list [.int ((kk + 1 : Nat) : Int) 0]) := by wide_open with GH.set_self; push_cast; rfl
      have g_row : RowG ((G'.set inner (sceneO S.b S.gd S.ls lk S.mask (S.dp + 1) S.st)).set S.st (.list [.int ((kk : Int) + 1) 0])) r t.gl := (h3.sub s1).set m7 (s1 _ _ h4) (fun d => by unfold infoO; simp)
      have g_log : LogAt ((G'.set inner (sceneO S.b S.gd S.ls lk S.mask (S.dp + 1) S.st)).set S.st (.list [.int ((kk : Int) + 1) 0])) lg t.lg := (h8.sub s1).set n2.symm (s1 _ _ h4) (fun d => by simp)
      have g_clo : CloAt W ((G'.set inner (sceneO S.b S.gd S.ls lk S.mask (S.dp + 1) S.st)).set S.st (.list [.int ((kk : Int) + 1) 0])) ap sp_law_apply_at [cl, cr] 2 := hc.kept fun a o h => c2 (kraw a o h) (stn (kraw a o h) (by simp))
      have gp := c2 h6 (stn h6 (by unfold placO; simp))
      have gr3 := c2 h7 m5
      have gs := c2 ks (stn ks (by unfold Sc.o sceneO; simp))
      have glk := c2 klk (stn klk (by unfold lookO; simp))
      have gls := c2 kls n6
      have gb := c2 h2 (stn h2 (by unfold bufO; simp))
      have gcl := c2 kcl (stn kcl (by simp))
      have gcr := c2 kcr (stn kcr (by simp))
      have gK : ∀ a g, a ≠ lg → a ≠ S.b → a ≠ S.st → a ≠ p → G a = some g → ((G'.set inner (sceneO S.b S.gd S.ls lk S.mask (S.dp + 1) S.st)).set S.st (.list [.int ((kk : Int) + 1) 0])) a = some g := fun a g q1 q2 q3 q4 h => c2 (h1 a g q1 q2 q3 q4 h) q3
      generalize (G'.set inner (sceneO S.b S.gd S.ls lk S.mask (S.dp + 1) S.st)).set S.st (.list [.int ((kk : Int) + 1) 0]) = G1 at *
      refine ⟨g_clo.keep, (apply_law_ H1 g_clo gcl gcr g_in glk gls hl8 n1 gb g_row m3 g_log (by lia) hn7 ⟨by lia, by lia⟩ (fun e7 G2 w1 w2 w3 w4 => ?_) fun e7 G2 r' w1 w2 w3 w4 w5 w6 => ?_).T⟩
      · refine (i_EAA (-1) rfl (fun z9 => ?_) (fun h => absurd h (by decide)))
        rw [if_pos e7] at act1
        refine goon G2 _ r r3 (kk + 1) act1 (fun a g q1 q2 q3 q4 h => w1 a g q1 q2 (gK a g q1 q2 q3 q4 h)) w2 w3 (w1 _ _ n2 (ne_kind g_st gb (by unfold bufO; simp)) g_st) (by lia) (w1 _ _ (by refine o_EA g_log fun z9 e z9 => ?_; try clear g_log; exact ne_kind gp e (by unfold placO; simp)) hSb.symm gp)
          (w1 _ _ m4 (ne_kind gr3 gb (by unfold bufO; simp)) gr3) w4 m3 m4 m5 m7 h9 (by refine (?_ : t.gl.length ≤ _); lia) (by refine (?_ : t.ps.length ≤ _); lia) (by simp; lia)
      · refine (i_EAA ((xn : Int) + 1) rfl (fun h => absurd h (by lia)) (fun z9 => ?_))
        rw [if_neg e7] at act1
        simp only [Int.toNat_natCast] at act1
        have w2s := w1 _ _ (by refine o_EA g_log fun z9 e z9 => ?_; try clear g_log; exact ne_kind gs e (by unfold Sc.o sceneO; simp)) (ne_kind gs gb (by unfold Sc.o sceneO bufO; intro h; wide_open using h)) gs
        have w2p := w1 _ _ (by refine o_EA g_log fun z9 e z9 => ?_; try clear g_log; exact ne_kind gp e (by unfold placO; simp)) hSb.symm gp
        have w2r := w1 _ _ m4 (ne_kind gr3 gb (by unfold bufO; simp)) gr3
        have w2t := w1 _ _ n2 (ne_kind g_st gb (by unfold bufO; simp)) g_st
        refine o_EA (id w5) fun as2 y1 y2 => ?_
        have y2l := y2.length
        have hel := edit_len t.gl xn num (by lia)
        have hrst : r' ≠ S.st := by rintro rfl; wide_line with g_st using w4
        refine (i_EEEAAAAAA r' as2 r3 w2s w2 y1 (by lia) w2p w2r ?_)
        (wide_line using y2l; wide_open with ral)
        dsimp only
        by_cases hstop : 0 < ((editM t.gl xn num).length : Int) - t.gl.length ∧ 64 < ((editM t.gl xn num).length : Int) - t.gl.length + t.ps.length
        · wide_open with if_pos hstop
          rw [if_pos hstop] at act1
          rw [act1] at hrun
          simp only [Bool.false_eq_true, if_false] at hrun
          refine .inr (i_AEEA rfl r3 _ (GH.set_self _ _ _) ?_)
          have hk := k (G2.set p (placO r3 (t.e + (((editM t.gl xn num).length : Int) - t.gl.length)))) ⟨fun a g q1 q2 q3 q4 h => set_ne_of (w1 a g q1 q2 (gK a g q1 q2 q3 q4 h)) q4, (i_EA r' (set_ne_of w2 hSb) ?_), ?_⟩
          · rw [← hrun] at hk; exact hk
          · ((first | refine hrun ▸ ?_ | rewrite [← hrun]); try with_reducible rfl)
            exact w5.set (by rintro rfl; wide_line with w2p using y1) w2p (fun d => by unfold infoO placO; intro h; wide_open using h)
          · ((first | refine hrun ▸ ?_ | rewrite [← hrun]); try with_reducible rfl)
            exact w6.set (by rintro rfl; refine o_EA w6 fun z9 e z9 => ?_; try clear w6; wide_line with w2p using e) w2p (fun d => by unfold placO; simp)
        · wide_open with if_neg hstop
          rw [if_neg hstop] at act1
          by_cases h0 : ((editM t.gl xn num).length : Int) - t.gl.length = 0
          · wide_open with if_pos h0
            rw [if_pos h0, if_pos h0] at act1
            exact goon G2 _ r' r3 (kk + 1) act1 (fun a g q1 q2 q3 q4 h => w1 a g q1 q2 (gK a g q1 q2 q3 q4 h)) w2 w5 w2t (by lia) w2p w2r w6 w3 m4 m5 hrst h9 (by dsimp only; lia) (by dsimp only; lia) (by simp; lia)
          · wide_open with if_neg h0
            rw [if_neg h0, if_neg h0] at act1
            intro G3 r4 u1 u0 u2 u3
            have hml := moveM_len t.ps t.e i xn (((editM t.gl xn num).length : Int) - t.gl.length) hxe.2
            have r4lg : r4 ≠ lg ∧ r4 ≠ S.st := by
              rcases u0 with rfl | u0
              · exact ⟨m4, m5⟩
              · exact ⟨(by rintro rfl; refine o_EA w6 fun z9 e z9 => ?_; try clear w6; rw [u0] at e; exact nomatch e), (by rintro rfl; rw [u0] at w2t; exact nomatch w2t)⟩
            refine goon G3 _ r' r4 (kk + 1) act1 (fun a g q1 q2 q3 q4 h => u1 a g q4 (w1 a g q1 q2 (gK a g q1 q2 q3 q4 h))) (u1 _ _ hSb w2) ?_ (u1 _ _ (ne_kind w2t w2p (by unfold placO; simp)) w2t) (by lia) u2 u3 ?_ w3 r4lg.1 r4lg.2 hrst (good_move h9 hx) (by dsimp only; lia) (by dsimp only; lia) (by simp; lia)
            · exact (i_EA as2 (u1 _ _ (ne_kind y1 w2p (by unfold placO; simp)) y1) (y2.imp fun _ _ ⟨d, e, q⟩ => (i_EA d (u1 _ _ (ne_kind e w2p (by unfold infoO placO; intro h; wide_open using h)) e) q)))
            · refine o_EA w6 fun ts e1 e2 => ?_; try clear w6
              exact (i_EA ts (u1 _ _ (ne_kind e1 w2p (by unfold placO; simp)) e1) (e2.imp fun z9 z9 e => u1 _ _ (ne_kind e w2p (by unfold placO; simp)) e))
  · intro G' hx9; refine o_AEEEEAAAAAAAAAAAAAAAA hx9 fun z9 t r r3 kk h1 h2 h3 h4 h5 h6 h7 h8 m3 m4 m5 m7 h9 z1 z2 z3 hrun => ?_; try clear hx9
    have : avs.drop ats.length = [] := List.drop_eq_nil_of_le (by wide_open with a2.length; exact Nat.le_refl _)
    rw [this] at hrun
    have hrun : t = runM S.dp t0 avs := hrun
    exact (i_EEA r3 t.e h6 (by wide_open with hrun; exact k G' ⟨h1, (i_EA r h2 (by ((first | refine hrun ▸ ?_ | rewrite [← hrun]); try with_reducible rfl); exact h3)), by ((first | refine hrun ▸ ?_ | rewrite [← hrun]); try with_reducible rfl); exact h8⟩))
end
section
open PySem PySem.W PySem.Calls PyProof.Rows
variable {W : Wd} {n : Nat} {G : GH} {K : KV} {cs : List Addr} {P1 P2 : Addr}
noncomputable def loopN {α : Type} (f : α → α) : Nat → α → α
  | 0, x => x
  | t + 1, x => loopN f t (f x)
noncomputable def stepD (rec : Nat → Nat × List Int) (dp : Int) (x : Nat × List Int) : Nat × List Int := if 256 ≤ x.1 then x else ((rec (x.1 + 1)).1, x.2 ++ (dp + 1) :: (rec (x.1 + 1)).2)
noncomputable def deepRun (many : Nat) : Nat → Int → Nat → Nat × List Int
  | 0, _, s => (s, [])
  | k + 1, dp, s => loopN (stepD (deepRun many k (dp + 1)) dp) many (s, [])
noncomputable def totalD (many : Nat) : Nat → Nat
  | 0 => 0
  | k + 1 => many * (1 + totalD many k)
theorem ret_sameM {v : Value} {m : Mm} (k : K v G) : bodyK K (.ret v) m G := (i_EA G (fun z9 z9 e => e) k)
theorem deepRun_spec (many : Nat) : ∀ (k : Nat) (dp : Int) (s : Nat), s ≤ 256 → (deepRun many k dp s).1 = min 256 (s + totalD many k) ∧ (deepRun many k dp s).1 = s + (deepRun many k dp s).2.length ∧ ∀ x ∈ (deepRun many k dp s).2, dp + 1 ≤ x
  | 0, dp, s, h => (i_AA (by simp [deepRun, totalD]; lia) (by simp [deepRun]) (by simp [deepRun]))
  | k + 1, dp, s, h => by
    have ih := deepRun_spec many k (dp + 1)
    have key : ∀ (t : Nat) (x : Nat × List Int), x.1 ≤ 256 → x.1 = s + x.2.length → (∀ y ∈ x.2, dp + 1 ≤ y) →
        (loopN (stepD (deepRun many k (dp + 1)) dp) t x).1 = min 256 (x.1 + t * (1 + totalD many k)) ∧ (loopN (stepD (deepRun many k (dp + 1)) dp) t x).1 = s + (loopN (stepD (deepRun many k (dp + 1)) dp) t x).2.length ∧ ∀ y ∈ (loopN (stepD (deepRun many k (dp + 1)) dp) t x).2, dp + 1 ≤ y := by
      intro t
      induction t with
      | zero => intro x h1 h2 h3; exact (i_AA (by simp [loopN]; lia) h2 h3)
      | succ t iht =>
        intro x h1 h2 h3
        simp only [loopN]
        by_cases hx : 256 ≤ x.1
        · have e : stepD (deepRun many k (dp + 1)) dp x = x := by unfold stepD; wide_open with if_pos hx
          wide_open with e
          refine o_AA (iht x h1 h2 h3) fun a1 a2 a3 => ?_
          exact (i_AA (by wide_open with a1; have : 0 ≤ t * (1 + totalD many k) := Nat.zero_le _; have : 0 ≤ (t + 1) * (1 + totalD many k) := Nat.zero_le _; lia) a2 a3)
        · refine o_AA (ih (x.1 + 1) (by lia)) fun b1 b2 b3 => ?_
          have e : stepD (deepRun many k (dp + 1)) dp x = ((deepRun many k (dp + 1) (x.1 + 1)).1, x.2 ++ (dp + 1) :: (deepRun many k (dp + 1) (x.1 + 1)).2) := by unfold stepD; wide_open with if_neg hx
          wide_open with e
          obtain ⟨a1, a2, a3⟩ := iht ((deepRun many k (dp + 1) (x.1 + 1)).1, x.2 ++ (dp + 1) :: (deepRun many k (dp + 1) (x.1 + 1)).2) (by dsimp only; lia) (by dsimp only; wide_open with b2; simp; lia) (fun y hy => by
            rcases List.mem_append.mp hy with hy | hy
            · exact h3 y hy
            · rcases List.mem_cons.mp hy with rfl | hy
              · exact Int.le_refl _
              · have := b3 y hy; lia)
          refine (i_AA ?_ a2 a3)
          wide_open with a1
          dsimp only
          (wide_line using b1; wide_open with Nat.succ_mul)
          exact min_step _ _ _
    exact key many (s, []) h (by simp) (by simp)
theorem deepRun_count (many : Nat) (k : Nat) (dp : Int) (s : Nat) (h : s ≤ 256) : ((deepRun many k dp s).2.filter (fun x => decide (x = dp + 1))).length ≤ many := by
  cases k with
  | zero => simp [deepRun]
  | succ k =>
    have key : ∀ (t : Nat) (x : Nat × List Int), x.1 ≤ 256 → ((loopN (stepD (deepRun many k (dp + 1)) dp) t x).2.filter (fun x => decide (x = dp + 1))).length ≤ (x.2.filter (fun x => decide (x = dp + 1))).length + t := by
      intro t
      induction t with
      | zero => intro x _; simp [loopN]
      | succ t iht =>
        intro x h1
        simp only [loopN]
        by_cases hx : 256 ≤ x.1
        · have e : stepD (deepRun many k (dp + 1)) dp x = x := by unfold stepD; wide_open with if_pos hx
          wide_open with e
          have := iht x h1; lia
        · refine o_AA (deepRun_spec many k (dp + 1) (x.1 + 1) (by lia)) fun b1 b2 b3 => ?_
          have e : stepD (deepRun many k (dp + 1)) dp x = ((deepRun many k (dp + 1) (x.1 + 1)).1, x.2 ++ (dp + 1) :: (deepRun many k (dp + 1) (x.1 + 1)).2) := by unfold stepD; wide_open with if_neg hx
          wide_open with e
          have := iht ((deepRun many k (dp + 1) (x.1 + 1)).1, x.2 ++ (dp + 1) :: (deepRun many k (dp + 1) (x.1 + 1)).2) (by dsimp only; lia)
          have hnil : (deepRun many k (dp + 1) (x.1 + 1)).2.filter (fun x => decide (x = dp + 1)) = [] := by
            wide_open with List.filter_eq_nil_iff
            intro y hy
            have := b3 y hy
            simp; lia
          dsimp only at this
          rw [List.filter_append, List.filter_cons] at this
          simp only [decide_true, if_true, hnil, List.length_append, List.length_cons, List.length_nil] at this
          lia
    have := key many (s, []) h
    simpa [deepRun] using this
structure DC (W : Wd) (Gc : GH) (b gd ls l st lg tb ap c2 c3 c4 : Addr) (many : Nat) : Prop where
  nst : Gc st = none
  nlg : Gc lg = none
  ne : st ≠ lg
  row : ∃ a, RowAt Gc b [a] (fun z9 => ⟨0, 1, 0, 1, false, ""⟩)
  hgd : GdefAt Gc gd []
  hls : Gc ls = some (.list (refs [l]))
  hlk : LookAt Gc l "chain" 0 0
  htb : ∃ sets ep rl ru bk ik ak ac f, Gc tb = some (ctxO 3 true sets .none .none) ∧ Gc sets = some (.dict [(0, .ref rl)] ep) ∧ Gc rl = some (.list [.ref ru]) ∧ Gc ru = some (ruleO bk ik ak (.ref ac)) ∧
    CovRow Gc bk [] ∧ CovRow Gc ik [f] ∧ CovRow Gc ak [] ∧ f 1 = true ∧ ActsAt Gc ac (List.replicate many (0, 0))
  clo : CloAt W Gc ap sp__law_deep_right_apply_at [c2, c3, c4] 2
  h2 : Gc c2 = some (.cell (some (.ref ap)))
  h3 : Gc c3 = some (.cell (some (.ref lg)))
  h4 : Gc c4 = some (.cell (some (.ref tb)))
theorem loopN_succ {α : Type} (f : α → α) : ∀ (t : Nat) (x : α), loopN f (t + 1) x = f (loopN f t x)
  | 0, _ => rfl
  | t + 1, x => by (wide_line using loopN; wide_open with loopN_succ f t (f x)); rfl
noncomputable def KpD (st lg : Addr) (G G' : GH) : Prop := ∀ a g, a ≠ st → a ≠ lg → G a = some g → G' a = some g
theorem ctx_deep (H1 : Facts1 W P1 P2) {Gc : GH} {b gd ls l st lg tb ap c2 c3 c4 : Addr} {many : Nat} (C : DC W Gc b gd ls l st lg tb ap c2 c3 c4 many) {dp : Int} {G : GH} {s : Addr} {k₀ : Nat} {L : List Int} {K : KV}
    (hG : Sub Gc G) (hs : G s = some (sceneO b gd ls l 1 dp st)) (hst : G st = some (.list [.int k₀ 0])) (hlg : G lg = some (.list (L.map vInt)))
    (k : ∀ G1 p r ac a rb, ActsAt Gc ac (List.replicate many (0, 0)) → Gc b = some (bufO rb) → Gc rb = some (.list (refs [a])) → KpD st lg G G1 → Sub Gc G1 → G1 s = some (sceneO b gd ls l 1 dp st) → G1 st = some (.list [.int ((if dp = 0 then 0 else k₀ : Nat) : Int) 0]) → G1 lg = some (.list (L.map vInt)) → G1 p = some (placO r 1) → G1 r = some (.list ([0].map vInt)) → r ≠ st → r ≠ lg →
      CallT W (n + 9) (.ref a_do_actions) [.ref s, .ref p, .ref ac, .ref ap] G1 K) :
    CallC W (n + 10) (.ref a_apply_context) [.ref s, .ref tb, .int ((0 : Nat) : Int) 0, .ref ap] G K := by
  have F := H1.F
  obtain ⟨a, ra⟩ := C.row
  refine o_EA (id ra.ex) fun rb ra1 ra2 => ?_
  refine o_EEEEEEEEEAAAAAAAA C.htb fun sets ep rl ru bk ik ak ac f t1 t2 t3 t4 t5 t6 t7 t8 t9 => ?_
  have sst : s ≠ st := ne_kind hs hst (by unfold sceneO; simp)
  have hG0 : Sub Gc (if dp = 0 then G.set st (.list [.int 0 0]) else G) := by
    split
    · exact sub_set_new hG C.nst
    · exact hG
  have g1 : (if dp = 0 then G.set st (.list [.int 0 0]) else G) s = some (sceneO b gd ls l 1 dp st) := by
    split
    · exact set_ne_of hs sst
    · exact hs
  have g2 : (if dp = 0 then G.set st (.list [.int 0 0]) else G) st = some (.list [.int ((if dp = 0 then 0 else k₀ : Nat) : Int) 0]) := by
    split
    · wide_open with GH.set_self; rfl
    · exact hst
  have g3 : (if dp = 0 then G.set st (.list [.int 0 0]) else G) lg = some (.list (L.map vInt)) := by
    split
    · exact set_ne_of hlg C.ne.symm
    · exact hlg
  have gk : KpD st lg G (if dp = 0 then G.set st (.list [.int 0 0]) else G) := fun x g h1 z9 h => by
    split
    · exact set_ne_of h h1
    · exact h
  obtain ⟨G0, hG0e⟩ : ∃ G0, G0 = if dp = 0 then G.set st (.list [.int 0 0]) else G := ⟨_, rfl⟩
  rw [← hG0e] at hG0 g1 g2 g3 gk
  have hV : SceneAt G0 s ⟨[a], fun z9 => ⟨0, 1, 0, 1, false, ""⟩, [], 0, 1⟩ := ⟨b, gd, ls, l, dp, st, "chain", 0, g1, ra.sub hG0, C.hgd.sub hG0, C.hlk.sub hG0, (show (0 : Nat) < 16 by decide)⟩
  refine apply_context3_ F (S := ⟨s, b, gd, ls, l, st, 1, dp⟩) (i := 0) (a := a) (f := f) (bs := []) (is := []) (as := []) (ps := [0]) (bb := 0) (ee := 0) hs hst hG0e hV g1 (hG0 _ _ t1) (hG0 _ _ t2) (hG0 _ _ t3) (hG0 _ _ t4) (t5.sub hG0) (t6.sub hG0) (t7.sub hG0) rfl (by refine (?_ : 1 ≤ 1000); decide) ?_ fun G1 p r hne hR hp hr hpr hp1 hr1 => ?_
  · unfold matchM
    wide_open with if_pos (by exact t8)
    simp [placesM, walkM]
  · have hcut : cutA [a] (Int.toNat 0) (Int.toNat 0 + 1) = [a] := rfl
    have hall : ∀ x g, G0 x = some g → G1 x = some g := fun x g h => by
      by_cases hx : x = a
      · subst hx
        have h0 := hG0 _ _ (ra.info x (by simp))
        rw [h0] at h
        wide_open using h
        rcases hR.2 with ⟨_, h⟩ | ⟨h, _⟩
        · exact h x (by refine (?_ : x ∈ [x]); simp)
        · exact absurd h (by refine (?_ : ¬ 2 ≤ 1); decide)
      · exact hR.1 x g (by refine (?_ : x ∉ [a]); simpa using hx) h
    exact k G1 p r ac a rb t9 ra1 ra2 (fun x g h1 h2 h => hall _ _ (gk x g h1 h2 h)) (fun x g h => hall _ _ (hG0 x g h)) (hall _ _ g1) (hall _ _ g2) (hall _ _ g3) hp1 hr1 (by rintro rfl; wide_line with g2 using hr) (by rintro rfl; wide_line with g3 using hr)
theorem all2_rep {R : Addr → (Nat × Nat) → Prop} : ∀ {ats : List Addr} {m : Nat} {q : Nat × Nat}, All2 R ats (List.replicate m q) → ats.length = m ∧ ∀ t ∈ ats, R t q
  | [], 0, _, _ => ⟨rfl, fun t h => by cases h⟩
  | [], m + 1, _, h => by rw [List.replicate_succ] at h; cases h
  | a :: ats, 0, _, h => by cases h
  | a :: ats, m + 1, q, h => by
    rw [List.replicate_succ] at h
    cases h with
    | cons h1 h2 =>
      obtain ⟨e, r⟩ := all2_rep h2
      exact ⟨by simp [e], fun t ht => by rcases List.mem_cons.mp ht with rfl | ht; exact h1; exact r t ht⟩
theorem deep_ (H1 : Facts1 W P1 P2) {Gc : GH} {b gd ls l st lg tb ap c2 c3 c4 : Addr} {many : Nat} (C : DC W Gc b gd ls l st lg tb ap c2 c3 c4 many) :
    ∀ (k : Nat) (dp : Int) (G : GH) (s : Addr) (k₀ : Nat) (L : List Int) (K : KV), dp + k = 6 → 0 ≤ dp → Sub Gc G → G s = some (sceneO b gd ls l 1 dp st) → G st = some (.list [.int k₀ 0]) → G lg = some (.list (L.map vInt)) → k₀ ≤ 256 → L.length ≤ 600 + (if dp = 0 then 0 else k₀) →
      (∀ G', KpD st lg G G' → G' st = some (.list [.int ((deepRun many k dp (if dp = 0 then 0 else k₀)).1 : Nat) 0]) → G' lg = some (.list ((L ++ (deepRun many k dp (if dp = 0 then 0 else k₀)).2).map vInt)) → K (.int 1 0) G') →
      CallC W (20 + 4 * k) (.ref a_apply_context) [.ref s, .ref tb, .int ((0 : Nat) : Int) 0, .ref ap] G K := by
  have F := H1.F
  intro k
  induction k with
  | zero =>
    intro dp G s k₀ L K hdp hdp0 hG hs hst hlg hk0 hL kk
    have hd6 : dp = 6 := by lia
    refine ctx_deep (n := 10) H1 C hG hs hst hlg fun G1 p r ac a rb hac hb1 hb2 hk hS h1 h2 h3 h4 h5 h6 h7 => ?_
    refine o_EA hac fun ats a1 a2 => ?_; try clear hac
    obtain ⟨al, at0⟩ := all2_rep a2
    refine CallC.T (do_actions_ (n := 18) F (ats := ats) (fun j G' => G' = G1) rfl (fun j G' e => by wide_open with e; exact hS _ _ a1) (fun j at_ G' hat e => ?_) fun G' e => ⟨r, 1, by wide_open with e; exact h4, by
      wide_open with e; refine kk G1 hk ?_ ?_
      · wide_open with h2; rfl
      · wide_open with h3; simp [deepRun]⟩)
    subst e
    refine CallC.T (do_action_ (n := 13) F (S := ⟨s, b, gd, ls, l, st, 1, dp⟩) (i := 0) (num := 0) (lks := [l]) h1 (hS _ _ hb1) (hS _ _ hb2) (hS _ _ C.hls) h2 h4 h5 (hS _ _ (at0 at_ (List.mem_of_getElem? hat))) (by simp) h6 (fun x hx => by simp at hx; lia) (fun z9 => .inl ⟨rfl, rfl⟩) fun x nm lk inner z9 z9 hd => ?_)
    exact absurd hd (by refine (?_ : ¬ dp < 6); lia)
  | succ k ih =>
    intro dp G s k₀ L K hdp hdp0 hG hs hst hlg hk0 hL kk
    have e20 : 20 + 4 * (k + 1) = 14 + 4 * k + 10 := by lia
    wide_open with e20
    refine ctx_deep (n := 14 + 4 * k) H1 C hG hs hst hlg fun G1 p r ac a rb hac hb1 hb2 hk hS h1 h2 h3 h4 h5 h6 h7 => ?_
    refine o_EA hac fun ats a1 a2 => ?_; try clear hac
    obtain ⟨al, at0⟩ := all2_rep a2
    have hs0 : (if dp = 0 then 0 else k₀ : Nat) ≤ 256 := by split <;> lia
    generalize hs0e : (if dp = 0 then 0 else k₀ : Nat) = s0 at *
    have sst : s ≠ st := ne_kind h1 h2 (by unfold sceneO; simp)
    have slg : s ≠ lg := ne_kind h1 h3 (by unfold sceneO; simp)
    have pst : p ≠ st := ne_kind h4 h2 (by unfold placO; simp)
    have plg : p ≠ lg := ne_kind h4 h3 (by unfold placO; simp)
    have e23 : 14 + 4 * k + 9 = 22 + 4 * k + 1 := by lia
    wide_open with e23
    refine CallC.T (do_actions_ (n := 22 + 4 * k) F (ats := ats) (fun j G' => j ≤ many ∧ KpD st lg G1 G' ∧ Sub Gc G' ∧ G' st = some (.list [.int ((loopN (stepD (deepRun many k (dp + 1)) dp) j (s0, [])).1 : Nat) 0]) ∧ G' lg = some (.list ((L ++ (loopN (stepD (deepRun many k (dp + 1)) dp) j (s0, [])).2).map vInt)) ∧
        (loopN (stepD (deepRun many k (dp + 1)) dp) j (s0, [])).1 ≤ 256 ∧ (loopN (stepD (deepRun many k (dp + 1)) dp) j (s0, [])).1 = s0 + (loopN (stepD (deepRun many k (dp + 1)) dp) j (s0, [])).2.length)
      (i_AAAAAA (Nat.zero_le _) (fun z9 z9 z9 z9 h => h) hS h2 (by simpa [loopN] using h3) hs0 (by simp [loopN])) (fun j G' e => e.2.2.1 _ _ a1) (fun j at_ G' hat e => ?_) fun G' e => ?_)
    · refine o_AAAAAA e fun hjm q1 q2 q3 q4 q5 q6 => ?_; try clear e
      have hjl : j < many := by ((first | refine al ▸ ?_ | rewrite [← al]); try with_reducible rfl); exact (List.getElem?_eq_some_iff.mp hat).1
      wide_open with loopN_succ
      generalize hx : loopN (stepD (deepRun many k (dp + 1)) dp) j (s0, []) = x at *
      obtain ⟨xs, xl⟩ := x
      dsimp only at q3 q4 q5 q6
      have e22 : 22 + 4 * k = 17 + 4 * k + 5 := by lia
      wide_open with e22
      refine CallC.T (do_action_ (n := 17 + 4 * k) F (S := ⟨s, b, gd, ls, l, st, 1, dp⟩) (i := 0) (num := 0) (lks := [l]) (q1 _ _ sst slg h1) (q2 _ _ hb1) (q2 _ _ hb2) (q2 _ _ C.hls) q3 (q1 _ _ pst plg h4) (q1 _ _ h6 h7 h5) (q2 _ _ (at0 at_ (List.mem_of_getElem? hat))) (by simp) h6 (fun x hx => by simp at hx; lia)
        (fun hno => ?_) fun x nm lk inner hxx hxl hd hnm hlk hk256 hin => ?_)
      · have h256 : 256 ≤ xs := by
          rcases Nat.lt_or_ge xs 256 with h | h
          · exact absurd (hno 0 rfl (by simp) (by refine (?_ : dp < 6); lia) (by decide) (by simp) h) id
          · exact h
        have e : stepD (deepRun many k (dp + 1)) dp (xs, xl) = (xs, xl) := by unfold stepD; wide_open with if_pos h256
        wide_open with e
        exact .inl (i_AAAAAAA rfl hjl q1 q2 q3 q4 q5 q6)
      · obtain rfl : x = 0 := by simpa using hxx.symm
        obtain rfl : nm = 0 := by lia
        obtain rfl : lk = l := by simpa using hlk.symm
        have e : stepD (deepRun many k (dp + 1)) dp (xs, xl) = ((deepRun many k (dp + 1) (xs + 1)).1, xl ++ (dp + 1) :: (deepRun many k (dp + 1) (xs + 1)).2) := by unfold stepD; wide_open with if_neg (by refine (?_ : ¬ 256 ≤ xs); lia)
        wide_open with e
        refine o_AA (deepRun_spec many k (dp + 1) (xs + 1) (by lia)) fun d1 d2 d3 => ?_
        have inst : inner ≠ st := by rintro rfl; wide_line with q3 using hin
        have inlg : inner ≠ lg := by rintro rfl; wide_line with q4 using hin
        have w1 := sub_set (o := sceneO b gd ls lk 1 (dp + 1) st) hin
        have wS : Sub Gc ((G'.set inner (sceneO b gd ls lk 1 (dp + 1) st)).set st (.list [.int ((xs : Int) + 1) 0])) := sub_set_new (q2.trans w1) C.nst
        have wst : ((G'.set inner (sceneO b gd ls lk 1 (dp + 1) st)).set st (.list [.int ((xs : Int) + 1) 0])) st = some (.list [.int ((xs + 1 : Nat) : Int) 0]) := by wide_open with GH.set_self; push_cast; rfl
        have wlg : ((G'.set inner (sceneO b gd ls lk 1 (dp + 1) st)).set st (.list [.int ((xs : Int) + 1) 0])) lg = some (.list ((L ++ xl).map vInt)) := set_ne_of (w1 _ _ q4) C.ne.symm
        have win : ((G'.set inner (sceneO b gd ls lk 1 (dp + 1) st)).set st (.list [.int ((xs : Int) + 1) 0])) inner = some (sceneO b gd ls lk 1 (dp + 1) st) := by (wide_line using GH.set_ne _ _ inst; wide_open with GH.set_self)
        have wk : KpD st lg G' ((G'.set inner (sceneO b gd ls lk 1 (dp + 1) st)).set st (.list [.int ((xs : Int) + 1) 0])) := fun a g h1 z9 h => set_ne_of (w1 _ _ h) h1
        refine (?_ : keepG W (.ref ap) ((G'.set inner (sceneO b gd ls lk 1 (dp + 1) st)).set st (.list [.int ((xs : Int) + 1) 0])) ∧ CallT W _ (.ref ap) [.ref inner, .int 0 0] ((G'.set inner (sceneO b gd ls lk 1 (dp + 1) st)).set st (.list [.int ((xs : Int) + 1) 0])) _)
        generalize (G'.set inner (sceneO b gd ls lk 1 (dp + 1) st)).set st (.list [.int ((xs : Int) + 1) 0]) = G2 at *
        refine ⟨(C.clo.sub wS).keep, ?_⟩
        have e21 : 17 + 4 * k + 4 = 20 + 4 * k + 1 := by lia
        wide_open with e21
        refine CallC.T (cloC F (C.clo.sub wS) rfl fun cd => ?_)
        dsimp only [sp__law_deep_right_apply_at, b__law_deep_right_apply_at]
        walk_at "open_"
        refine cell_ok (wS _ _ C.h3) ?_
        refine (i_EA _ (meth_append F wlg) ?_)
        refine attr_ win F.c_Scene rfl rfl rfl ?_
        refine ⟨trivial, append_ok wlg (by simp [small]; (first | exact lqA (by lia) (by lia) | exact lqB (by lia) | exact lqD (by lia) | lia)) ?_⟩
        have v0 : (G2.set lg (.list ((L ++ xl).map vInt ++ [.int (dp + 1) 0]))) lg = some (.list ((L ++ xl ++ [dp + 1]).map vInt)) := by wide_open with GH.set_self; simp [vInt]
        have vS : Sub Gc (G2.set lg (.list ((L ++ xl).map vInt ++ [.int (dp + 1) 0]))) := sub_set_new wS C.nlg
        have vst := set_ne_of (o := .list ((L ++ xl).map vInt ++ [.int (dp + 1) 0])) wst C.ne
        have vin := set_ne_of (o := .list ((L ++ xl).map vInt ++ [.int (dp + 1) 0])) win inlg
        have vk : KpD st lg G2 (G2.set lg (.list ((L ++ xl).map vInt ++ [.int (dp + 1) 0]))) := fun a g z9 h2 h => set_ne_of h h2
        generalize G2.set lg (.list ((L ++ xl).map vInt ++ [.int (dp + 1) 0])) = G3 at *
        refine cell_ok (vS _ _ C.h4) ?_
        refine cell_ok (vS _ _ C.h2) ?_
        refine ⟨keep_fn F.k_apply_context, CallC.T (ih (dp + 1) G3 inner (xs + 1) (L ++ xl ++ [dp + 1]) _ (by lia) (by lia) vS vin vst v0 (by lia) (by wide_open with (if_neg (show ¬ dp + 1 = 0 by lia)); simp; lia) fun G4 y1 y2 y3 => ?_)⟩
        rw [if_neg (show ¬ dp + 1 = 0 by lia)] at y2 y3
        walk_at "open_"
        refine ret_sameM (i_EAA 1 rfl (fun h => absurd h (by decide)) (fun z9 => ?_))
        have k4 : KpD st lg G' G4 := fun a g h1 h2 h => y1 a g h1 h2 (vk a g h1 h2 (wk a g h1 h2 h))
        have gS4 : Sub Gc G4 := fun a g h => k4 a g (by rintro rfl; wide_line with C.nst using h) (by rintro rfl; wide_line with C.nlg using h) (q2 a g h)
        refine (i_EEEAAAAAA rb ([a]) r (k4 _ _ sst slg (q1 _ _ sst slg h1)) (gS4 _ _ hb1) (gS4 _ _ hb2) (by simp) (k4 _ _ pst plg (q1 _ _ pst plg h4)) (k4 _ _ h6 h7 (q1 _ _ h6 h7 h5)) ?_)
        dsimp only
        (wide_line using if_neg (by simp); wide_open with if_pos (by simp))
        refine .inl (i_AAAAAAA rfl hjl (fun a g h1 h2 h => k4 a g h1 h2 (q1 a g h1 h2 h)) gS4 y2 ?_ (by lia) ?_)
        · wide_open with y3; simp
        · wide_open with d2; simp; lia
    · refine o_AAAAAA e fun z9 q1 q2 q3 q4 q5 q6 => ?_; try clear e
      rw [al] at q3 q4
      refine (i_EEA r 1 (q1 _ _ pst plg h4) (kk G' (fun a g x1 x2 h => q1 a g x1 x2 (hk a g x1 x2 h)) q3 q4))
end
section
open PySem PySem.W PySem.Calls PyProof.Rows
variable {W : Wd} {n : Nat} {G : GH} {K : KV} {cs : List Addr} {P1 P2 : Addr}
noncomputable def fixd : GO → Bool
  | .inst _ _ => true
  | .tup _ => true
  | .dict _ _ => true
  | _ => false
noncomputable def KF (G G' : GH) : Prop := ∀ a g, fixd g = true → G a = some g → G' a = some g
theorem CovAt.kf {G' : GH} {c ns} (x : CovAt G c ns) (h : KF G G') : CovAt G' c ns := let ⟨d, h1, h2⟩ := x; (i_EA d (h _ _ rfl h1) (h _ _ rfl h2))
theorem ClsAt.kf {G' : GH} {c es} (x : ClsAt G c es) (h : KF G G') : ClsAt G' c es := let ⟨d, ep, h1, h2⟩ := x; (i_EEA d ep (h _ _ rfl h1) (h _ _ rfl h2))
theorem GdefAt.kf {G' : GH} {c es} (x : GdefAt G c es) (h : KF G G') : GdefAt G' c es := let ⟨d, v1, v2, v3, v4, h1, h2⟩ := x.ex; ⟨d, v1, v2, v3, v4, h _ _ rfl h1, h2.kf h⟩
theorem CovRow.kf {G' : GH} {c fs} (x : CovRow G c fs) (h : KF G G') : CovRow G' c fs := let ⟨us, h1, h2, h3⟩ := x; (i_EAA us (h _ _ rfl h1) (h2.imp fun _ _ ⟨ns, q, r⟩ => (i_EA ns (q.kf h) r)) h3)
theorem ActsAt.kf {G' : GH} {a v} (x : ActsAt G a v) (h : KF G G') : ActsAt G' a v := let ⟨as, h1, h2⟩ := x; (i_EA as (h _ _ rfl h1) (h2.imp fun z9 z9 q => h _ _ rfl q))
theorem due_eq : ∀ many d : Nat, (many = 1 ∨ many = 2 ∨ many = 3) → d < 7 → (((List.range (6 - d)).map fun (j : Nat) => ((many : Int) ^ (1 + j))).sum) = (totalD many (6 - d) : Nat) := by
  have h : ∀ d : Fin 7, ∀ m : Fin 3, (((List.range (6 - d.val)).map fun (j : Nat) => (((m.val + 1 : Nat) : Int) ^ (1 + j))).sum) = (totalD (m.val + 1) (6 - d.val) : Nat) := by decide +kernel
  intro many d hm hd
  have := h ⟨d, hd⟩ ⟨many - 1, by rcases hm with rfl | rfl | rfl <;> decide⟩
  have e : many - 1 + 1 = many := by rcases hm with rfl | rfl | rfl <;> rfl
  simp only [e] at this
  exact this
theorem setCs_at : ∀ {cs : List Addr} {vs : Mm} {i : Nat} {c : Addr} {v : Option Value}, cs.Nodup → cs[i]? = some c → vs[i]? = some v → setCs G cs vs c = some (.cell v)
  | [], _, i, _, _, _, h, _ => by simp at h
  | d :: cs, [], i, _, _, _, _, h => by simp at h
  | d :: cs, u :: vs, 0, c, v, hn, h1, h2 => by
    simp at h1 h2; subst h1 h2
    (wide_line using setCs_cons; wide_open with GH.set_self)
  | d :: cs, u :: vs, i + 1, c, v, hn, h1, h2 => by
    have hn' := List.nodup_cons.mp hn
    simp only [List.getElem?_cons_succ] at h1 h2
    (wide_line using setCs_cons; wide_open with GH.set_ne _ _ (by rintro rfl; exact hn'.1 (List.mem_of_getElem? h1)))
    exact setCs_at hn'.2 h1 h2
theorem five_cells {cs : List Addr} (h : cs.length = 5) (hn : cs.Nodup) : ∃ a b c d e, cs = [a, b, c, d, e] ∧ a ≠ b ∧ a ≠ c ∧ a ≠ d ∧ a ≠ e ∧ b ≠ c ∧ b ≠ d ∧ b ≠ e ∧ c ≠ d ∧ c ≠ e ∧ d ≠ e := by
  refine o_EE (List.exists_cons_of_length_eq_add_one h) fun a t e93 => ?_; subst e93
  refine o_EE (List.exists_cons_of_length_eq_add_one (Nat.succ.inj h)) fun b t e93 => ?_; subst e93
  refine o_EEE (len3 (Nat.succ.inj (Nat.succ.inj h))) fun c d e e94 => ?_; subst e94
  simp only [List.nodup_cons, List.mem_cons, List.not_mem_nil, or_false, not_or, List.nodup_nil, and_true, not_false_eq_true] at hn
  exact (i_EEEEEAAAAAAAAAA a b c d e rfl hn.1.1 hn.1.2.1 hn.1.2.2.1 hn.1.2.2.2 hn.2.1.1 hn.2.1.2.1 hn.2.1.2.2 hn.2.2.1.1 hn.2.2.1.2 hn.2.2.2)
structure Bn (G : GH) (pl P : Addr) (cs : List Addr) (vs : Mm) (ys : List Int) (Gi : GH) : Prop where
  R : ∀ a g, a ≠ pl → a ≠ P → G a = some g → Gi a = some g
  pool : Gi pl = some (.list (ys.map vInt))
  pos : ∀ y ∈ ys, 0 ≤ y
  tab : Gi P = some (.raw (tabObj #[]))
  cel : ∀ (i : Nat) c v, cs[i]? = some c → vs[i]? = some v → Gi c = some (.cell v)
  fr : ∀ c ∈ cs, G c = none
  nd : cs.Nodup
theorem Bn.sub {pl P : Addr} {vs : Mm} {ys : List Int} {Gi Gj : GH} (B : Bn G pl P cs vs ys Gi) (h : Sub Gi Gj) : Bn G pl P cs vs ys Gj :=
  ⟨fun a g h1 h2 e => h _ _ (B.R a g h1 h2 e), h _ _ B.pool, B.pos, h _ _ B.tab, fun i c v h1 h2 => h _ _ (B.cel i c v h1 h2), B.fr, B.nd⟩
theorem Bn.set {pl P : Addr} {vs : Mm} {ys : List Int} {Gi : GH} (B : Bn G pl P cs vs ys Gi) {i : Nat} {c : Addr} {u : Option Value} (hc : cs[i]? = some c) (hu : vs[i]? = some u) (v : Option Value) : Bn G pl P cs (vs.set i v) ys (Gi.set c (.cell v)) := by
  have hcc := B.cel i c u hc hu
  refine ⟨fun a g h1 h2 e => set_ne_of (B.R a g h1 h2 e) (by rintro rfl; wide_line with B.fr _ (List.mem_of_getElem? hc) using e), set_ne_of B.pool (ne_kind B.pool hcc (by simp)), B.pos, set_ne_of B.tab (ne_kind B.tab hcc (by simp)), fun j d w h1 h2 => ?_, B.fr, B.nd⟩
  by_cases hij : j = i
  · subst hij
    wide_line with hc using h1
    wide_open with GH.set_self
    rw [List.getElem?_set_self (by exact (List.getElem?_eq_some_iff.mp hu).1)] at h2
    wide_open using h2; rfl
  · rw [List.getElem?_set_ne (Ne.symm hij)] at h2
    refine set_ne_of (B.cel j d w h1 h2) ?_
    rintro rfl
    obtain ⟨h3, h4⟩ := List.getElem?_eq_some_iff.mp h1
    obtain ⟨h5, h6⟩ := List.getElem?_eq_some_iff.mp hc
    exact hij ((List.getElem_inj B.nd).mp (h4.trans h6.symm))
theorem Bn.fresh {pl P : Addr} {vs : Mm} {ys : List Int} {Gi : GH} (B : Bn G pl P cs vs ys Gi) {a : Addr} (h : Gi a = none) : G a = none := by
  cases q : G a with
  | none => rfl
  | some g =>
    by_cases h1 : a = pl
    · rw [h1, B.pool] at h; wide_open using h
    · by_cases h2 : a = P
      · rw [h2, B.tab] at h; wide_open using h
      · wide_line with B.R a g h1 h2 q using h
theorem Bn.upd {pl P : Addr} {vs : Mm} {ys : List Int} {Gi : GH} (B : Bn G pl P cs vs ys Gi) {a : Addr} {g o : GO} (h0 : G a = none) (h : Gi a = some g) (hk : fixd g = true) : Bn G pl P cs vs ys (Gi.set a o) :=
  ⟨fun x g' h1 h2 e => set_ne_of (B.R x g' h1 h2 e) (by rintro rfl; wide_line with h0 using e), set_ne_of B.pool (ne_kind B.pool h (by rintro rfl; wide_open using hk)), B.pos, set_ne_of B.tab (ne_kind B.tab h (by rintro rfl; wide_open using hk)), fun i c v h1 h2 => set_ne_of (B.cel i c v h1 h2) (ne_kind (B.cel i c v h1 h2) h (by rintro rfl; wide_open using hk)), B.fr, B.nd⟩
theorem Bn.take {pl P : Addr} {vs : Mm} {ys zs : List Int} {Gi : GH} (B : Bn G pl P cs vs ys Gi) (hz : ∀ z ∈ zs, 0 ≤ z) : Bn G pl P cs vs zs (Gi.set pl (.list (zs.map vInt))) :=
  ⟨fun a g h1 h2 e => set_ne_of (B.R a g h1 h2 e) h1, GH.set_self _ _ _, hz, set_ne_of B.tab (ne_kind B.tab B.pool (by simp)), fun i c v h1 h2 => set_ne_of (B.cel i c v h1 h2) (ne_kind (B.cel i c v h1 h2) B.pool (by simp)), B.fr, B.nd⟩
noncomputable def isCell : GO → Bool
  | .cell _ => true
  | _ => false
theorem cellk {a c : Addr} {g o : GO} {x : Option Value} (h : G a = some g) (hc : G c = some (.cell x)) (hk : isCell g = false) : (G.set c o) a = some g := set_ne_of h (ne_kind h hc (by rintro rfl; wide_open using hk))
theorem kf_cell {c : Addr} {o : GO} {x : Option Value} (hc : G c = some (.cell x)) : KF G (G.set c o) := fun a g hg h => set_ne_of h (ne_kind h hc (by rintro rfl; wide_open using hg))
theorem iter_range2 {a : Addr} {lo hi : Int} {K : List Value → (GH → Prop) → Prop} (h : G a = some (.range lo hi)) (hb : -4000000 ≤ lo ∧ hi ≤ 4000000 ∧ lo ≤ 4000000 ∧ -4000000 ≤ hi)
    (k : K ((List.range (hi - lo).toNat).map fun (j : Nat) => Value.int (lo + Int.ofNat j) 0) fun z9 => True) : iterG (.ref a) G K := by
  unfold iterG; dsimp only; wide_open with h
  exact (i_AAA hb.1 hb.2.1 hb.2.2 k)
noncomputable def isD (d : Int) : Value → Bool
  | .int x _ => decide (x = d + 1)
  | _ => false
set_option tactic.hygienic true in
theorem comp_filter {chk : GH → Prop} {el : Value → GH → (Option Value → GH → Prop) → Prop} (p : Value → Bool) (hc : chk G) : ∀ (xs acc : List Value), (∀ x ∈ xs, ∀ k : Option Value → GH → Prop, k (if p x then some x else none) G → el x G k) →
    newG (.list (acc ++ xs.filter p)) G K → compG chk el xs acc G K
  | [], acc, _, k => ⟨hc, by simpa using k⟩
  | x :: xs, acc, he, k => ⟨hc, he x List.mem_cons_self _ (comp_filter p hc xs (acc ++ (if p x then some x else none).toList) (fun y hy => he y (List.mem_cons_of_mem _ hy)) (by
      rw [List.filter_cons] at k
      walk_at "open_"
      split
      · rename_i h; rw [if_pos h] at k; simpa using k
      · rename_i h; rw [if_neg h] at k; simpa using k))⟩
theorem all2_replicate {α β : Type} {R : α → β → Prop} {a : α} {b : β} (h : R a b) : ∀ m, All2 R (List.replicate m a) (List.replicate m b)
  | 0 => .nil
  | m + 1 => .cons h (all2_replicate h m)
theorem del2 {a x y : Addr} {g : GO} (h : G a = some g) (h1 : a ≠ x) (h2 : a ≠ y) : ((G.del x).del y) a = some g := by (wide_line using GH.del_ne _ h2; wide_open with GH.del_ne _ h1); exact h
theorem deep_right_ (H1 : Facts1 W P1 P2) {pl : Addr} {xs : List Int} (hp : G pl = some (.list (xs.map vInt))) (hx : ∀ x ∈ xs, 0 ≤ x) (hP : G P1 = some (.raw (tabObj #[])))
    (k : ∀ G', (∀ a g, a ≠ pl → a ≠ P1 → G a = some g → G' a = some g) → Tab G' P1 → K (.bool true) G') : CallC W (n + 60) (.ref a__law_deep_right) [.ref pl] G K := by
  have F := H1.F
  refine o_EE F.O fun mg mb O => ?_
  refine callT_cel (n := n + 59) O H1.f__law_deep_right rfl (by simp [sp__law_deep_right]) fun cs hl hn hf => ?_
  obtain ⟨c0, c1, c2, c3, c4, rfl, -⟩ := five_cells hl hn
  simp only [b__law_deep_right, sp__law_deep_right]
  have hS := sub_setCs (vs := srcM [none, none, none, none, none] [.ref pl]) hn hf
  walk_at "open_"
  have hS : Sub G (setCs G [c0, c1, c2, c3, c4] [none, none, none, none, none]) := hS
  have B : Bn G pl P1 [c0, c1, c2, c3, c4] [none, none, none, none, none] xs (setCs G [c0, c1, c2, c3, c4] [none, none, none, none, none]) :=
    ⟨fun a g z9 z9 h => hS a g h, hS _ _ hp, hx, hS _ _ hP, fun i c v h1 h2 => setCs_at hn h1 h2, hf, hn⟩
  generalize setCs G [c0, c1, c2, c3, c4] [none, none, none, none, none] = G0 at *
  clear hS
  intro t8 ht8
  have ht8' := GH.set_self G0 t8 (.tup [.int 1 0, .int 2 0, .int 1 0, .int 2 0, .int 1 0, .int 2 0, .int 1 0, .int 3 0])
  replace B := B.sub (sub_set (o := .tup [.int 1 0, .int 2 0, .int 1 0, .int 2 0, .int 1 0, .int 2 0, .int 1 0, .int 3 0]) ht8)
  generalize G0.set t8 (.tup [.int 1 0, .int 2 0, .int 1 0, .int 2 0, .int 1 0, .int 2 0, .int 1 0, .int 3 0]) = G1 at *
  clear ht8
  refine ⟨keep_fn F.k__law_take, CallC.T (take_ F (m := 8) B.pool B.pos (by decide) (by decide) fun dm ys hdm hys => ?_)⟩
  replace ht8' := set_ne_of (o := .list (ys.map vInt)) ht8' (ne_kind ht8' B.pool (by simp))
  replace B := B.take hys
  generalize G1.set pl (.list (ys.map vInt)) = G2 at *
  obtain ⟨many, hmany, hpk⟩ : ∃ many : Nat, (many = 1 ∨ many = 2 ∨ many = 3) ∧ pickI [Value.int 1 0, .int 2 0, .int 1 0, .int 2 0, .int 1 0, .int 2 0, .int 1 0, .int 3 0] (dm : Int) = some (.int many 0) := by
    have : ∀ d : Fin 8, ∃ many : Fin 4, (many.val = 1 ∨ many.val = 2 ∨ many.val = 3) ∧ pickI [Value.int 1 0, .int 2 0, .int 1 0, .int 2 0, .int 1 0, .int 2 0, .int 1 0, .int 3 0] (d.val : Int) = some (.int many.val 0) := by decide +kernel
    refine o_EA (this ⟨dm, hdm⟩) fun m h1 h2 => ?_
    exact (i_EA m.val h1 h2)
  refine sub_tup ht8' hpk ?_
  clear ht8' hpk
  refine (i_EEAA c0 _ rfl (B.cel 0 c0 none rfl rfl) ?_)
  replace B := B.set (i := 0) (c := c0) (u := none) rfl rfl (some (.int many 0))
  generalize G2.set c0 (.cell (some (.int many 0))) = G3 at *
  refine ⟨keep_fn F.k__law_take, CallC.T (take_ F (m := 7) B.pool B.pos (by decide) (by decide) fun d zs hd hzs => ?_)⟩
  replace B := B.take hzs
  generalize G3.set pl (.list (zs.map vInt)) = G4 at *
  refine (i_EEAA c1 _ rfl (B.cel 1 c1 none rfl rfl) ?_)
  replace B := B.set (i := 1) (c := c1) (u := none) rfl rfl (some (.int d 0))
  generalize G4.set c1 (.cell (some (.int d 0))) = G5 at *
  simp only [List.set_cons_zero, List.set_cons_succ] at B
  -- the row
  refine ⟨keep_fn F.k_Info, CallC.T (new_Info F ?_)⟩
  intro a ha
  have ha0 := B.fresh ha
  have A1 := GH.set_self G5 a (infoO ⟨0, 1, 0, 0, false, ""⟩)
  replace B := B.sub (sub_set (o := infoO ⟨0, 1, 0, 0, false, ""⟩) ha)
  generalize G5.set a (infoO ⟨0, 1, 0, 0, false, ""⟩) = G6 at *
  intro r hr
  have A2 := GH.set_self G6 r (.list [.ref a])
  replace A1 := set_old (o := .list [.ref a]) hr A1
  replace B := B.sub (sub_set (o := .list [.ref a]) hr)
  generalize G6.set r (.list [.ref a]) = G7 at *
  refine ⟨keep_fn F.k_Buffer, CallC.T (new_Buffer F ?_)⟩
  intro b hb
  have A3 := GH.set_self G7 b (bufO r)
  replace A1 := set_old (o := bufO r) hb A1
  replace A2 := set_old (o := bufO r) hb A2
  replace B := B.sub (sub_set (o := bufO r) hb)
  generalize G7.set b (bufO r) = G8 at *
  clear ha hr hb
  walk_at "open_"
  refine attr_ A3 F.c_Buffer rfl rfl rfl ?_
  refine sub_list A2 rfl ?_
  refine seta_ A1 F.c_Info rfl (Nat.le_of_ble_eq_true rfl) ?_
  walk_at "open_"
  refine (show newG (.tup []) (G8.set a (infoO ⟨0, 1, 0, 1, false, ""⟩)) _ from ?_)
  replace B := B.upd (o := infoO ⟨0, 1, 0, 1, false, ""⟩) ha0 A1 rfl
  replace A2 := set_ne_of (o := infoO ⟨0, 1, 0, 1, false, ""⟩) A2 (ne_kind A2 A1 (by unfold infoO; simp))
  replace A3 := set_ne_of (o := infoO ⟨0, 1, 0, 1, false, ""⟩) A3 (ne_kind A3 A1 (by unfold infoO bufO; intro h; wide_open using h))
  replace A1 := GH.set_self G8 a (infoO ⟨0, 1, 0, 1, false, ""⟩)
  generalize G8.set a (infoO ⟨0, 1, 0, 1, false, ""⟩) = G9 at *
  -- the table
  intro e1 he1
  have S1 := sub_set (o := .tup []) he1
  intro l1 hl1
  have S2 := S1.trans (sub_set (o := .list [.int 1 0]) hl1)
  refine ⟨keep_fn F.k_coverage_of, CallC.T (coverage_of_ (n := n + 56) F (l := l1) (ns := [1]) (GH.set_self _ _ _) (by simp) fun cv ms G10 sc hcv0 hcov hsort hmem => ?_)⟩
  have S3 := S2.trans sc
  have E1 := sc _ _ (sub_set (o := .list [.int 1 0]) hl1 _ _ (GH.set_self _ e1 _))
  intro t1 ht1
  have s4 := sub_set (o := .tup [.ref cv]) ht1
  intro e2 he2
  have s5 := sub_set (o := .tup []) he2
  intro t0 ht0
  have s6 := sub_set (o := .tup [.int 0 0, .int 0 0]) ht0
  intro t00 ht00
  have s7 := sub_set (o := .tup [.ref t0]) ht00
  have S7 := S3.trans (s4.trans (s5.trans (s6.trans s7)))
  refine cell_ok (S7 _ _ (B.cel 0 c0 _ rfl rfl)) ?_
  refine rep_ok (xs := [.ref t0]) (k := many) (GH.set_self _ _ _) (by simp) (by simp) (by lia) fun ac G11 s8 hac hoth => ?_
  have S8 := S7.trans s8
  have T1 := s8 _ _ (s7 _ _ (s6 _ _ (s5 _ _ (GH.set_self _ t1 _))))
  have T2 := s8 _ _ (s7 _ _ (s6 _ _ (GH.set_self _ e2 _)))
  have T3 := s8 _ _ (s7 _ _ (GH.set_self _ t0 _))
  have Tc := hcov.sub (s4.trans (s5.trans (s6.trans (s7.trans s8))))
  replace E1 := s8 _ _ (s7 _ _ (s6 _ _ (s5 _ _ (s4 _ _ E1))))
  clear s4 s5 s6 s7 hoth
  replace B := B.sub S8
  replace A1 := S8 _ _ A1
  replace A2 := S8 _ _ A2
  replace A3 := S8 _ _ A3
  clear S1 S2 S3 S7 S8 s8 sc ht1 he2 ht0 ht00 he1 hl1 hcov hcv0
  refine ⟨keep_fn F.k_Rule, CallC.T (new_Rule (n := n + 57) F ?_)⟩
  intro ru hru
  have s1 := sub_set (o := ruleO e1 t1 e2 (.ref ac)) hru
  have U1 := GH.set_self G11 ru (ruleO e1 t1 e2 (.ref ac))
  intro rl hrl
  have s2 := sub_set (o := .list [.ref ru]) hrl
  have U2 := GH.set_self (G11.set ru (ruleO e1 t1 e2 (.ref ac))) rl (.list [.ref ru])
  intro ep sets hsets
  have ed : ([0].zip [Value.ref rl]).foldl (fun l p => put l p.1 p.2) [] = [((0 : Int), Value.ref rl)] := rfl
  rw [ed] at *
  have s3 := sub_set (o := .dict [(0, .ref rl)] ep) hsets
  have U3 := GH.set_self ((G11.set ru (ruleO e1 t1 e2 (.ref ac))).set rl (.list [.ref ru])) sets (.dict [(0, .ref rl)] ep)
  refine ⟨keep_fn F.k_Contexts, CallC.T (new_Contexts (n := n + 57) F ?_)⟩
  intro tb htb
  have s4 := sub_set (o := ctxO 3 true sets .none .none) htb
  have U4 := GH.set_self (((G11.set ru (ruleO e1 t1 e2 (.ref ac))).set rl (.list [.ref ru])).set sets (.dict [(0, .ref rl)] ep)) tb (ctxO 3 true sets .none .none)
  have S4 := s1.trans (s2.trans (s3.trans s4))
  replace U1 := s4 _ _ (s3 _ _ (s2 _ _ U1))
  replace U2 := s4 _ _ (s3 _ _ U2)
  replace U3 := s4 _ _ U3
  replace B := B.sub S4
  replace A1 := S4 _ _ A1
  replace A2 := S4 _ _ A2
  replace A3 := S4 _ _ A3
  replace T1 := S4 _ _ T1
  replace T2 := S4 _ _ T2
  replace T3 := S4 _ _ T3
  replace E1 := S4 _ _ E1
  replace hac := S4 _ _ hac
  replace Tc := Tc.sub S4
  generalize (((G11.set ru (ruleO e1 t1 e2 (.ref ac))).set rl (.list [.ref ru])).set sets (.dict [(0, .ref rl)] ep)).set tb (ctxO 3 true sets .none .none) = G12 at *
  clear s1 s2 s3 s4 S4 hru hrl hsets htb
  refine (i_EEAA c4 _ rfl (B.cel 4 c4 none rfl rfl) ?_)
  have hc := B.cel 4 c4 none rfl rfl
  replace A1 := cellk (o := .cell (some (.ref tb))) A1 hc rfl
  replace A2 := cellk (o := .cell (some (.ref tb))) A2 hc rfl
  replace A3 := cellk (o := .cell (some (.ref tb))) A3 hc rfl
  replace T1 := cellk (o := .cell (some (.ref tb))) T1 hc rfl
  replace T2 := cellk (o := .cell (some (.ref tb))) T2 hc rfl
  replace T3 := cellk (o := .cell (some (.ref tb))) T3 hc rfl
  replace E1 := cellk (o := .cell (some (.ref tb))) E1 hc rfl
  replace hac := cellk (o := .cell (some (.ref tb))) hac hc rfl
  replace U1 := cellk (o := .cell (some (.ref tb))) U1 hc rfl
  replace U2 := cellk (o := .cell (some (.ref tb))) U2 hc rfl
  replace U3 := cellk (o := .cell (some (.ref tb))) U3 hc rfl
  replace U4 := cellk (o := .cell (some (.ref tb))) U4 hc rfl
  replace Tc := Tc.kf (kf_cell (o := .cell (some (.ref tb))) hc)
  replace B := B.set (i := 4) (c := c4) (u := none) rfl rfl (some (.ref tb))
  clear hc
  generalize G12.set c4 (.cell (some (.ref tb))) = G13 at *
  simp only [List.set_cons_zero, List.set_cons_succ] at B
  refine cell_ok (B.cel 4 c4 _ rfl rfl) ?_
  intro ll hll
  have s1 := sub_set (o := .list [.ref tb]) hll
  refine ⟨keep_fn F.k_Lookup, CallC.T (new_Lookup (n := n + 57) F ?_)⟩
  intro lk hlk
  have s2 := s1.trans (sub_set (o := lookO "chain" 0 0 (.ref ll)) hlk)
  have V1 := GH.set_self (G13.set ll (.list [.ref tb])) lk (lookO "chain" 0 0 (.ref ll))
  intro epa d1 hd1
  have ee : (([] : List Int).zip ([] : List Value)).foldl (fun l p => put l p.1 p.2) [] = ([] : List (Int × Value)) := rfl
  rw [ee] at *
  have t1' := sub_set (o := .dict [] epa) hd1
  have V2 := GH.set_self ((G13.set ll (.list [.ref tb])).set lk (lookO "chain" 0 0 (.ref ll))) d1 (.dict [] epa)
  refine ⟨keep_fn F.k_ClassDef, CallC.T (new_ClassDef (n := n + 57) F ?_)⟩
  intro cd1 hcd1
  have t2' := sub_set (o := .inst a_ClassDef [(31, .ref d1)]) hcd1
  have V3 := GH.set_self (((G13.set ll (.list [.ref tb])).set lk (lookO "chain" 0 0 (.ref ll))).set d1 (.dict [] epa)) cd1 (.inst a_ClassDef [(31, .ref d1)])
  intro epb d2 hd2
  rw [ee] at *
  have t3' := sub_set (o := .dict [] epb) hd2
  refine ⟨keep_fn F.k_ClassDef, CallC.T (new_ClassDef (n := n + 57) F ?_)⟩
  intro cd2 hcd2
  have t4' := sub_set (o := .inst a_ClassDef [(31, .ref d2)]) hcd2
  intro sl hsl
  have t5' := sub_set (o := .list []) hsl
  refine ⟨keep_fn F.k_Gdef, CallC.T (new_Gdef (n := n + 57) F fun gd d3 d4 G14 t6' z9 V4 => ?_)⟩
  replace V3 := t6' _ _ (t5' _ _ (t4' _ _ (t3' _ _ V3)))
  replace V2 := t6' _ _ (t5' _ _ (t4' _ _ (t3' _ _ (t2' _ _ V2))))
  replace V1 := t6' _ _ (t5' _ _ (t4' _ _ (t3' _ _ (t2' _ _ (t1' _ _ V1)))))
  have s3 := s2.trans (t1'.trans (t2'.trans (t3'.trans (t4'.trans (t5'.trans t6')))))
  clear t1' t2' t3' t4' t5' t6' s1 s2 hll hlk hd1 hcd1 hd2 hcd2 hsl
  have VG : GdefAt G14 gd [] := ⟨cd1, _, _, _, _, V4, d1, epa, V3, V2⟩
  replace A1 := s3 _ _ A1
  replace A2 := s3 _ _ A2
  replace A3 := s3 _ _ A3
  replace T1 := s3 _ _ T1
  replace T2 := s3 _ _ T2
  replace T3 := s3 _ _ T3
  replace E1 := s3 _ _ E1
  replace hac := s3 _ _ hac
  replace U1 := s3 _ _ U1
  replace U2 := s3 _ _ U2
  replace U3 := s3 _ _ U3
  replace U4 := s3 _ _ U4
  replace Tc := Tc.sub s3
  replace B := B.sub s3
  clear s3 V2 V3 V4
  intro ls hls
  have s1 := sub_set (o := .list [.ref lk]) hls
  have V5 := GH.set_self G14 ls (.list [.ref lk])
  refine cell_ok (s1 _ _ (B.cel 1 c1 _ rfl rfl)) ?_
  refine ⟨keep_fn F.k_Scene, CallC.T (new_Scene (n := n + 57) F fun s st hs hst hsst => ?_)⟩
  have s2 := s1.trans (sub_set (o := sceneO b gd ls lk 1 d st) hs)
  have hst' : ((G14.set ls (.list [.ref lk])).set s (sceneO b gd ls lk 1 d st)) st = none := by wide_open with GH.set_ne _ _ hsst.symm; exact hst
  have s3 := sub_set (o := .list [.int 0 0]) hst'
  have fst0 := B.fresh (none_of_sub s2 hst')
  have V6 := s3 _ _ (GH.set_self (G14.set ls (.list [.ref lk])) s (sceneO b gd ls lk 1 d st))
  have V7 := GH.set_self ((G14.set ls (.list [.ref lk])).set s (sceneO b gd ls lk 1 d st)) st (.list [.int 0 0])
  -- the lists that stay are other ones
  have old_st : ∀ {x : Addr} {g : GO}, G14 x = some g → x ≠ st := fun {x g} h => by
    rintro rfl
    have := s2 _ _ h
    wide_line with hst' using this
  have n1 : r ≠ st := old_st A2
  have n2 : rl ≠ st := old_st U2
  have n3 : ls ≠ st := by rintro rfl; have := sub_set (o := sceneO b gd ls lk 1 d ls) hs _ _ V5; wide_line with hst' using this
  have S3 := s2.trans s3
  replace V5 := s3 _ _ (sub_set (o := sceneO b gd ls lk 1 d st) hs _ _ V5)
  replace A1 := S3 _ _ A1
  replace A2 := S3 _ _ A2
  replace A3 := S3 _ _ A3
  replace T1 := S3 _ _ T1
  replace T2 := S3 _ _ T2
  replace T3 := S3 _ _ T3
  replace E1 := S3 _ _ E1
  replace hac := S3 _ _ hac
  replace U1 := S3 _ _ U1
  replace U2 := S3 _ _ U2
  replace U3 := S3 _ _ U3
  replace U4 := S3 _ _ U4
  replace Tc := Tc.sub S3
  replace B := B.sub S3
  replace VG := VG.sub S3
  replace V1 := S3 _ _ V1
  generalize ((G14.set ls (.list [.ref lk])).set s (sceneO b gd ls lk 1 d st)).set st (.list [.int 0 0]) = G15 at *
  clear s1 s2 s3 S3 hls hs hst hst' old_st hsst
  intro lg hlg
  have flg0 := B.fresh hlg
  have s1 := sub_set (o := .list []) hlg
  have V8 := GH.set_self G15 lg (.list [])
  have old_lg : ∀ {x : Addr} {g : GO}, G15 x = some g → x ≠ lg := fun {x g} h => by rintro rfl; wide_line with hlg using h
  have m1 := old_lg A2
  have m2 := old_lg U2
  have m3 := old_lg V5
  have m4 := old_lg V7
  refine (i_EEAA c3 _ rfl (s1 _ _ (B.cel 3 c3 none rfl rfl)) ?_)
  replace B := B.sub s1
  have hc := B.cel 3 c3 none rfl rfl
  replace A1 := cellk (o := .cell (some (.ref lg))) (s1 _ _ A1) hc rfl
  replace A2 := cellk (o := .cell (some (.ref lg))) (s1 _ _ A2) hc rfl
  replace A3 := cellk (o := .cell (some (.ref lg))) (s1 _ _ A3) hc rfl
  replace T1 := cellk (o := .cell (some (.ref lg))) (s1 _ _ T1) hc rfl
  replace T2 := cellk (o := .cell (some (.ref lg))) (s1 _ _ T2) hc rfl
  replace T3 := cellk (o := .cell (some (.ref lg))) (s1 _ _ T3) hc rfl
  replace E1 := cellk (o := .cell (some (.ref lg))) (s1 _ _ E1) hc rfl
  replace hac := cellk (o := .cell (some (.ref lg))) (s1 _ _ hac) hc rfl
  replace U1 := cellk (o := .cell (some (.ref lg))) (s1 _ _ U1) hc rfl
  replace U2 := cellk (o := .cell (some (.ref lg))) (s1 _ _ U2) hc rfl
  replace U3 := cellk (o := .cell (some (.ref lg))) (s1 _ _ U3) hc rfl
  replace U4 := cellk (o := .cell (some (.ref lg))) (s1 _ _ U4) hc rfl
  replace V1 := cellk (o := .cell (some (.ref lg))) (s1 _ _ V1) hc rfl
  replace V5 := cellk (o := .cell (some (.ref lg))) (s1 _ _ V5) hc rfl
  replace V6 := cellk (o := .cell (some (.ref lg))) (s1 _ _ V6) hc rfl
  replace V7 := cellk (o := .cell (some (.ref lg))) (s1 _ _ V7) hc rfl
  replace V8 := cellk (o := .cell (some (.ref lg))) V8 hc rfl
  replace Tc := (Tc.sub s1).kf (kf_cell (o := .cell (some (.ref lg))) hc)
  replace VG := (VG.sub s1).kf (kf_cell (o := .cell (some (.ref lg))) hc)
  replace B := B.set (i := 3) (c := c3) (u := none) rfl rfl (some (.ref lg))
  clear hc s1 hlg old_lg
  generalize (G15.set lg (.list [])).set c3 (.cell (some (.ref lg))) = G16 at *
  simp only [List.set_cons_zero, List.set_cons_succ] at B
  walk_at "open_"
  refine H1.mk_deep (n + 59) c0 c1 c2 c3 c4 G16 _ B.tab fun f c' G17 hfc hf0 hc0 hoth htab0 hclo => ?_
  -- the nested function stands
  have mv : ∀ {x : Addr} {g : GO}, G16 x = some g → (∀ o, g ≠ .raw o) → G17 x = some g := fun {x g} h hk => by
    wide_open with hoth x (by rintro rfl; wide_line with hf0 using h) (by rintro rfl; wide_line with hc0 using h) (ne_kind h B.tab (hk _)); exact h
  have z2 := mv (B.cel 2 c2 none rfl rfl) (by simp)
  obtain ⟨tps, htab⟩ := htab0
  replace htab := cellk (o := .cell (some (.ref f))) htab z2 rfl
  refine (i_EEAA c2 _ rfl z2 ?_)
  have mw : ∀ {x : Addr} {g : GO}, G16 x = some g → (∀ o, g ≠ .raw o) → isCell g = false → (G17.set c2 (.cell (some (.ref f)))) x = some g := fun h1 h2 h3 => cellk (mv h1 h2) z2 h3
  have mkf : KF G16 (G17.set c2 (.cell (some (.ref f)))) := fun x g hg h => mw h (by rintro o rfl; wide_open using hg) (by cases g <;> first | rfl | wide_open using hg)
  have Z2 := GH.set_self G17 c2 (.cell (some (.ref f)))
  have nd := B.nd
  have ndc : ∀ {i : Nat} {c : Addr} {v : Option Value}, [c0, c1, c2, c3, c4][i]? = some c → c ≠ c2 → G16 c = some (.cell v) → (G17.set c2 (.cell (some (.ref f)))) c = some (.cell v) := fun z9 h2 h3 => set_ne_of (mv h3 (by simp)) h2
  obtain ⟨w01, w02, w03, w04, w12, w13, w14, w23, w24, w34⟩ : c0 ≠ c1 ∧ c0 ≠ c2 ∧ c0 ≠ c3 ∧ c0 ≠ c4 ∧ c1 ≠ c2 ∧ c1 ≠ c3 ∧ c1 ≠ c4 ∧ c2 ≠ c3 ∧ c2 ≠ c4 ∧ c3 ≠ c4 := by
    simp only [List.nodup_cons, List.mem_cons, List.not_mem_nil, or_false, not_or, List.nodup_nil, and_true, not_false_eq_true] at nd
    refine o_AAA nd fun n91 n92 n93 h10 => ?_; try clear nd; obtain ⟨h1, h2, h3, h4⟩ := n91; obtain ⟨h5, h6, h7⟩ := n92; obtain ⟨h8, h9⟩ := n93
    exact (i_AAAAAAAAA h1 h2 h3 h4 h5 h6 h7 h8 h9 h10)
  have Z0 := ndc (i := 0) rfl w02 (B.cel 0 c0 _ rfl rfl)
  have Z1 := ndc (i := 1) rfl w12 (B.cel 1 c1 _ rfl rfl)
  have Z3 := ndc (i := 3) rfl w23.symm (B.cel 3 c3 _ rfl rfl)
  have Z4 := ndc (i := 4) rfl w24.symm (B.cel 4 c4 _ rfl rfl)
  have Rf : ∀ x g, x ≠ pl → x ≠ P1 → G x = some g → (G17.set c2 (.cell (some (.ref f)))) x = some g := fun x g h1 h2 h => by
    have h3 := B.R x g h1 h2 h
    (wide_line using GH.set_ne _ _ (by rintro rfl; wide_line with B.fr x (by simp) using h); wide_open with hoth x (by rintro rfl; wide_line with hf0 using h3) (by rintro rfl; wide_line with hc0 using h3) h2)
    exact h3
  replace A1 := mkf _ _ rfl A1
  replace A2 := mw A2 (by simp) rfl
  replace A3 := mkf _ _ rfl A3
  replace T1 := mkf _ _ rfl T1
  replace T2 := mkf _ _ rfl T2
  replace T3 := mkf _ _ rfl T3
  replace E1 := mkf _ _ rfl E1
  replace hac := mkf _ _ rfl hac
  replace U1 := mkf _ _ rfl U1
  replace U2 := mw U2 (by simp) rfl
  replace U3 := mkf _ _ rfl U3
  replace U4 := mkf _ _ rfl U4
  replace V1 := mkf _ _ rfl V1
  replace V5 := mw V5 (by simp) rfl
  replace V6 := mkf _ _ rfl V6
  replace V7 := mw V7 (by simp) rfl
  replace V8 := mw V8 (by simp) rfl
  replace Tc := Tc.kf mkf
  replace VG := VG.kf mkf
  replace hclo := hclo.kept (G' := G17.set c2 (.cell (some (.ref f)))) fun x o h => cellk h z2 rfl
  clear mv mw mkf ndc z2 hf0 hc0 hoth
  generalize G17.set c2 (.cell (some (.ref f))) = G18 at *
  have kfc : KF G18 ((G18.del st).del lg) := fun x g hg h => del2 h (ne_kind h V7 (by rintro rfl; wide_open using hg)) (ne_kind h V8 (by rintro rfl; wide_open using hg))
  have C : DC W ((G18.del st).del lg) b gd ls lk st lg tb f c2 c3 c4 many := {
    nst := by (wide_line using GH.del_ne _ m4; wide_open with GH.del_self)
    nlg := GH.del_self _ _
    ne := m4
    row := ⟨a, (i_EA r (kfc _ _ rfl A3) (del2 A2 n1 m1)), fun x hx => by wide_open with List.mem_singleton.mp hx; exact kfc _ _ rfl A1⟩
    hgd := VG.kf kfc
    hls := del2 V5 n3 m3
    hlk := ⟨_, kfc _ _ rfl V1⟩
    htb := ⟨sets, ep, rl, ru, e1, t1, e2, ac, fun g => decide (g ∈ ms), kfc _ _ rfl U4, kfc _ _ rfl U3, del2 U2 n2 m2, kfc _ _ rfl U1, (i_EAA ([]) (kfc _ _ rfl E1) .nil (by simp)), (i_EAA ([cv]) (kfc _ _ rfl T1) (.cons (i_EAA ms (Tc.kf kfc) hsort rfl) .nil) (by simp)), (i_EAA ([]) (kfc _ _ rfl T2) .nil (by simp)),
      by have := (hmem 1).mpr (by simp); simpa using this, List.replicate many t0, by wide_open with kfc _ _ rfl hac; simp [refs], all2_replicate (R := fun t (q : Nat × Nat) => ((G18.del st).del lg) t = some (.tup [.int q.1 0, .int q.2 0])) (kfc _ _ rfl T3) many⟩
    clo := hclo.kept fun x o h => del2 h (ne_kind h V7 (by simp)) (ne_kind h V8 (by simp))
    h2 := del2 Z2 (ne_kind Z2 V7 (by simp)) (ne_kind Z2 V8 (by simp))
    h3 := del2 Z3 (ne_kind Z3 V7 (by simp)) (ne_kind Z3 V8 (by simp))
    h4 := del2 Z4 (ne_kind Z4 V7 (by simp)) (ne_kind Z4 V8 (by simp)) }
  have subC : Sub ((G18.del st).del lg) G18 := fun x g h => by
    by_cases h1 : x = lg
    · rw [h1, GH.del_self] at h; wide_open using h
    · rw [GH.del_ne _ h1] at h
      by_cases h2 : x = st
      · rw [h2, GH.del_self] at h; wide_open using h
      · rwa [GH.del_ne _ h2] at h
  generalize (G18.del st).del lg = Gc at *
  refine cell_ok (Z1) ?_
  refine sub_int_ok ?_
  refine ⟨trivial, range2_ok ?_⟩
  intro rg hrg
  have s1 := sub_set (o := .range 1 (7 - (d : Int))) hrg
  have elen : (7 - (d : Int) - 1).toNat = 6 - d := by lia
  refine iter_range2 (GH.set_self _ _ _) (i_AAA (by decide) (by lia) (by decide) (by lia)) ?_
  wide_open with elen
  refine ⟨by simp [small]; (first | exact lqA (by lia) (by lia) | exact lqB (by lia) | exact lqD (by lia) | lia), ?_⟩
  refine comp_map (fun v => match v with | .int j _ => vInt ((many : Int) ^ j.toNat) | v => v) trivial _ [] (fun y hy kk => ?_) ?_
  · refine o_EA (List.mem_map.mp hy) fun j hj e93 => ?_; subst e93
    have := List.mem_range.mp hj
    intro kq
    refine cell_ok (s1 _ _ Z0) ?_
    walk_at "open_"
    refine pow_ok (by simp only [Int.ofNat_eq_natCast]; lia) (by simp only [Int.ofNat_eq_natCast]; lia) (by lia) ?_
    exact kq
  intro pw hpw
  have e3 : ([] ++ ((List.range (6 - d)).map fun (j : Nat) => Value.int (1 + Int.ofNat j) 0).map fun v => match v with | .int j _ => vInt ((many : Int) ^ j.toNat) | v => v) = ((List.range (6 - d)).map fun (j : Nat) => (many : Int) ^ (1 + j)).map vInt := by
    simp only [List.nil_append, List.map_map]
    apply List.map_congr_left
    intro j _
    simp only [Function.comp]
    congr 2
  rw [e3] at *
  have s2 := s1.trans (sub_set (o := .list (((List.range (6 - d)).map fun (j : Nat) => (many : Int) ^ (1 + j)).map vInt)) hpw)
  refine ⟨trivial, sum_list_ok (GH.set_self _ _ _) ?_⟩
  wide_open with due_eq many d hmany hd
  refine ⟨trivial, min2_ok ?_⟩
  refine o_AA (deepRun_spec many (6 - d) d 0 (by decide)) fun d1 d2 z9 => ?_
  have d3 := deepRun_count many (6 - d) d 0 (by decide)
  have hdue : (if ((totalD many (6 - d) : Nat) : Int) < 256 then ((totalD many (6 - d) : Nat) : Int) else 256) = ((deepRun many (6 - d) d 0).2.length : Nat) := by
    have : (deepRun many (6 - d) d 0).2.length = min 256 (totalD many (6 - d)) := by lia
    wide_open with this; split <;> lia
  wide_open with hdue
  generalize (((G18.set rg (.range 1 (7 - (d : Int)))).set pw (.list (((List.range (6 - d)).map fun (j : Nat) => (many : Int) ^ (1 + j)).map vInt)))) = G19 at *
  refine cell_ok (s2 _ _ Z4) ?_
  refine cell_ok (s2 _ _ Z2) ?_
  have if0 : (if (d : Int) = 0 then 0 else 0 : Nat) = 0 := by split <;> rfl
  refine ⟨keep_fn F.k_apply_context, CallT.room (CallC.T (deep_ H1 C (6 - d) d G19 s 0 [] _ (by lia) (by lia) (subC.trans s2) (s2 _ _ V6) (s2 _ _ V7) (s2 _ _ V8) (by decide) (by simp) fun G20 y1 y2 y3 => ?_)) (by lia)⟩
  rw [if0] at y2 y3
  rw [List.nil_append] at y3
  have kc20 : ∀ {x : Addr} {g : GO}, G18 x = some g → x ≠ st → x ≠ lg → G20 x = some g := fun h h1 h2 => y1 _ _ h1 h2 (s2 _ _ h)
  have cz : ∀ {c : Addr} {v : Option Value}, G18 c = some (.cell v) → G20 c = some (.cell v) := fun h => kc20 h (ne_kind h V7 (by simp)) (ne_kind h V8 (by simp))
  have R20 : ∀ x g, x ≠ pl → x ≠ P1 → G x = some g → G20 x = some g := fun x g h1 h2 h => kc20 (Rf x g h1 h2 h) (by rintro rfl; wide_line with fst0 using h) (by rintro rfl; wide_line with flg0 using h)
  refine cmpI_ok rfl ?_
  wide_open with decide_eq_true (by rfl)
  walk_at "open_"
  refine cell_ok (cz Z3) ?_
  refine ⟨trivial, len_list_ok y3 ?_⟩
  refine cmpI_ok rfl ?_
  wide_open with decide_eq_true (by simp)
  walk_at "open_"
  refine cell_ok (cz Z3) ?_
  refine iter_list y3 ⟨by simp [small]; (first | exact lqA (by lia) (by lia) | exact lqB (by lia) | exact lqD (by lia) | lia), ?_⟩
  refine comp_filter (isD d) y3 _ [] (fun y hy kk => ?_) ?_
  · refine o_EA (List.mem_map.mp hy) fun x hx e93 => ?_; subst e93
    intro kq
    refine cell_ok (cz Z1) ?_
    refine add_ok ?_
    refine cmp_if (p := x = (d : Int) + 1) rfl (fun hxd => ?_) (fun hxd => ?_)
    · walk_at "open_"
      have : isD d (vInt x) = true := decide_eq_true hxd
      rw [this] at kq
      exact kq
    · walk_at "open_"
      have : isD d (vInt x) = false := decide_eq_false hxd
      rw [this] at kq
      exact kq
  intro fl hfl
  have s3 := sub_set (o := .list ([] ++ ((deepRun many (6 - d) d 0).2.map vInt).filter (isD d))) hfl
  refine ⟨trivial, len_list_ok (GH.set_self _ _ _) ?_⟩
  refine cell_ok (s3 _ _ (cz Z0)) ?_
  refine cmpI_ok rfl ?_
  have ef : ([] ++ ((deepRun many (6 - d) d 0).2.map vInt).filter (isD d)).length = ((deepRun many (6 - d) d 0).2.filter (fun x => decide (x = (d : Int) + 1))).length := by
    (wide_line using List.nil_append; wide_line using List.filter_map; wide_open with List.length_map); rfl
  (wide_line using ef; wide_open with decide_eq_false (by lia))
  refine cell_ok (s3 _ _ (cz Z1)) ?_
  have htab20 := kc20 htab (ne_kind htab V7 (by simp)) (ne_kind htab V8 (by simp))
  have fin : ∀ Gz m, (∀ x g, x ≠ pl → x ≠ P1 → G x = some g → Gz x = some g) → Gz P1 = some (.raw (tabObj tps)) → bodyK K (.ret (.bool true)) m Gz := fun Gz m h h' => ret_same (k Gz h ⟨tps, h'⟩)
  refine cmp_if (p := (d : Int) = 0) rfl (fun hd0 => ?_) (fun hd0 => ?_)
  · walk_at "open_"
    refine cell_ok (s3 _ _ (cz Z0)) ?_
    refine cmp_if (p := (many : Int) < 3) rfl (fun hm3 => ?_) (fun hm3 => ?_)
    · walk_at "open_"
      refine cell_ok (s3 _ _ (cz Z4)) ?_
      refine cell_ok (s3 _ _ (cz Z2)) ?_
      have subC20 : Sub Gc G20 := fun x g h => kc20 (subC _ _ h) (by rintro rfl; wide_line with C.nst using h) (by rintro rfl; wide_line with C.nlg using h)
      refine ⟨keep_fn F.k_apply_context, CallT.room (CallC.T (deep_ H1 C (6 - d) d _ s (deepRun many (6 - d) d 0).1 (deepRun many (6 - d) d 0).2 _ (by lia) (by lia) (subC20.trans s3) (s3 _ _ (kc20 V6 (ne_kind V6 V7 (by unfold sceneO; simp)) (ne_kind V6 V8 (by unfold sceneO; simp)))) (s3 _ _ y2) (s3 _ _ y3) (by lia) (by lia) fun G21 x1 x2 x3 => ?_)) (by lia)⟩
      rw [if_pos hd0] at x2 x3
      refine cmp_t rfl (by rfl) ?_
      walk_at "open_"
      have cz2 : ∀ {c : Addr} {v : Option Value}, G18 c = some (.cell v) → G21 c = some (.cell v) := fun h => x1 _ _ (ne_kind h V7 (by simp)) (ne_kind h V8 (by simp)) (s3 _ _ (cz h))
      refine cell_ok (cz2 Z3) ?_
      refine ⟨trivial, len_list_ok x3 ?_⟩
      refine mul_int_ok (PySem.IntMulOk.of_left (by decide)) ?_
      refine cmp_t rfl (by simp; lia) ?_
      walk_at "open_"
      exact fin _ _ (fun x g h1 h2 h => x1 _ _ (by rintro rfl; wide_line with fst0 using h) (by rintro rfl; wide_line with flg0 using h) (s3 _ _ (R20 x g h1 h2 h))) (x1 _ _ (ne_kind htab V7 (by simp)) (ne_kind htab V8 (by simp)) (s3 _ _ htab20))
    · walk_at "open_"
      exact fin _ _ (fun x g h1 h2 h => s3 _ _ (R20 x g h1 h2 h)) (s3 _ _ htab20)
  · walk_at "open_"
    exact fin _ _ (fun x g h1 h2 h => s3 _ _ (R20 x g h1 h2 h)) (s3 _ _ htab20)
end
section
open PySem PySem.W PySem.Calls PyProof.Rows
noncomputable def infB (mask : Int) (i : Nat) (b : Bool) : Inf := ⟨0, if b then 1 else 2, i, mask, false, if b then "" else "zwj"⟩
noncomputable def spotsOf (bs : List Bool) : List Nat := (List.range bs.length).filter fun i => bs[i]? == some true
theorem spots_snoc (bs : List Bool) (b : Bool) : spotsOf (bs ++ [b]) = spotsOf bs ++ (if b then [bs.length] else []) := by
  unfold spotsOf
  (wide_line using List.length_append; wide_line using List.length_singleton; wide_line using List.range_succ; wide_open with List.filter_append)
  congr 1
  · apply List.filter_congr
    intro i hi
    wide_open with List.getElem?_append_left (List.mem_range.mp hi)
  · have : ((bs ++ [b])[bs.length]? == some true) = b := by
      (wide_line using List.getElem?_append_right (Nat.le_refl _); wide_open with Nat.sub_self)
      cases b <;> rfl
    (wide_line using List.filter_cons; wide_open with this)
    cases b <;> rfl
theorem spots_mem {bs : List Bool} {i : Nat} : i ∈ spotsOf bs ↔ bs[i]? = some true := by
  unfold spotsOf
  (wide_line using List.mem_filter; wide_open with List.mem_range)
  constructor
  · intro hx9; obtain ⟨_, h⟩ := hx9; simpa using h
  · intro h; exact ⟨(List.getElem?_eq_some_iff.mp h).1, by simp [h]⟩
theorem spots_lt (bs : List Bool) : (spotsOf bs).Pairwise (· < ·) := List.pairwise_lt_range.sublist List.filter_sublist
theorem spots_between {bs : List Bool} {k x y i : Nat} (hx : (spotsOf bs)[k]? = some x) (hy : (spotsOf bs)[k + 1]? = some y) (h1 : x < i) (h2 : i < y) : bs[i]? ≠ some true := by
  intro h
  obtain ⟨j, hj⟩ := List.mem_iff_getElem?.mp (spots_mem.mpr h)
  obtain ⟨a1, rfl⟩ := List.getElem?_eq_some_iff.mp hx
  obtain ⟨a2, rfl⟩ := List.getElem?_eq_some_iff.mp hy
  obtain ⟨a3, rfl⟩ := List.getElem?_eq_some_iff.mp hj
  have p := List.pairwise_iff_getElem.mp (spots_lt bs)
  rcases Nat.lt_trichotomy j k with z | rfl | z
  · have := p j k a3 a1 z; lia
  · lia
  · rcases Nat.lt_trichotomy j (k + 1) with z' | rfl | z'
    · lia
    · lia
    · have := p (k + 1) j a2 a3 z'; lia
structure RowV (V : View) (bs : List Bool) : Prop where
  len : V.as.length = bs.length
  inf : ∀ (i : Nat) a b, V.as[i]? = some a → bs[i]? = some b → V.I a = infB 1 i b
  es : V.es = []
  fl : V.fl = 0
  mask : V.mask = 1
theorem judge_real {V : View} {bs : List Bool} (R : RowV V bs) {f : Int → Bool} (hf : f 1 = true) (kinds : List Str) (inp : Bool) (i : Nat) : judge V f kinds inp (infB 1 i true) = some true := by
  unfold judge ignoredM infB
  (wide_line using R.fl; wide_line using R.es; wide_open with R.mask)
  have e1 : (Builtin.bitAnd ((0 : Nat) : Int) (classBit (clsNum [] 1)) != 0) = false := by decide +kernel
  have e2 : (Builtin.bitAnd 1 1 != 0) = true := by decide +kernel
  simp only [e1, e2, if_true, hf, Bool.true_or, Bool.and_true, Bool.false_eq_true, if_false]
theorem judge_join {V : View} {bs : List Bool} (R : RowV V bs) {f : Int → Bool} (hf : f 2 = false) {kinds : List Str} (hk : kinds.any (· == Str.ofString "zwj") = true) (inp : Bool) (i : Nat) : judge V f kinds inp (infB 1 i false) = none := by
  unfold judge ignoredM infB
  (wide_line using R.fl; wide_line using R.es; wide_open with R.mask)
  have e1 : (Builtin.bitAnd ((0 : Nat) : Int) (classBit (clsNum [] 2)) != 0) = false := by decide +kernel
  simp only [e1, Bool.false_eq_true, if_false, hf, Bool.false_and, hk, if_true]
theorem seek_fwd {V : View} {bs : List Bool} (R : RowV V bs) {f : Int → Bool} (h1 : f 1 = true) (h2 : f 2 = false) {kinds : List Str} (hk : kinds.any (· == Str.ofString "zwj") = true) {inp : Bool} {j : Nat} (hj : bs[j]? = some true) :
    ∀ (fuel here : Nat), here ≤ j → j < fuel + here → (∀ i, here ≤ i → i < j → bs[i]? ≠ some true) → seek V f kinds inp 1 fuel here = j
  | 0, here, a, b, _ => by lia
  | fuel + 1, here, a, b, hb => by
    have hjl := (List.getElem?_eq_some_iff.mp hj).1
    have hl := R.len
    have hlt : here < V.as.length := by lia
    obtain ⟨x, hx⟩ : ∃ x, V.as[here]? = some x := ⟨_, List.getElem?_eq_getElem hlt⟩
    obtain ⟨b', hb'⟩ : ∃ b', bs[here]? = some b' := ⟨_, List.getElem?_eq_getElem (by lia)⟩
    unfold seek
    rw [if_pos ⟨Int.natCast_nonneg _, by lia⟩, Int.toNat_natCast, hx]
    dsimp only
    wide_open with R.inf here x b' hx hb'
    cases b' with
    | true =>
      wide_open with judge_real R h1
      rcases Nat.lt_or_ge here j with z | z
      · exact absurd hb' (hb here (Nat.le_refl _) z)
      · have : here = j := by lia
        rw [this]
    | false =>
      wide_open with judge_join R h2 hk
      have hne : here ≠ j := by rintro rfl; wide_line with hj using hb'
      have := seek_fwd R h1 h2 hk (inp := inp) hj fuel (here + 1) (by lia) (by lia) fun i p q => hb i (by lia) q
      wide_open with (show ((here : Int) + 1) = ((here + 1 : Nat) : Int) by push_cast; rfl)
      exact this
theorem seek_bwd {V : View} {bs : List Bool} (R : RowV V bs) {f : Int → Bool} (h1 : f 1 = true) (h2 : f 2 = false) {kinds : List Str} (hk : kinds.any (· == Str.ofString "zwj") = true) {inp : Bool} {j : Nat} (hj : bs[j]? = some true) :
    ∀ (fuel here : Nat), j ≤ here → here < bs.length → here < fuel + j → (∀ i, j < i → i ≤ here → bs[i]? ≠ some true) → seek V f kinds inp (-1) fuel here = j
  | 0, here, a, _, b, _ => by lia
  | fuel + 1, here, a, c, b, hb => by
    have hl := R.len
    have hlt : here < V.as.length := by lia
    obtain ⟨x, hx⟩ : ∃ x, V.as[here]? = some x := ⟨_, List.getElem?_eq_getElem hlt⟩
    obtain ⟨b', hb'⟩ : ∃ b', bs[here]? = some b' := ⟨_, List.getElem?_eq_getElem c⟩
    unfold seek
    rw [if_pos ⟨Int.natCast_nonneg _, by lia⟩, Int.toNat_natCast, hx]
    dsimp only
    wide_open with R.inf here x b' hx hb'
    cases b' with
    | true =>
      wide_open with judge_real R h1
      rcases Nat.lt_or_ge j here with z | z
      · exact absurd hb' (hb here z (Nat.le_refl _))
      · have : here = j := by lia
        rw [this]
    | false =>
      wide_open with judge_join R h2 hk
      have hne : here ≠ j := by rintro rfl; wide_line with hj using hb'
      have := seek_bwd R h1 h2 hk (inp := inp) hj fuel (here - 1) (by lia) (by lia) (by lia) fun i p q => hb i p (by lia)
      wide_open with (show ((here : Int) + -1) = ((here - 1 : Nat) : Int) by lia)
      exact this
theorem next_spot {V : View} {bs : List Bool} (R : RowV V bs) {f : Int → Bool} (h1 : f 1 = true) (h2 : f 2 = false) {kinds : List Str} (hk : kinds.any (· == Str.ofString "zwj") = true) {inp : Bool} {k x y : Nat} (hx : (spotsOf bs)[k]? = some x) (hy : (spotsOf bs)[k + 1]? = some y) :
    srch V kinds inp 1 f x = y ∧ srch V kinds inp (-1) f y = x := by
  have hbx := spots_mem.mp (List.mem_of_getElem? hx)
  have hby := spots_mem.mp (List.mem_of_getElem? hy)
  have hxy : x < y := by
    obtain ⟨a1, rfl⟩ := List.getElem?_eq_some_iff.mp hx
    obtain ⟨a2, rfl⟩ := List.getElem?_eq_some_iff.mp hy
    exact List.pairwise_iff_getElem.mp (spots_lt bs) k (k + 1) a1 a2 (by lia)
  have hyl := (List.getElem?_eq_some_iff.mp hby).1
  have hl := R.len
  constructor
  · unfold srch
    wide_open with (show ((x : Int) + 1) = ((x + 1 : Nat) : Int) by push_cast; rfl)
    exact seek_fwd R h1 h2 hk hby _ _ (by lia) (by lia) fun i p q => spots_between hx hy (by lia) q
  · unfold srch
    wide_open with (show ((y : Int) + -1) = ((y - 1 : Nat) : Int) by lia)
    exact seek_bwd R h1 h2 hk hbx _ _ (by lia) (by lia) (by lia) fun i p q => spots_between hx hy p (by lia)
theorem places_spots {V : View} {bs : List Bool} (R : RowV V bs) {f : Int → Bool} (h1 : f 1 = true) (h2 : f 2 = false) {kinds : List Str} (hk : kinds.any (· == Str.ofString "zwj") = true) {inp : Bool} : ∀ (m k x : Nat), (spotsOf bs)[k]? = some x → k + m < (spotsOf bs).length →
    placesM (srch V kinds inp 1) (List.replicate m f) x = some ((((spotsOf bs).drop (k + 1)).take m).map fun (j : Nat) => (j : Int))
  | 0, k, x, _, _ => by simp [placesM]
  | m + 1, k, x, hx, hl => by
    obtain ⟨y, hy⟩ : ∃ y, (spotsOf bs)[k + 1]? = some y := ⟨_, List.getElem?_eq_getElem (by lia)⟩
    have e := (next_spot R h1 h2 hk (inp := inp) hx hy).1
    (wide_line using List.replicate_succ; wide_line using placesM; wide_line using e; wide_line using if_neg (by lia); wide_open with places_spots R h1 h2 hk m (k + 1) y hy (by lia))
    have hd : (spotsOf bs).drop (k + 1) = y :: (spotsOf bs).drop (k + 1 + 1) := by
      obtain ⟨q1, q2⟩ := List.getElem?_eq_some_iff.mp hy
      (wide_line using List.drop_eq_getElem_cons q1; wide_open with q2)
    wide_open with hd
    rfl
theorem walk_fwd {V : View} {bs : List Bool} (R : RowV V bs) {f : Int → Bool} (h1 : f 1 = true) (h2 : f 2 = false) {kinds : List Str} (hk : kinds.any (· == Str.ofString "zwj") = true) {inp : Bool} : ∀ (m k x y : Nat), (spotsOf bs)[k]? = some x → (spotsOf bs)[k + m]? = some y →
    walkM (srch V kinds inp 1) (List.replicate m f) x = some (y : Int)
  | 0, k, x, y, hx, hy => by rw [Nat.add_zero, hx] at hy; wide_open using hy; rfl
  | m + 1, k, x, y, hx, hy => by
    have hl := (List.getElem?_eq_some_iff.mp hy).1
    obtain ⟨z, hz⟩ : ∃ z, (spotsOf bs)[k + 1]? = some z := ⟨_, List.getElem?_eq_getElem (by lia)⟩
    have e := (next_spot R h1 h2 hk (inp := inp) hx hz).1
    (wide_line using List.replicate_succ; wide_line using walkM; wide_line using e; wide_open with if_neg (by lia))
    exact walk_fwd R h1 h2 hk m (k + 1) z y hz (by ((first | refine hy ▸ ?_ | rewrite [← hy]); try with_reducible rfl); congr 1; lia)
theorem walk_bwd {V : View} {bs : List Bool} (R : RowV V bs) {f : Int → Bool} (h1 : f 1 = true) (h2 : f 2 = false) {kinds : List Str} (hk : kinds.any (· == Str.ofString "zwj") = true) {inp : Bool} : ∀ (m k x y : Nat), (spotsOf bs)[k]? = some x → (spotsOf bs)[k + m]? = some y →
    walkM (srch V kinds inp (-1)) (List.replicate m f) y = some (x : Int)
  | 0, k, x, y, hx, hy => by rw [Nat.add_zero, hx] at hy; wide_open using hy; rfl
  | m + 1, k, x, y, hx, hy => by
    have hl := (List.getElem?_eq_some_iff.mp hy).1
    obtain ⟨z, hz⟩ : ∃ z, (spotsOf bs)[k + m]? = some z := ⟨_, List.getElem?_eq_getElem (by lia)⟩
    have e := (next_spot R h1 h2 hk (inp := inp) (k := k + m) hz (by rw [← hy]; rfl)).2
    (wide_line using List.replicate_succ; wide_line using walkM; wide_line using e; wide_open with if_neg (by lia))
    exact walk_bwd R h1 h2 hk m k x z hx hz
theorem match_spots {V : View} {bs : List Bool} (R : RowV V bs) {f : Int → Bool} (h1 : f 1 = true) (h2 : f 2 = false) {bk i0 ah x0 x1 x2 : Nat} {a : Addr} (hx0 : (spotsOf bs)[0]? = some x0) (hx1 : (spotsOf bs)[bk]? = some x1) (hx2 : (spotsOf bs)[bk + i0 + ah]? = some x2) (ha : V.as[x1]? = some a) :
    matchM V x1 a (List.replicate bk f) f (List.replicate i0 f) (List.replicate ah f) = some ((((spotsOf bs).drop bk).take (i0 + 1)).map (fun (j : Nat) => (j : Int)), (x0 : Int), (x2 : Int)) := by
  have hl := (List.getElem?_eq_some_iff.mp hx2).1
  have hb := spots_mem.mp (List.mem_of_getElem? hx1)
  have hfa : f (V.I a).glyph = true := by wide_open with R.inf x1 a true ha hb; exact h1
  have kin : kIn.any (· == Str.ofString "zwj") = true := by decide +kernel
  have kar : kAr.any (· == Str.ofString "zwj") = true := by decide +kernel
  have hd : (spotsOf bs).drop bk = x1 :: (spotsOf bs).drop (bk + 1) := by
    obtain ⟨q1, q2⟩ := List.getElem?_eq_some_iff.mp hx1
    (wide_line using List.drop_eq_getElem_cons q1; wide_open with q2)
  unfold matchM
  (wide_line using if_pos hfa; wide_line using places_spots R h1 h2 kin i0 bk x1 hx1 (by lia); wide_line using Option.bind_some; wide_line using walk_bwd R h1 h2 kar bk 0 x0 x1 hx0 (by wide_open with Nat.zero_add; exact hx1); wide_open with Option.bind_some)
  obtain ⟨xl, hxl⟩ : ∃ xl, (spotsOf bs)[bk + i0]? = some xl := ⟨_, List.getElem?_eq_getElem (by lia)⟩
  have elist : (x1 : Int) :: (((spotsOf bs).drop (bk + 1)).take i0).map (fun (j : Nat) => (j : Int)) = (((spotsOf bs).drop bk).take (i0 + 1)).map (fun (j : Nat) => (j : Int)) := by wide_open with hd; rfl
  have elast : ∀ h, ((x1 : Int) :: (((spotsOf bs).drop (bk + 1)).take i0).map (fun (j : Nat) => (j : Int))).getLast h = (xl : Int) := by
    intro h
    wide_open with List.getLast_eq_getElem
    have : (((x1 : Int) :: (((spotsOf bs).drop (bk + 1)).take i0).map (fun (j : Nat) => (j : Int))))[i0]? = some (xl : Int) := by
      (wide_line using elist; wide_line using List.getElem?_map; wide_line using List.getElem?_take_of_lt (by lia); wide_line using List.getElem?_drop; wide_open with hxl); rfl
    obtain ⟨q1, q2⟩ := List.getElem?_eq_some_iff.mp this
    ((first | refine q2 ▸ ?_ | rewrite [← q2]); try with_reducible rfl)
    congr 1
    simp only [List.length_cons, List.length_map, List.length_take, List.length_drop]
    lia
  (wide_line using elast; wide_line using walk_fwd R h1 h2 kar ah (bk + i0) xl x2 hxl hx2; wide_open with elist)
  rfl
end
section
open PySem PySem.W PySem.Calls PyProof.Rows PySem.SeqAt
variable {W : Wd} {n : Nat} {G : GH} {K : KV} {cs : List Addr} {P1 P2 : Addr}
/-! the data that the law compares -/
noncomputable def intsD (ns : List Int) : PyData := .list (ns.map .int)
noncomputable def boolsD (ns : List Bool) : PyData := .list (ns.map .bool)
noncomputable def logD (lg : List (Int × Int × Int)) : PyData := .list (lg.map fun q => .tuple [.int q.1, .int q.2.1, .int q.2.2])
theorem lay_all {f : α → PyData} {m : Nat} (h : ∀ x, (f x).canLay0 = true ∧ (f x).depth ≤ m) : ∀ xs : List α, PyData.canLayAll0 (xs.map f) = true ∧ PyData.depthAll (xs.map f) ≤ m
  | [] => by simp [PyData.canLayAll0, PyData.depthAll]
  | x :: xs => by
    obtain ⟨a, b⟩ := lay_all h xs
    obtain ⟨c, d⟩ := h x
    simp only [List.map_cons, PyData.canLayAll0, PyData.depthAll, a, c, Bool.and_self, true_and]
    lia
theorem shaped_all {f : α → PyData} {m : Nat} (hm : m < 64) (h : ∀ x, (f x).canLay0 = true ∧ (f x).depth ≤ m) (xs : List α) : shaped (.list (xs.map f)) = true := by
  obtain ⟨a, b⟩ := lay_all h xs
  unfold shaped
  simp only [PyData.canLay0, PyData.depth, a, Bool.true_and]
  exact decide_eq_true (by lia)
theorem noMix_all {f : α → PyData} (h : ∀ x y, noMix (f x) (f y) = true) : ∀ xs ys : List α, noMixAll (xs.map f) (ys.map f) = true
  | [], [] => by simp [noMixAll]
  | [], _ :: _ => by simp [noMixAll]
  | _ :: _, [] => by simp [noMixAll]
  | x :: xs, y :: ys => by simp [noMixAll, h x y, noMix_all h xs ys]
theorem shaped_ints (ns : List Int) : shaped (intsD ns) = true := shaped_all (m := 0) (by decide) (fun x => by simp [PyData.canLay0, PyData.depth]) ns
theorem shaped_bools (ns : List Bool) : shaped (boolsD ns) = true := shaped_all (m := 0) (by decide) (fun x => by simp [PyData.canLay0, PyData.depth]) ns
theorem shaped_log (lg : List (Int × Int × Int)) : shaped (logD lg) = true := shaped_all (m := 1) (by decide) (fun x => by simp [PyData.canLay0, PyData.canLayAll0, PyData.depth, PyData.depthAll]) lg
theorem noMix_ints (a b : List Int) : noMix (intsD a) (intsD b) = true := by unfold intsD; wide_open with noMix; exact noMix_all (fun x y => by simp [noMix]) a b
theorem noMix_bools (a b : List Bool) : noMix (boolsD a) (boolsD b) = true := by unfold boolsD; wide_open with noMix; exact noMix_all (fun x y => by simp [noMix]) a b
theorem noMix_log (a b : List (Int × Int × Int)) : noMix (logD a) (logD b) = true := by unfold logD; wide_open with noMix; exact noMix_all (fun x y => by simp [noMix, noMixAll]) a b
theorem rds_map {f : α → Value} {g : α → PyData} (h : ∀ x, GRd G (f x) (g x)) : ∀ xs : List α, GRds G (xs.map f) (xs.map g)
  | [] => .nil
  | x :: xs => .cons (h x) (rds_map h xs)
theorem rd_ints {a : Addr} {ns : List Int} (h : G a = some (.list (ns.map vInt))) : GRd G (.ref a) (intsD ns) := .list h (rds_map (fun x => .int x) ns)
theorem rd_bools {a : Addr} {ns : List Bool} (h : G a = some (.list (ns.map fun (b : Bool) => Value.bool b))) : GRd G (.ref a) (boolsD ns) := .list h (rds_map (fun x => .bool x) ns)
theorem rd_log {a : Addr} {lg : List (Int × Int × Int)} (h : LogAt G a lg) : GRd G (.ref a) (logD lg) := by
  refine o_EA h fun ts h1 h2 => ?_; try clear h
  refine .list h1 ?_
  clear h1
  induction h2 with
  | nil => exact .nil
  | cons x _ ih => exact .cons (.tup x (.cons (.int _) (.cons (.int _) (.cons (.int _) .nil)))) ih
theorem comp_all2 {α : Type} {R : Addr → α → Prop} {f : α → Value} {as : List Addr} {bs : List α} {C : GH → Prop} {el : Value → GH → (Option Value → GH → Prop) → Prop} (hc : C G) (he : ∀ a b, R a b → ∀ k : Option Value → GH → Prop, k (some (f b)) G → el (.ref a) G k) (h : All2 R as bs) :
    ∀ acc : List Value, newG (.list (acc ++ bs.map f)) G K → compG C el (refs as) acc G K := by
  induction h with
  | nil => intro acc k; exact ⟨hc, by simpa using k⟩
  | cons x _ ih => intro acc k; exact ⟨hc, he _ _ x _ (ih _ (by simpa using k))⟩
theorem edit_len2 (gl : List Int) (i num : Nat) : (editM gl i num).length ≤ gl.length + 64 + num := by
  unfold editM freshN
  split
  · simp; lia
  · split
    · simp; split <;> lia
    · split
      · simp; exact Nat.le_trans (lqN (by lia)) (by lia)
      · split
        · simp; exact Nat.le_trans (lqN (by lia)) (by lia)
        · lia
set_option tactic.hygienic true in
theorem run_len (dp : Int) : ∀ (avs : List (Nat × Nat)) (s : St), (∀ q ∈ avs, q.2 ≤ 8) → (runM dp s avs).gl.length ≤ s.gl.length + 72 * avs.length
  | [], s, _ => by simp [runM]
  | a :: avs, s, h => by
    have h1 : (actM dp s a).1.gl.length ≤ s.gl.length + 72 := by
      have h8 := h a (by simp)
      unfold actM
      split
      · simp
      · rename_i x hx
        split
        · simp
        · split
          · simp
          · have := edit_len2 s.gl x.toNat a.2
            dsimp only
            split <;> (dsimp only; lia)
    unfold runM
    split
    · have := run_len dp avs (actM dp s a).1 fun q hq => h q (by simp [hq])
      simp only [List.length_cons]; lia
    · simp only [List.length_cons]; lia
theorem comp_row {as : List Addr} {gl : List Int} {C : GH → Prop} {el : Value → GH → (Option Value → GH → Prop) → Prop} (hc : C G) (he : ∀ a g, GlyphAt G a g → ∀ k : Option Value → GH → Prop, k (some (vInt g)) G → el (.ref a) G k) (h : All2 (GlyphAt G) as gl) :
    ∀ acc : List Value, newG (.list (acc ++ gl.map vInt)) G K → compG C el (refs as) acc G K := by
  induction h with
  | nil => intro acc k; exact ⟨hc, by simpa using k⟩
  | cons x _ ih => intro acc k; exact ⟨hc, he _ _ x _ (ih _ (by simpa using k))⟩
theorem glyphs_ (F : Facts W) {b r : Addr} {gl : List Int} (hb : G b = some (bufO r)) (hr : RowG G r gl) (hz : gl.length ≤ 5000) (k : newG (.list (gl.map vInt)) G K) : CallC W (n + 1) (.ref a_Buffer_glyphs) [.ref b] G K := by
  refine o_EA hr fun as h1 h2 => ?_; try clear hr
  refine fnC F F.f_Buffer_glyphs rfl rfl fun cd => ?_
  dsimp only [sp_Buffer_glyphs, b_Buffer_glyphs]
  walk_at "open_"
  refine attr_ hb F.c_Buffer rfl rfl rfl ?_
  have hl := h2.length
  refine iter_list h1 ⟨by simp [small, refs]; lia, ?_⟩
  refine comp_row h1 (fun a g hg kk => ?_) h2 [] ?_
  · intro kq
    refine o_EA hg fun d e e93 => ?_; try clear hg; subst e93
    refine attr_ e F.c_Info rfl rfl rfl ?_
    exact kq
  intro q hq
  exact ret_same (k q hq)
noncomputable def rowI (as : List Addr) (bs : List Bool) (a : Addr) : Inf := infB 1 (as.idxOf a) (bs[as.idxOf a]?.getD true)
theorem rowI_at {as : List Addr} {bs : List Bool} (hn : as.Nodup) {i : Nat} {a : Addr} {b : Bool} (ha : as[i]? = some a) (hb : bs[i]? = some b) : rowI as bs a = infB 1 i b := by
  obtain ⟨h1, rfl⟩ := List.getElem?_eq_some_iff.mp ha
  unfold rowI
  (wide_line using hn.idxOf_getElem i h1; wide_open with hb); rfl
theorem rowV {as : List Addr} {bs : List Bool} (hn : as.Nodup) (hl : as.length = bs.length) : RowV ⟨as, rowI as bs, [], 0, 1⟩ bs := ⟨hl, fun i a b ha hb => rowI_at hn ha hb, rfl, rfl, rfl⟩
noncomputable def glyB (bs : List Bool) : List Int := bs.map fun b => if b then 1 else 2
theorem all2_idx {α β : Type} {R : α → β → Prop} : ∀ {as : List α} {bs : List β}, as.length = bs.length → (∀ (i : Nat) a b, as[i]? = some a → bs[i]? = some b → R a b) → All2 R as bs
  | [], [], _, _ => .nil
  | a :: as, b :: bs, h, k => .cons (k 0 a b rfl rfl) (all2_idx (by simpa using h) fun i x y hx hy => k (i + 1) x y (by simpa using hx) (by simpa using hy))
theorem spots_zero {bs : List Bool} (h0 : bs[0]? = some true) : (spotsOf bs)[0]? = some 0 := by
  obtain ⟨j, hj⟩ := List.mem_iff_getElem?.mp (spots_mem.mpr h0)
  rcases Nat.eq_zero_or_pos j with rfl | hp
  · exact hj
  · obtain ⟨h1, h2⟩ := List.getElem?_eq_some_iff.mp hj
    have := List.pairwise_iff_getElem.mp (spots_lt bs) 0 j (by lia) h1 hp
    lia
theorem hang_row {as : List Addr} {bs : List Bool} {G0 G1 : GH} {x2 : Nat} (hn : as.Nodup) (hl : as.length = bs.length) (hx : x2 < as.length) (hi : ∀ (i : Nat) a b, as[i]? = some a → bs[i]? = some b → G0 a = some (infoO (infB 1 i b)))
    (h : HangR (cutA as 0 (x2 + 1)) (rowI as bs) G0 G1) : ∀ (i : Nat) a b, as[i]? = some a → bs[i]? = some b → G1 a = some (infoO { infB 1 i b with uns := decide (0 < i ∧ i ≤ x2) }) := by
  intro i a b ha hb
  have hia := rowI_at hn ha hb
  have hil := (List.getElem?_eq_some_iff.mp ha).1
  have ecut : cutA as 0 (x2 + 1) = as.take (x2 + 1) := rfl
  have hmem : a ∈ cutA as 0 (x2 + 1) ↔ i ≤ x2 := by
    wide_open with ecut
    constructor
    · intro hm
      obtain ⟨j, hj⟩ := List.mem_iff_getElem?.mp hm
      have hjl := (List.getElem?_eq_some_iff.mp hj).1
      rw [List.length_take] at hjl
      rw [List.getElem?_take_of_lt (by lia)] at hj
      obtain ⟨q1, q2⟩ := List.getElem?_eq_some_iff.mp hj
      obtain ⟨q3, q4⟩ := List.getElem?_eq_some_iff.mp ha
      have : j = i := (List.getElem_inj hn).mp (q2.trans q4.symm)
      lia
    · intro hle
      refine List.mem_iff_getElem?.mpr ⟨i, ?_⟩
      wide_open with List.getElem?_take_of_lt (by lia); exact ha
  have hlen : (cutA as 0 (x2 + 1)).length = x2 + 1 := by (wide_line using ecut; wide_open with List.length_take); lia
  have euns : (infB 1 i b).uns = false := rfl
  by_cases hin : a ∈ cutA as 0 (x2 + 1)
  · have hix := hmem.mp hin
    rcases h.2 with ⟨h1, h2⟩ | ⟨h1, M, h2, h3, h4⟩
    · have hx0 : x2 = 0 := by lia
      (wide_line using h2 a hin; wide_open with hia)
      have : decide (0 < i ∧ i ≤ x2) = false := decide_eq_false (by lia)
      wide_open with this; rfl
    · have hM : M = 0 := by
        obtain ⟨a0, ha0⟩ : ∃ a0, as[0]? = some a0 := ⟨_, List.getElem?_eq_getElem (by lia)⟩
        obtain ⟨b0, hb0⟩ : ∃ b0, bs[0]? = some b0 := ⟨_, List.getElem?_eq_getElem (by lia)⟩
        have m0 : a0 ∈ cutA as 0 (x2 + 1) := by
          wide_open with ecut
          refine List.mem_iff_getElem?.mpr ⟨0, ?_⟩
          wide_open with List.getElem?_take_of_lt (by lia); exact ha0
        have e0 := h3 a0 m0
        rw [rowI_at hn ha0 hb0] at e0
        have e0 : M ≤ ((0 : Nat) : Int) := e0
        refine o_EA h2 fun a' z9 e' => ?_; try clear h2
        have : (rowI as bs a').cluster = ((as.idxOf a' : Nat) : Int) := rfl
        lia
      wide_open with h4 a hin
      unfold hangI
      wide_open with hia
      have ec : (infB 1 i b).cluster = ((i : Nat) : Int) := rfl
      by_cases hi0 : i = 0
      · wide_open with if_neg (by (wide_line using ec; wide_line using hM; wide_open with hi0); simp)
        have : decide (0 < i ∧ i ≤ x2) = false := decide_eq_false (by lia)
        wide_open with this; rfl
      · rw [if_pos ⟨hin, by rw [ec, hM]; lia⟩]
        have : decide (0 < i ∧ i ≤ x2) = true := decide_eq_true (by lia)
        rw [this]
  · wide_open with h.1 a _ hin (hi i a b ha hb)
    have : decide (0 < i ∧ i ≤ x2) = false := decide_eq_false (by rw [hmem] at hin; lia)
    wide_open with this; rfl
end
section
open PySem PySem.W PySem.Calls PyProof.Rows PySem.SeqAt
variable {W : Wd} {n : Nat} {G : GH} {K : KV} {cs : List Addr} {P1 P2 : Addr}
theorem pick_neg {xs : List Value} {v : Value} {m : Nat} (hl : xs.length = m + 1) (h : xs[m]? = some v) : pickI xs (-1) = some v := by
  unfold pickI
  have e : (-1 + ((xs.length : Nat) : Int)).toNat = m := by lia
  (wide_line using if_neg (by decide); wide_line using if_pos (by lia); wide_open with e)
  exact h
theorem le_last : ∀ {l : List Int} (h : l ≠ []), l.Pairwise (· < ·) → ∀ p ∈ l, p ≤ l.getLast h
  | [a], _, _, p, hp => by wide_open with List.mem_singleton.mp hp; exact Int.le_refl _
  | a :: b :: l, _, hw, p, hp => by
    rw [List.getLast_cons (by simp)]
    have hw' := List.pairwise_cons.mp hw
    rcases List.mem_cons.mp hp with rfl | hp
    · have := le_last (l := b :: l) (by simp) hw'.2 b (by simp)
      have := hw'.1 b (by simp)
      lia
    · exact le_last (by simp) hw'.2 p hp
theorem places_good {bs : List Bool} {bk m : Nat} (h : ((((spotsOf bs).drop bk).take m).map fun (j : Nat) => (j : Int)) ≠ []) : Good ((((spotsOf bs).drop bk).take m).map fun (j : Nat) => (j : Int)) (((((spotsOf bs).drop bk).take m).map fun (j : Nat) => (j : Int)).getLast h + 1) := by
  have hp : ((((spotsOf bs).drop bk).take m).map fun (j : Nat) => (j : Int)).Pairwise (· < ·) := by
    refine List.pairwise_map.mpr (List.Pairwise.imp (R := (· < ·)) (fun {a b} h => by lia) ?_)
    exact (spots_lt bs).sublist ((List.take_sublist _ _).trans (List.drop_sublist _ _))
  refine ⟨hp, fun p hq => ⟨?_, ?_⟩⟩
  · refine o_EA (List.mem_map.mp hq) fun j z9 e93 => ?_; subst e93; lia
  · have := le_last h hp p hq; lia
theorem law_end (H1 : Facts1 W P1 P2) (hPP : P1 ≠ P2) {c0 c1 c2 c3 pl sb lg b s tb ia bf ac gd ls lk st sets rl ru t1 t2 t3 sc w cv : Addr} {x x10 : Option Value} {ys : List Int} {as lks : List Addr} {bs : List Bool} {avs : List (Nat × Nat)} {bk in0 ah mo dp0 ep : Nat} {f : Int → Bool} {lkv : Value}
    (zpool : G pl = some (.list (ys.map vInt))) (zpos : ∀ y ∈ ys, 0 ≤ y) (zt1 : G P1 = some (.raw (tabObj #[]))) (zt2 : G P2 = some (.raw (tabObj #[])))
    (z0 : G c0 = some (.cell (some (.ref pl)))) (z1 : G c1 = some (.cell (some (.ref sb)))) (z2 : G c2 = some (.cell (some (.ref lg)))) (z3 : G c3 = some (.cell (some (.ref b))))
    (hb : G b = some (bufO ia)) (hia : G ia = some (.list (refs as))) (hnd : as.Nodup) (hlen : as.length = bs.length) (hinf : ∀ (i : Nat) a b, as[i]? = some a → bs[i]? = some b → G a = some (infoO (infB 1 i b)))
    (hbf : G bf = some (.list (refs as))) (hsb : G sb = some (.list (((spotsOf bs).take (bk + (1 + in0) + ah)).map fun (j : Nat) => Value.int (j : Int) 0)))
    (hspl : (spotsOf bs).length = bk + (1 + in0) + ah + mo) (hbs : bs.length ≤ 30) (h0 : bs[0]? = some true) (hbk : bk < 3) (hin0 : in0 < 4) (hah : ah < 3)
    (hac : ActsAt G ac avs) (hav : ∀ q ∈ avs, q.2 ≤ 8) (havl : avs.length ≤ 5)
    (htb : G tb = some (ctxO 3 true sets .none .none)) (hsets : G sets = some (.dict [(0, .ref rl)] ep)) (hrl : G rl = some (.list [.ref ru])) (hru : G ru = some (ruleO t1 t2 t3 (.ref ac)))
    (ht1 : CovRow G t1 (List.replicate bk f)) (ht2 : CovRow G t2 (List.replicate (1 + in0) f)) (ht3 : CovRow G t3 (List.replicate ah f)) (f1 : f 1 = true) (f2 : f 2 = false)
    (hs : G s = some (sceneO b gd ls lk 1 (4 + dp0) st)) (hdp0 : dp0 < 3) (hgd : GdefAt G gd []) (hls : G ls = some (.list (refs lks))) (hl8 : lks.length = 8) (hlk : ∀ (nm : Nat) lk, lks[nm]? = some lk → ∃ tb, G lk = some (lookO "single" 0 nm tb))
    (hlkc : G lk = some (lookO "chain" 0 0 lkv)) (hst : G st = some (.list [.int 0 0])) (hlg : G lg = some (.list []))
    (n1 : ls ≠ lg) (n2 : st ≠ lg) (n3 : ia ≠ lg) (n4 : ls ≠ st) (n5 : ia ≠ st) (n6 : bf ≠ lg) (n7 : bf ≠ st) (n8 : sb ≠ lg) (n9 : sb ≠ st) (n10 : pl ≠ lg) (n11 : pl ≠ st) (n12 : sb ≠ pl) (n13 : bf ≠ pl)
    (k : ∀ G', Tab G' P1 → Tab G' P2 → K (.bool true) G') :
    wpSs W (n + 99) (.ref 589) sp_law.cels [c0, c1, c2, c3] (b_law.drop 22) [some (.ref sc), x, some (.ref w), some (.int bk 0), some (.int (1 + in0) 0), some (.int ah 0), some (.int mo 0), some (.int (4 + dp0) 0), some (.ref cv), some (.ref ia), x10, some (.ref ac), some (.ref ru), some (.ref tb), some (.ref ls), some (.ref gd), some (.ref s), some (.ref bf), none, none, none, none, none, none, none] G (bodyK K) := by
  have F := H1.F
  dsimp only [b_law, ndropS, ndrop0]
  walk_at "open_"
  refine H1.mk_law (n + 99) c0 c1 c2 c3 G _ zt2 fun ff c' Ga hfc hf0 hc0 hoth htab0 hclo => ?_
  obtain ⟨tps, zt2'⟩ := htab0
  have mv : ∀ {x : Addr} {g : GO}, G x = some g → x ≠ P2 → Ga x = some g := fun {x g} h hk => by
    wide_open with hoth x (by rintro rfl; wide_line with hf0 using h) (by rintro rfl; wide_line with hc0 using h) hk; exact h
  have mw : ∀ {x : Addr} {g : GO}, G x = some g → (∀ o, g ≠ .raw o) → Ga x = some g := fun {x g} h hk => mv h (ne_kind h zt2 (hk _))
  have mkf : KF G Ga := fun x g hg h => mw h (by rintro o rfl; wide_open using hg)
  replace zpool := mw zpool (by simp)
  replace zt1 := mv zt1 hPP
  replace z0 := mw z0 (by simp)
  replace z1 := mw z1 (by simp)
  replace z2 := mw z2 (by simp)
  replace z3 := mw z3 (by simp)
  replace hb := mkf _ _ rfl hb
  replace hia := mw hia (by simp)
  replace hinf := fun (i : Nat) a b h1 h2 => mkf _ _ rfl (hinf i a b h1 h2)
  replace hbf := mw hbf (by simp)
  replace hsb := mw hsb (by simp)
  replace hac := hac.kf mkf
  replace htb := mkf _ _ rfl htb
  replace hsets := mkf _ _ rfl hsets
  replace hrl := mw hrl (by simp)
  replace hru := mkf _ _ rfl hru
  replace ht1 := ht1.kf mkf
  replace ht2 := ht2.kf mkf
  replace ht3 := ht3.kf mkf
  replace hs := mkf _ _ rfl hs
  replace hgd := hgd.kf mkf
  replace hls := mw hls (by simp)
  replace hlk := fun (nm : Nat) lk h => let ⟨tb, q⟩ := hlk nm lk h; (⟨tb, mkf _ _ rfl q⟩ : ∃ tb, Ga lk = some (lookO "single" 0 nm tb))
  replace hlkc := mkf _ _ rfl hlkc
  replace hst := mw hst (by simp)
  replace hlg := mw hlg (by simp)
  clear mv mw mkf hf0 hc0 hoth hfc zt2
  -- the match
  obtain ⟨x1, hx1⟩ : ∃ x1, (spotsOf bs)[bk]? = some x1 := ⟨_, List.getElem?_eq_getElem (by lia)⟩
  obtain ⟨x2, hx2⟩ : ∃ x2, (spotsOf bs)[bk + in0 + ah]? = some x2 := ⟨_, List.getElem?_eq_getElem (by lia)⟩
  have hx0 := spots_zero h0
  have bx1 := spots_mem.mp (List.mem_of_getElem? hx1)
  have bx2 := spots_mem.mp (List.mem_of_getElem? hx2)
  have x2l : x2 < as.length := by have := (List.getElem?_eq_some_iff.mp bx2).1; lia
  obtain ⟨a1, ha1⟩ : ∃ a1, as[x1]? = some a1 := ⟨_, List.getElem?_eq_getElem (by have := (List.getElem?_eq_some_iff.mp bx1).1; lia)⟩
  have hm := match_spots (rowV hnd hlen) f1 f2 hx0 hx1 hx2 ha1
  have hps0 : ((((spotsOf bs).drop bk).take (in0 + 1)).map fun (j : Nat) => (j : Int)) ≠ [] := fun e => by
    have := congrArg List.length e
    simp at this; lia
  have hgood := places_good hps0
  have hpl : ((((spotsOf bs).drop bk).take (in0 + 1)).map fun (j : Nat) => (j : Int)).length = in0 + 1 := by simp; lia
  have hcut : cut (((spotsOf bs).take (bk + (1 + in0) + ah)).map fun (j : Nat) => Value.int (j : Int) 0) (some bk) (some (bk + (1 + in0))) = ((((spotsOf bs).drop bk).take (in0 + 1)).map fun (j : Nat) => (j : Int)).map vInt := by
    simp only [cut, Option.getD_some, ← List.map_take, ← List.map_drop, List.map_map, List.take_take, List.drop_take]
    wide_open with (show min (bk + (1 + in0)) (bk + (1 + in0) + ah) - bk = in0 + 1 by lia)
    rfl
  generalize ((((spotsOf bs).drop bk).take (in0 + 1)).map fun (j : Nat) => (j : Int)) = ps at *
  refine cell_ok (z1) ?_
  walk_at "open_"
  refine sub_list hsb (pick_nat (i := bk) (v := .int x1 0) (by (wide_line using List.getElem?_map; wide_line using List.getElem?_take_of_lt (by lia); wide_open with hx1); rfl)) ?_
  have hrep : List.replicate (1 + in0) f = f :: List.replicate in0 f := by (wide_line using Nat.add_comm; wide_open with List.replicate_succ)
  rw [hrep] at ht2
  have hrow : ∀ a ∈ as, Ga a = some (infoO (rowI as bs a)) := fun a ha => by
    obtain ⟨i, hi⟩ := List.mem_iff_getElem?.mp ha
    obtain ⟨b', hb'⟩ : ∃ b', bs[i]? = some b' := ⟨_, List.getElem?_eq_getElem (by have := (List.getElem?_eq_some_iff.mp hi).1; lia)⟩
    wide_open with rowI_at hnd hi hb'; exact hinf i a b' hi hb'
  refine ⟨keep_fn F.k_apply_context, CallT.room (CallC.T (apply_context3_ (n := n + 20) F (S := ⟨s, b, gd, ls, lk, st, 1, 4 + dp0⟩) (V := ⟨as, rowI as bs, [], 0, 1⟩) (k₀ := 0) (G0 := Ga) hs hst (by wide_open with if_neg; refine (?_ : ¬ ((4 : Int) + dp0 = 0)); lia)
    ⟨b, gd, ls, lk, 4 + dp0, st, "chain", 0, hs, ⟨(i_EA ia hb hia), hrow⟩, hgd, ⟨lkv, hlkc⟩, (by refine (?_ : 0 < 16); decide)⟩
    hs htb hsets hrl hru ht1 ht2 ht3 ha1 (by refine (?_ : as.length ≤ 1000); lia) hm fun G1 p r hne HR hp0 hr0 hpr hpp hrr => ?_)) (by lia)⟩
  have HR : HangR (cutA as 0 (x2 + 1)) (rowI as bs) Ga G1 := HR
  have hin1 := hang_row hnd hlen x2l hinf HR
  have nk : ∀ {a : Addr} {g : GO}, Ga a = some g → (∀ d, g ≠ infoO d) → G1 a = some g := fun {a g} h hk => HR.1 a g (fun hm => by
    have := hrow a (List.mem_of_mem_take hm)
    wide_line with h using this; exact hk _ rfl) h
  have rowG : ∀ {G' : GH}, (∀ (i : Nat) a b, as[i]? = some a → bs[i]? = some b → G' a = some (infoO { infB 1 i b with uns := decide (0 < i ∧ i ≤ x2) })) → All2 (GlyphAt G') as (glyB bs) := fun h =>
    all2_idx (by unfold glyB; simp [hlen]) fun i a g ha hg => by
      unfold glyB at hg
      rw [List.getElem?_map] at hg
      refine o_EA (Option.map_eq_some_iff.mp hg) fun b' hb' e93 => ?_; subst e93
      exact (i_EA _ (h i a b' ha hb') rfl)
  have glen : (glyB bs).length = bs.length := by unfold glyB; simp
  refine CallT.room (CallC.T (acts1_ (n := n + 20) H1 (S := ⟨s, b, gd, ls, lk, st, 1, 4 + dp0⟩) (lg := lg) (cl := c2) (cr := c3) (r := ia) (r3 := r) (t0 := ⟨glyB bs, ps, ps.getLast hps0 + 1, []⟩) (avs := avs) (lks := lks)
    (nk (g := sceneO b gd ls lk 1 (4 + (dp0 : Int)) st) hs (fun d h => by unfold sceneO infoO at h; wide_open using h)) rfl (nk hls (by unfold infoO; simp)) hl8 (fun nm lk h => let ⟨tb, q⟩ := hlk nm lk h; ⟨tb, nk q (by unfold lookO infoO; intro d h; wide_open using h)⟩) (nk hb (by unfold bufO infoO; intro d h; wide_open using h)) (i_EA as (nk hia (by unfold infoO; simp)) (rowG hin1))
    (nk hst (by unfold infoO; simp)) hpp hrr hgood (i_EA ([]) (nk hlg (by unfold infoO; simp)) .nil) rfl ?_ (hclo.kept fun a o h => nk h (by unfold infoO; simp)) (nk z2 (by unfold infoO; simp)) (nk z3 (by unfold infoO; simp)) n1 n2 n3 (by rintro rfl; wide_line with hlg using hr0)
    (by rintro rfl; wide_line with hst using hr0) n4 n5 (i_AA havl (by refine (?_ : (glyB bs).length ≤ 100); lia) (by refine (?_ : ps.length ≤ 100); lia)) hav fun G2 fin => ?_)) (by lia)
  · refine o_EA hac fun ats q1 q2 => ?_; try clear hac
    exact (i_EA ats (nk q1 (by unfold infoO; simp)) (q2.imp fun t (q : Nat × Nat) (h : Ga t = some (.tup [.int q.1 0, .int q.2 0])) => nk h (by unfold infoO; simp)))
  have pn : ∀ {a : Addr} {g : GO}, Ga a = some g → a ≠ p := fun {a g} h => by rintro rfl; wide_line with hp0 using h
  have k2 : ∀ {a : Addr} {g : GO}, Ga a = some g → (∀ d, g ≠ infoO d) → a ≠ lg → a ≠ b → a ≠ st → G2 a = some g := fun h q1 q2 q3 q4 => fin.keep _ _ q2 q3 q4 (pn h) (nk h q1)
  have hin2 : ∀ (i : Nat) a b, as[i]? = some a → bs[i]? = some b → G2 a = some (infoO { infB 1 i b with uns := decide (0 < i ∧ i ≤ x2) }) := fun i a b' h1 h2 => by
    have h := hinf i a b' h1 h2
    exact fin.keep _ _ (ne_kind h hlg (by unfold infoO; simp)) (ne_kind h hb (by unfold infoO bufO; intro h; wide_open using h)) (ne_kind h hst (by unfold infoO; simp)) (pn h) (hin1 i a b' h1 h2)
  have row2 : RowG G2 bf (glyB bs) := (i_EA as (k2 hbf (by unfold infoO; simp) n6 (ne_kind hbf hb (by unfold bufO; simp)) n7) (rowG hin2))
  have hbf2 := k2 hbf (by unfold infoO; simp) n6 (ne_kind hbf hb (by unfold bufO; simp)) n7
  have hsb2 := k2 hsb (by unfold infoO; simp) n8 (ne_kind hsb hb (by unfold bufO; simp)) n9
  have hpl2 := k2 zpool (by unfold infoO; simp) n10 (ne_kind zpool hb (by unfold bufO; simp)) n11
  have zt2 := k2 zt1 (by unfold infoO; simp) (ne_kind zt1 hlg (by simp)) (ne_kind zt1 hb (by unfold bufO; simp)) (ne_kind zt1 hst (by simp))
  have zt3 := k2 zt2' (by unfold infoO; simp) (ne_kind zt2' hlg (by simp)) (ne_kind zt2' hb (by unfold bufO; simp)) (ne_kind zt2' hst (by simp))
  have cel2 : ∀ {c : Addr} {v : Option Value}, Ga c = some (.cell v) → G2 c = some (.cell v) := fun h => k2 h (by unfold infoO; simp) (ne_kind h hlg (by simp)) (ne_kind h hb (by unfold bufO; simp)) (ne_kind h hst (by simp))
  have hac2 : ActsAt G2 ac avs := by
    refine o_EA hac fun ats q1 q2 => ?_; try clear hac
    exact (i_EA ats (k2 q1 (by unfold infoO; simp) (ne_kind q1 hlg (by simp)) (ne_kind q1 hb (by unfold bufO; simp)) (ne_kind q1 hst (by simp))) (q2.imp fun t (q : Nat × Nat) (h : Ga t = some (.tup [.int q.1 0, .int q.2 0])) => k2 h (by unfold infoO; simp) (ne_kind h hlg (by simp)) (ne_kind h hb (by unfold bufO; simp)) (ne_kind h hst (by simp))))
  replace z0 := cel2 z0
  replace z1 := cel2 z1
  replace z2 := cel2 z2
  replace z3 := cel2 z3
  refine o_EA fin.row fun rr fr1 fr2 => ?_
  have fr3 := fin.log
  have fr1 : G2 b = some (bufO rr) := fr1
  clear fin hin1 k2 cel2 pn nk hrow HR
  walk_at "open_"
  generalize hS : runM (4 + (dp0 : Int)) ⟨glyB bs, ps, ps.getLast hps0 + 1, []⟩ avs = S at *
  refine cell_ok (z1) ?_
  refine add_ok ?_
  refine slice_list_ok (lo := some bk) (hi := some (bk + (1 + in0))) hsb2 rfl (by simp [partV]) ?_
  wide_open with hcut
  intro pa hpa
  have s1 := sub_set (o := .list (ps.map vInt)) hpa
  have hpa1 := GH.set_self G2 pa (.list (ps.map vInt))
  walk_at "open_"
  refine neg_ ?_
  obtain ⟨q, qs, rfl⟩ : ∃ q qs, ps = q :: qs := by
    cases ps with
    | nil => exact absurd rfl hps0
    | cons q qs => exact (i_EE q qs rfl)
  refine sub_list hpa1 (lastI (h := hps0)) ?_
  refine add_ok ?_
  refine ⟨keep_fn H1.k__law_done, CallT.room (CallC.T (law_done_ (n := n + 20) H1 (s := ⟨glyB bs, q :: qs, (q :: qs).getLast hps0 + 1, []⟩) (row2.sub s1) hpa1 hgood (hac2.sub s1) rfl (i_AA havl (by refine (?_ : (glyB bs).length ≤ 100); lia) (by wide_open with hpl; lia)) hav (by lia) fun t r' lgA G3 s2 ht hr' hlgA => ?_)) (by lia)⟩
  rw [hS] at ht hr' hlgA
  have hglen := run_len (4 + (dp0 : Int)) avs ⟨glyB bs, q :: qs, (q :: qs).getLast hps0 + 1, []⟩ hav
  rw [hS] at hglen
  have hglen : S.gl.length ≤ (glyB bs).length + 72 * avs.length := hglen
  clear hS
  have s3 := s1.trans s2
  refine (i_EAA _ (by unfold itemsG; dsimp only; rw [ht]) rfl ?_)
  dsimp only [sPs_cons, sPs_nil]
  walk_at "open_"
  refine cmpI_ok rfl ?_
  wide_open with decide_eq_true rfl
  walk_at "open_"
  refine cell_ok (s3 _ _ z2) ?_
  refine ne_data_ok (rd_log (fr3.sub s3)) (rd_log hlgA) (shaped_log _) (shaped_log _) (noMix_log _ _) ?_
  wide_open with PySem.Spec.same_self
  refine cell_ok (s3 _ _ z3) ?_
  refine (i_EAA _ (meth_ (s3 _ _ fr1) F.c_Buffer rfl rfl) (keep_fn F.k_Buffer_glyphs) (CallT.room (CallC.T (glyphs_ (n := n + 20) F (s3 _ _ fr1) (fr2.sub s3) (by lia) ?_)) (by lia)))
  intro g1 hg1
  have s4 := sub_set (o := .list (S.gl.map vInt)) hg1
  have rg1 := GH.set_self G3 g1 (.list (S.gl.map vInt))
  refine o_EA hr' fun ar q1 q2 => ?_; try clear hr'
  have q2l := q2.length
  refine iter_list (s4 _ _ q1) ⟨by simp [small, refs]; lia, ?_⟩
  refine comp_all2 (R := GlyphAt (G3.set g1 (.list (S.gl.map vInt)))) (f := vInt) (s4 _ _ q1) (fun a g hg kk kq => ?_) (q2.imp fun z9 z9 h => h.sub s4) [] ?_
  · refine o_EA hg fun d e e93 => ?_; try clear hg; subst e93
    refine attr_ e F.c_Info rfl rfl rfl ?_
    exact kq
  intro g2 hg2
  have s5 := sub_set (o := .list ([] ++ S.gl.map vInt)) hg2
  have rg2 := GH.set_self (G3.set g1 (.list (S.gl.map vInt))) g2 (.list ([] ++ S.gl.map vInt))
  refine ne_data_ok (rd_ints (s5 _ _ rg1)) (rd_ints rg2) (shaped_ints _) (shaped_ints _) (noMix_ints _ _) ?_
  wide_open with PySem.Spec.same_self
  have s6 := s3.trans (s4.trans s5)
  clear s4 s5 s3 s2 s1 rg1 rg2 q1 q2 ht hlgA
  replace hin2 := fun (i : Nat) a b h1 h2 => s6 _ _ (hin2 i a b h1 h2)
  replace hbf2 := s6 _ _ hbf2
  replace hsb2 := s6 _ _ hsb2
  replace hpl2 := s6 _ _ hpl2
  replace zt2 := s6 _ _ zt2
  replace zt3 := s6 _ _ zt3
  replace z0 := s6 _ _ z0
  replace z1 := s6 _ _ z1
  clear s6 hac2 row2 fr1 fr2 fr3 z2 z3
  generalize (G3.set g1 (.list (S.gl.map vInt))).set g2 (.list ([] ++ S.gl.map vInt)) = G4 at *
  walk_at "open_"
  refine iter_list hbf2 ⟨by simp [small, refs]; lia, ?_⟩
  refine comp_all2 (R := fun a (u : Bool) => ∃ d, G4 a = some (infoO d) ∧ d.uns = u) (f := fun (u : Bool) => Value.bool u) (bs := (List.range as.length).map fun (i : Nat) => decide (0 < i ∧ i ≤ x2)) hbf2 (fun a g hg kk kq => ?_) (all2_idx (by simp) fun i a u ha hu => ?_) [] ?_
  · refine o_EA hg fun d e e93 => ?_; try clear hg; subst e93
    refine attr_ e F.c_Info rfl rfl rfl ?_
    exact kq
  · have hil := (List.getElem?_eq_some_iff.mp ha).1
    obtain ⟨b', hb'⟩ : ∃ b', bs[i]? = some b' := ⟨_, List.getElem?_eq_getElem (by lia)⟩
    rw [List.getElem?_map, List.getElem?_range hil] at hu
    wide_open using hu
    exact (i_EA _ (hin2 i a b' ha hb') rfl)
  intro ua hua
  have s1 := sub_set (o := .list ([] ++ ((List.range as.length).map fun (i : Nat) => decide (0 < i ∧ i ≤ x2)).map fun (u : Bool) => Value.bool u)) hua
  have hual := GH.set_self G4 ua (.list ([] ++ ((List.range as.length).map fun (i : Nat) => decide (0 < i ∧ i ≤ x2)).map fun (u : Bool) => Value.bool u))
  rw [List.nil_append] at *
  refine cell_ok (s1 _ _ z0) ?_
  have uapl : ua ≠ pl := by rintro rfl; wide_line with hpl2 using hua
  refine ⟨keep_fn H1.k__law_deep_right, CallT.room (CallC.T (deep_right_ (n := n + 10) H1 (s1 _ _ hpl2) zpos (s1 _ _ zt2) fun G5 keep htab5 => ?_)) (by lia)⟩
  dsimp only [truthG_b]
  have k5 : ∀ {a : Addr} {g : GO}, G4 a = some g → a ≠ pl → (∀ o, g ≠ .raw o) → G5 a = some g := fun h h1 h2 => keep _ _ h1 (ne_kind h zt2 (h2 _)) (s1 _ _ h)
  have hbf5 := k5 hbf2 n13 (by simp)
  have hsb5 := k5 hsb2 n12 (by simp)
  have z15 := k5 z1 (ne_kind z1 hpl2 (by simp)) (by simp)
  have zt5 := keep _ _ (ne_kind zt3 hpl2 (by simp)) hPP.symm (s1 _ _ zt3)
  have hua5 := keep _ _ uapl (ne_kind hual (s1 _ _ zt2) (by simp)) hual
  clear k5 keep hual hua s1
  refine ⟨trivial, len_list_ok hbf5 ?_⟩
  refine ⟨trivial, range1_ok ?_⟩
  intro rg hrg
  have s1 := sub_set (o := .range 0 ((refs as).length : Nat)) hrg
  refine iter_range (GH.set_self _ _ _) (by simp [refs]; lia) ⟨by simp [small, refs]; lia, ?_⟩
  refine comp_map (fun v => match v with | .int j _ => .bool (decide (0 < j ∧ j ≤ (x2 : Int))) | v => v) trivial _ [] (fun y hy kk kq => ?_) ?_
  · refine o_EA (List.mem_map.mp hy) fun j hj e93 => ?_; subst e93
    have kq : kk (some (.bool (decide (0 < (j : Int) ∧ (j : Int) ≤ (x2 : Int))))) _ := kq
    refine cell_ok (s1 _ _ z15) ?_
    walk_at "open_"
    refine sub_list (s1 _ _ hsb5) (pick_nat (i := 0) (v := .int ((0 : Nat) : Int) 0) (by (wide_line using List.getElem?_map; wide_line using List.getElem?_take_of_lt (by lia); wide_open with hx0); rfl)) ?_
    refine cmp_if (p := ((0 : Nat) : Int) < (j : Int)) rfl (fun hj0 => ?_) (fun hj0 => ?_)
    · walk_at "open_"
      refine cell_ok (s1 _ _ z15) ?_
      refine neg_ ?_
      refine sub_list (s1 _ _ hsb5) (pick_neg (m := bk + in0 + ah) (v := .int (x2 : Int) 0) (by simp; lia) (by (wide_line using List.getElem?_map; wide_line using List.getElem?_take_of_lt (by lia); wide_open with hx2); rfl)) ?_
      refine cmpI_ok rfl ?_
      have : decide (0 < (j : Int) ∧ (j : Int) ≤ (x2 : Int)) = decide ((j : Int) ≤ (x2 : Int)) := by
        by_cases h : (j : Int) ≤ (x2 : Int)
        · rw [decide_eq_true h, decide_eq_true ⟨hj0, h⟩]
        · rw [decide_eq_false h, decide_eq_false fun q => h q.2]
      rw [this] at kq
      exact kq
    · walk_at "open_"
      have : decide (0 < (j : Int) ∧ (j : Int) ≤ (x2 : Int)) = false := decide_eq_false fun q => hj0 q.1
      rw [this] at kq
      exact kq
  intro va hva
  have e1 : ([] ++ ((List.range (refs as).length).map fun (j : Nat) => Value.int (j : Int) 0).map fun v => match v with | .int j _ => .bool (decide (0 < j ∧ j ≤ (x2 : Int))) | v => v) = ((List.range as.length).map fun (i : Nat) => decide (0 < i ∧ i ≤ x2)).map fun (u : Bool) => Value.bool u := by
    (wide_line using refs_length; wide_line using List.nil_append; wide_line using List.map_map; wide_open with List.map_map)
    apply List.map_congr_left
    intro j _
    simp only [Function.comp]
    congr 1
    exact decide_eq_decide.mpr ⟨fun h => by lia, fun h => by lia⟩
  wide_open with e1
  refine eq_data_ok (rd_bools (sub_set hva _ _ (s1 _ _ hua5))) (rd_bools (GH.set_self _ _ _)) (shaped_bools _) (shaped_bools _) (noMix_bools _ _) ?_
  wide_open with PySem.Spec.same_self
  obtain ⟨ps5, htab5⟩ := htab5
  exact ret_same (k _ ⟨ps5, sub_set hva _ _ (s1 _ _ htab5)⟩ ⟨tps, sub_set hva _ _ (s1 _ _ zt5)⟩)
end
section
open PySem PySem.W PySem.Calls PyProof.Rows PySem.SeqAt
variable {W : Wd} {n : Nat} {G : GH} {K : KV} {cs : List Addr} {P1 P2 : Addr}
theorem seta_mask (F : Facts W) {a : Addr} {d d' : Inf} {z : Int} {K : GH → Prop} (h : G a = some (infoO d)) (he : { d with mask := z } = d') (k : K (G.set a (infoO d'))) : setaG W (.ref a) 3 (.int z 0) G K := by
  subst he
  refine seta_ h F.c_Info rfl (Nat.le_of_ble_eq_true rfl) ?_
  exact k
theorem law_set (H1 : Facts1 W P1 P2) (hPP : P1 ≠ P2) {G₀ : GH} {c0 c1 c2 c3 pl sa ia sc w cv : Addr} {x : Option Value} {ws : List Int} {as ts : List Addr} {bs : List Bool} {avs : List (Nat × Nat)} {bk in0 ah mo dp0 : Nat} {ms : List Int}
    (hP2 : G₀ P2 = some (.raw (tabObj #[]))) (plG : G₀ pl = none) (ia0 : G₀ ia = none) (sa0 : G₀ sa = none) (hias : ia ≠ sa) (iapl : ia ≠ pl) (sapl : sa ≠ pl) (iaw : w ≠ ia) (saw : w ≠ sa) (hwpl : w ≠ pl)
    (hbk : bk < 3) (hin0 : in0 < 4) (hah : ah < 3) (hmo : mo < 3) (hdp : dp0 < 3) (hav : ∀ q ∈ avs, q.2 ≤ 8) (havl : avs.length ≤ 5)
    (hsort : ms.Pairwise (· ≤ ·)) (hmem : ∀ x, x ∈ ms ↔ x ∈ [1, 90])
    (q1 : G ia = some (.list (refs as))) (q2 : as.Nodup) (q3 : as.length = bs.length) (q4 : ∀ (i : Nat) a b, as[i]? = some a → bs[i]? = some b → G a = some (infoO (infB 0 i b)))
    (q5 : G sa = some (.list ((spotsOf bs).map fun (j : Nat) => Value.int (j : Int) 0))) (q6 : (spotsOf bs).length = bk + (1 + in0) + ah + mo) (q7 : bs.length ≤ 2 * (bk + (1 + in0) + ah + mo)) (q8 : bs[0]? = some true)
    (q9 : Bn G₀ pl P1 [c0, c1, c2, c3] [some (.ref pl), some (.ref sa), none, none] ws G) (qa : G w = some (.list (refs ts))) (qb : All2 (fun t (q : Nat × Nat) => G t = some (.tup [.int q.1 0, .int q.2 0])) ts avs) (qc : CovAt G cv ms)
    (k : ∀ G', Tab G' P1 → Tab G' P2 → K (.bool true) G') :
    wpSs W (n + 99) (.ref 589) sp_law.cels [c0, c1, c2, c3] (b_law.drop 11) [some (.ref sc), x, some (.ref w), some (.int bk 0), some (.int (1 + in0) 0), some (.int ah 0), some (.int mo 0), some (.int (4 + dp0) 0), some (.ref cv), some (.ref ia), none, none, none, none, none, none, none, none, none, none, none, none, none, none, none] G (bodyK K) := by
  have F := H1.F
  dsimp only [b_law, ndropS, ndrop0]
  walk_at "open_"
  refine cell_ok (q9.cel 1 c1 _ rfl rfl) ?_
  refine add_ok ?_
  refine add_ok ?_
  wide_open with (show ((bk : Int) + (1 + (in0 : Int)) + (ah : Int)) = ((bk + (1 + in0) + ah : Nat) : Int) by push_cast; rfl)
  refine slice_list_ok (lo := none) (hi := some (bk + (1 + in0) + ah)) q5 rfl rfl ?_
  have ecut : cut ((spotsOf bs).map fun (j : Nat) => Value.int (j : Int) 0) none (some (bk + (1 + in0) + ah)) = ((spotsOf bs).take (bk + (1 + in0) + ah)).map fun (j : Nat) => Value.int (j : Int) 0 := by
    simp [cut, List.map_take]
  wide_open with ecut
  intro sb hsb
  have s1 := sub_set (o := .list (((spotsOf bs).take (bk + (1 + in0) + ah)).map fun (j : Nat) => Value.int (j : Int) 0)) hsb
  have Sb := GH.set_self G sb (.list (((spotsOf bs).take (bk + (1 + in0) + ah)).map fun (j : Nat) => Value.int (j : Int) 0))
  have sbpl : sb ≠ pl := by rintro rfl; wide_line with q9.pool using hsb
  have hc := (q9.sub s1).cel 1 c1 _ rfl rfl
  refine (i_EEAA c1 _ rfl hc ?_)
  replace q1 := cellk (o := .cell (some (.ref sb))) (s1 _ _ q1) hc rfl
  replace q4 := fun (i : Nat) a b h1 h2 => cellk (o := .cell (some (.ref sb))) (s1 _ _ (q4 i a b h1 h2)) hc rfl
  replace qa := cellk (o := .cell (some (.ref sb))) (s1 _ _ qa) hc rfl
  replace qb := qb.imp fun t (q : Nat × Nat) (h : G t = some (.tup [.int q.1 0, .int q.2 0])) => cellk (o := .cell (some (.ref sb))) (s1 _ _ h) hc rfl
  replace qc := (qc.sub s1).kf (kf_cell (o := .cell (some (.ref sb))) hc)
  replace Sb := cellk (o := .cell (some (.ref sb))) Sb hc rfl
  replace q9 := (q9.sub s1).set (i := 1) (c := c1) (u := some (.ref sa)) rfl rfl (some (.ref sb))
  simp only [List.set_cons_zero, List.set_cons_succ] at q9
  clear hc s1 hsb ecut q5 sapl saw sa0 hias
  generalize (G.set sb (.list (((spotsOf bs).take (bk + (1 + in0) + ah)).map fun (j : Nat) => Value.int (j : Int) 0))).set c1 (.cell (some (.ref sb))) = G1 at *
  -- the buffer
  refine ⟨keep_fn F.k_Buffer, CallT.room (CallC.T (new_Buffer (n := n + 20) F ?_)) (by lia)⟩
  intro b hb
  have s1 := sub_set (o := bufO ia) hb
  have b0 := q9.fresh hb
  have B0 := GH.set_self G1 b (bufO ia)
  have hc := (q9.sub s1).cel 3 c3 _ rfl rfl
  refine (i_EEAA c3 _ rfl hc ?_)
  replace q1 := cellk (o := .cell (some (.ref b))) (s1 _ _ q1) hc rfl
  replace q4 := fun (i : Nat) a b' h1 h2 => cellk (o := .cell (some (.ref b))) (s1 _ _ (q4 i a b' h1 h2)) hc rfl
  replace qa := cellk (o := .cell (some (.ref b))) (s1 _ _ qa) hc rfl
  replace qb := qb.imp fun t (q : Nat × Nat) (h : G1 t = some (.tup [.int q.1 0, .int q.2 0])) => cellk (o := .cell (some (.ref b))) (s1 _ _ h) hc rfl
  replace qc := (qc.sub s1).kf (kf_cell (o := .cell (some (.ref b))) hc)
  replace Sb := cellk (o := .cell (some (.ref b))) (s1 _ _ Sb) hc rfl
  replace B0 := cellk (o := .cell (some (.ref b))) B0 hc rfl
  replace q9 := (q9.sub s1).set (i := 3) (c := c3) (u := none) rfl rfl (some (.ref b))
  simp only [List.set_cons_zero, List.set_cons_succ] at q9
  clear hc s1 hb
  generalize (G1.set b (bufO ia)).set c3 (.cell (some (.ref b))) = G2 at *
  refine cell_ok (q9.cel 3 c3 _ rfl rfl) ?_
  refine attr_ B0 F.c_Buffer rfl rfl rfl ?_
  refine iter_list q1 ?_
  have zt2 : G2 P2 = some (.raw (tabObj #[])) := q9.R _ _ (by rintro rfl; wide_line with plG using hP2) hPP.symm hP2
  have zt1 := q9.tab
  have zpool := q9.pool
  have zpos := q9.pos
  have z0 := q9.cel 0 c0 _ rfl rfl
  have z1 := q9.cel 1 c1 _ rfl rfl
  have z2 := q9.cel 2 c2 _ rfl rfl
  have z3 := q9.cel 3 c3 _ rfl rfl
  have nd := q9.nd
  clear q9 hP2 plG ia0 b0
  have hinfo : ∀ a ∈ as, ∃ d, G2 a = some (infoO d) := fun a ha => by
    obtain ⟨i, hi⟩ := List.mem_iff_getElem?.mp ha
    obtain ⟨b', hb'⟩ : ∃ b', bs[i]? = some b' := ⟨_, List.getElem?_eq_getElem (by have := (List.getElem?_eq_some_iff.mp hi).1; lia)⟩
    exact ⟨_, q4 i a b' hi hb'⟩
  refine for_inv (fun ys' m G' => ∃ (j : Nat) (x10 : Option Value), ys' = refs (as.drop j) ∧ j ≤ as.length ∧
      m = [some (.ref sc), x, some (.ref w), some (.int bk 0), some (.int (1 + in0) 0), some (.int ah 0), some (.int mo 0), some (.int (4 + dp0) 0), some (.ref cv), some (.ref ia), x10, none, none, none, none, none, none, none, none, none, none, none, none, none, none] ∧
      (∀ a g, a ∉ as → G2 a = some g → G' a = some g) ∧ (∀ (i : Nat) a b', as[i]? = some a → bs[i]? = some b' → G' a = some (infoO (infB (if i < j then 1 else 0) i b')))) ?_ ?_ ?_ _ _ _
    (i_EEAAAA 0 none rfl (Nat.zero_le _) rfl (fun a g z9 h => h) (fun i a b' h1 h2 => by wide_open with if_neg (Nat.not_lt_zero _); exact q4 i a b' h1 h2))
  · intro ys m G' hx9; refine o_EEAAAA hx9 fun j x10 z9 z9 z9 h z9 => ?_; try clear hx9
    exact h _ _ (fun hm => by obtain ⟨d, e⟩ := hinfo _ hm; wide_line with q1 using e) q1
  rotate_left
  · intro y ys m G' Kn nxt nxc nxr hx9; refine o_EEAAAA hx9 fun j x10 e hj e95 hk hi => ?_; try clear hx9; subst e95
    have hlt : j < as.length := by
      rcases Nat.lt_or_ge j as.length with h | h
      · exact h
      · wide_line with List.drop_eq_nil_of_le h using e
    rw [List.drop_eq_getElem_cons hlt] at e
    simp only [refs, List.map_cons, List.cons.injEq] at e
    obtain ⟨rfl, rfl⟩ := e
    have haj : as[j]? = some as[j] := List.getElem?_eq_getElem hlt
    generalize as[j] = aj at *
    obtain ⟨bj, hbj⟩ : ∃ bj, bs[j]? = some bj := ⟨_, List.getElem?_eq_getElem (by lia)⟩
    have hcur := hi j aj bj haj hbj
    rw [if_neg (Nat.lt_irrefl j)] at hcur
    walk_at "open_"
    refine seta_mask F (d' := infB 1 j bj) hcur rfl ?_
    refine nxt _ _ (i_EEAAAA (j + 1) _ rfl hlt rfl (fun a g h1 h2 => set_ne_of (hk a g h1 h2) (by rintro rfl; exact h1 (List.mem_of_getElem? haj))) (fun i a b' h1 h2 => ?_))
    by_cases hij : i = j
    · subst hij
      wide_line with haj using h1
      wide_line with hbj using h2
      (wide_line using GH.set_self; wide_open with if_pos (Nat.lt_succ_self _))
    · have hne : a ≠ aj := by
        rintro rfl
        obtain ⟨p1, p2⟩ := List.getElem?_eq_some_iff.mp h1
        obtain ⟨p3, p4⟩ := List.getElem?_eq_some_iff.mp haj
        exact hij ((List.getElem_inj q2).mp (p2.trans p4.symm))
      (wide_line using GH.set_ne _ _ hne; wide_open with hi i a b' h1 h2)
      by_cases hlt' : i < j
      · (wide_line using if_pos hlt'; wide_open with if_pos (by lia))
      · (wide_line using if_neg hlt'; wide_open with if_neg (by lia))
  intro m G3 hx9; refine o_EEAAAA hx9 fun j x10 e hj e95 hk hi => ?_; try clear hx9; subst e95
  have hjl : j = as.length := by
    have : as.drop j = [] := by simpa [refs] using e.symm
    have := List.drop_eq_nil_iff.mp this; lia
  subst hjl
  have hinf : ∀ (i : Nat) a b', as[i]? = some a → bs[i]? = some b' → G3 a = some (infoO (infB 1 i b')) := fun i a b' h1 h2 => by
    have := hi i a b' h1 h2
    rwa [if_pos (List.getElem?_eq_some_iff.mp h1).1] at this
  have nk : ∀ {a : Addr} {g : GO}, G2 a = some g → (∀ d, g ≠ infoO d) → G3 a = some g := fun {a g} h hd => hk a g (fun hm => by obtain ⟨d, e⟩ := hinfo _ hm; wide_line with h using e; exact hd _ rfl) h
  clear e hj hk hi q4 hinfo
  replace q1 := nk q1 (by unfold infoO; simp)
  replace qa := nk qa (by unfold infoO; simp)
  replace qb := qb.imp fun t (q : Nat × Nat) (h : G2 t = some (.tup [.int q.1 0, .int q.2 0])) => nk h (by unfold infoO; simp)
  replace qc : CovAt G3 cv ms := let ⟨tt, y1, y2⟩ := qc; (i_EA tt (nk y1 (by unfold infoO; intro d h; wide_open using h)) (nk y2 (by unfold infoO; simp)))
  replace Sb := nk Sb (by unfold infoO; simp)
  replace B0 := nk B0 (by unfold infoO bufO; intro d h; wide_open using h)
  replace zt1 := nk zt1 (by unfold infoO; simp)
  replace zt2 := nk zt2 (by unfold infoO; simp)
  replace zpool := nk zpool (by unfold infoO; simp)
  replace z0 := nk z0 (by unfold infoO; simp)
  replace z1 := nk z1 (by unfold infoO; simp)
  replace z2 := nk z2 (by unfold infoO; simp)
  replace z3 := nk z3 (by unfold infoO; simp)
  clear nk
  walk_at "open_"
  -- the actions
  refine iter_list qa ⟨by have := qb.length; simp [small, refs]; lia, ?_⟩
  refine comp_inv (fun xs acc G' => ∃ (j : Nat) (vs : List Addr), xs = refs (ts.drop j) ∧ j ≤ ts.length ∧ acc = refs vs ∧ Sub G3 G' ∧ All2 (fun t (q : Nat × Nat) => G' t = some (.tup [.int q.1 0, .int q.2 0])) vs (avs.take j)) (fun xs acc G' h => let ⟨_, _, _, _, _, s, _⟩ := h; s _ _ qa) ?_ ?_ _ _ _ (i_EEAAAA 0 ([]) rfl (Nat.zero_le _) rfl (fun z9 z9 h => h) .nil)
  rotate_left
  · intro y xs acc G' Kc nxt hx9; refine o_EEAAAA hx9 fun j vs e hj e95 s ha => ?_; try clear hx9; subst e95
    have hlt : j < ts.length := by
      rcases Nat.lt_or_ge j ts.length with h | h
      · exact h
      · wide_line with List.drop_eq_nil_of_le h using e
    rw [List.drop_eq_getElem_cons hlt] at e
    simp only [refs, List.map_cons, List.cons.injEq] at e
    obtain ⟨rfl, rfl⟩ := e
    refine o_EA (qb.get (List.getElem?_eq_getElem hlt)) fun n91 hq hqt => ?_; obtain ⟨i, num⟩ := n91
    refine (i_EAA _ (by unfold itemsG; dsimp only; rw [s _ _ hqt]) rfl ?_)
    dsimp only [sPs_cons, sPs_nil]
    walk_at "open_"
    intro tp htp
    have s' := sub_set (o := .tup [.int i 0, .int num 0]) htp
    refine nxt (some _) _ (i_EEAAAA (j + 1) (vs ++ [tp]) rfl hlt (by simp [refs]) (s.trans s') ?_)
    obtain ⟨hjl, hqe⟩ := List.getElem?_eq_some_iff.mp hq
    (wide_line using List.take_succ_eq_append_getElem hjl; wide_open with hqe)
    exact (ha.imp fun t (q : Nat × Nat) (h : G' t = some (.tup [.int q.1 0, .int q.2 0])) => s' _ _ h).snoc (GH.set_self _ _ _)
  intro acc G4 hx9; refine o_EEAAAA hx9 fun j vs e hj e95 s ha => ?_; try clear hx9; subst e95
  have hjl : j = ts.length := by
    have : ts.drop j = [] := by simpa [refs] using e.symm
    have := List.drop_eq_nil_iff.mp this; lia
  subst hjl
  rw [List.take_of_length_le (by wide_open with qb.length; exact Nat.le_refl _)] at ha
  clear e hj
  intro la hla
  have s1 := sub_set (o := .list (refs vs)) hla
  refine ⟨trivial, tup_of_list_ok (GH.set_self _ _ _) ?_⟩
  intro ac hac
  have s2 := sub_set (o := .tup (refs vs)) hac
  have Ac : ActsAt ((G4.set la (.list (refs vs))).set ac (.tup (refs vs))) ac avs := (i_EA vs (GH.set_self _ _ _) (ha.imp fun t (q : Nat × Nat) (h : G4 t = some (.tup [.int q.1 0, .int q.2 0])) => s2 _ _ (s1 _ _ h)))
  have S := s.trans (s1.trans s2)
  generalize (G4.set la (.list (refs vs))).set ac (.tup (refs vs)) = G5 at *
  clear s s1 s2 ha hla hac
  -- the rule
  intro e1 he1
  have s1 := sub_set (o := .tup [.ref cv]) he1
  walk_at "open_"
  refine rep_ok (xs := [.ref cv]) (k := bk) (GH.set_self _ _ _) (by simp) (by simp) (by lia) fun t1 G6 s2 ht1 z9 => ?_
  intro e2 he2
  have s3 := sub_set (o := .tup [.ref cv]) he2
  wide_open with (show ((1 : Int) + (in0 : Int)) = ((1 + in0 : Nat) : Int) by push_cast; rfl)
  refine rep_ok (xs := [.ref cv]) (k := 1 + in0) (GH.set_self _ _ _) (by simp) (by simp) (by lia) fun t2 G7 s4 ht2 z9 => ?_
  intro e3 he3
  have s5 := sub_set (o := .tup [.ref cv]) he3
  refine rep_ok (xs := [.ref cv]) (k := ah) (GH.set_self _ _ _) (by simp) (by simp) (by lia) fun t3 G8 s6 ht3 z9 => ?_
  replace ht1 := s6 _ _ (s5 _ _ (s4 _ _ (s3 _ _ ht1)))
  replace ht2 := s6 _ _ (s5 _ _ ht2)
  have s7 := s1.trans (s2.trans (s3.trans (s4.trans (s5.trans s6))))
  replace Ac := Ac.sub s7
  replace S := S.trans s7
  clear s1 s2 s3 s4 s5 s6 s7 he1 he2 he3
  refine ⟨keep_fn F.k_Rule, CallT.room (CallC.T (new_Rule (n := n + 20) F ?_)) (by lia)⟩
  intro ru hru
  have s1 := sub_set (o := ruleO t1 t2 t3 (.ref ac)) hru
  have U1 := GH.set_self G8 ru (ruleO t1 t2 t3 (.ref ac))
  intro rl hrl
  have s2 := sub_set (o := .list [.ref ru]) hrl
  have U2 := GH.set_self (G8.set ru (ruleO t1 t2 t3 (.ref ac))) rl (.list [.ref ru])
  intro ep sets hsets
  have ed : ([0].zip [Value.ref rl]).foldl (fun l p => put l p.1 p.2) [] = [((0 : Int), Value.ref rl)] := rfl
  rw [ed] at *
  have s3 := sub_set (o := .dict [(0, .ref rl)] ep) hsets
  have U3 := GH.set_self ((G8.set ru (ruleO t1 t2 t3 (.ref ac))).set rl (.list [.ref ru])) sets (.dict [(0, .ref rl)] ep)
  refine ⟨keep_fn F.k_Contexts, CallT.room (CallC.T (new_Contexts (n := n + 20) F ?_)) (by lia)⟩
  intro tb htb
  have s4 := sub_set (o := ctxO 3 true sets .none .none) htb
  have U4 := GH.set_self (((G8.set ru (ruleO t1 t2 t3 (.ref ac))).set rl (.list [.ref ru])).set sets (.dict [(0, .ref rl)] ep)) tb (ctxO 3 true sets .none .none)
  have S4 := s1.trans (s2.trans (s3.trans s4))
  replace U1 := s4 _ _ (s3 _ _ (s2 _ _ U1))
  replace U2 := s4 _ _ (s3 _ _ U2)
  replace U3 := s4 _ _ U3
  replace ht1 := S4 _ _ ht1
  replace ht2 := S4 _ _ ht2
  replace ht3 := S4 _ _ ht3
  replace Ac := Ac.sub S4
  replace S := S.trans S4
  generalize (((G8.set ru (ruleO t1 t2 t3 (.ref ac))).set rl (.list [.ref ru])).set sets (.dict [(0, .ref rl)] ep)).set tb (ctxO 3 true sets .none .none) = G9 at *
  clear s1 s2 s3 s4 S4 hru hrl hsets htb
  -- the lookups
  refine ⟨trivial, range1_ok ?_⟩
  intro rg hrg
  have s1 := sub_set (o := .range 0 8) hrg
  refine iter_range (m := 8) (GH.set_self _ _ _) (by decide) ⟨by simp [small], ?_⟩
  refine comp_inv (fun xs acc G' => ∃ (j : Nat) (vs : List Addr), xs = ((List.range 8).map fun (j : Nat) => Value.int (j : Int) 0).drop j ∧ j ≤ 8 ∧ acc = refs vs ∧ vs.length = j ∧ Sub G9 G' ∧ (∀ (nm : Nat) lk, vs[nm]? = some lk → ∃ tb, G' lk = some (lookO "single" 0 nm tb))) (fun z9 z9 z9 z9 => trivial) ?_ ?_ _ _ _
    (i_EEAAAAA 0 ([]) rfl (Nat.zero_le _) rfl rfl s1 (fun nm lk h => by simp at h))
  rotate_left
  · intro y xs acc G' Kc nxt hx9; refine o_EEAAAAA hx9 fun j vs e hj e95 hvl s ha => ?_; try clear hx9; subst e95
    have hlt : j < 8 := by
      rcases Nat.lt_or_ge j 8 with h | h
      · exact h
      · wide_line with List.drop_eq_nil_of_le (by simpa using h) using e
    rw [List.drop_eq_getElem_cons (by simpa using hlt)] at e
    simp only [List.cons.injEq] at e
    obtain ⟨rfl, rfl⟩ := e
    have hjN : ((List.range 8).map fun (j : Nat) => Value.int (j : Int) 0)[j]'(by simpa using hlt) = .int (j : Int) 0 := by simp
    wide_open with hjN
    intro le hle
    have s2 := sub_set (o := .list []) hle
    refine ⟨keep_fn F.k_Lookup, CallT.room (CallC.T (new_Lookup (n := n + 20) F ?_)) (by lia)⟩
    intro lk hlk
    have s3 := sub_set (o := lookO "single" 0 j (.ref le)) hlk
    refine nxt (some _) _ (i_EEAAAAA (j + 1) (vs ++ [lk]) rfl hlt (by simp [refs]) (by simp [hvl]) (s.trans (s2.trans s3)) (fun nm lk' h => ?_))
    rcases Nat.lt_or_ge nm vs.length with z | z
    · rw [List.getElem?_append_left z] at h
      obtain ⟨tb, q⟩ := ha nm lk' h
      exact ⟨tb, s3 _ _ (s2 _ _ q)⟩
    · have hil := (List.getElem?_eq_some_iff.mp h).1
      have : nm = vs.length := by simp at hil; lia
      subst this
      rw [List.getElem?_append_right (Nat.le_refl _), Nat.sub_self] at h
      wide_open using h
      wide_open with hvl
      exact ⟨_, GH.set_self _ _ _⟩
  intro acc G10 hx9; refine o_EEAAAAA hx9 fun j lks e hj e95 hvl s hlks => ?_; try clear hx9; subst e95
  have hj8 : j = 8 := by
    have := List.drop_eq_nil_iff.mp e.symm
    simp at this; lia
  subst hj8
  clear e hj s1 hrg
  intro ls hls
  have s1 := sub_set (o := .list (refs lks)) hls
  have V5 := GH.set_self G10 ls (.list (refs lks))
  replace hlks := fun (nm : Nat) lk h => let ⟨tb, q⟩ := hlks nm lk h; (⟨tb, s1 _ _ q⟩ : ∃ tb, (G10.set ls (.list (refs lks))) lk = some (lookO "single" 0 nm tb))
  replace s := s.trans s1
  clear s1
  generalize G10.set ls (.list (refs lks)) = G11 at *
  replace U1 := s _ _ U1
  replace U2 := s _ _ U2
  replace U3 := s _ _ U3
  replace U4 := s _ _ U4
  replace ht1 := s _ _ ht1
  replace ht2 := s _ _ ht2
  replace ht3 := s _ _ ht3
  replace Ac := Ac.sub s
  replace S := S.trans s
  clear s hls
  -- the gdef
  intro epa d1 hd1
  have ee : (([] : List Int).zip ([] : List Value)).foldl (fun l p => put l p.1 p.2) [] = ([] : List (Int × Value)) := rfl
  rw [ee] at *
  have t1' := sub_set (o := .dict [] epa) hd1
  have V2 := GH.set_self G11 d1 (.dict [] epa)
  refine ⟨keep_fn F.k_ClassDef, CallT.room (CallC.T (new_ClassDef (n := n + 20) F ?_)) (by lia)⟩
  intro cd1 hcd1
  have t2' := sub_set (o := .inst a_ClassDef [(31, .ref d1)]) hcd1
  have V3 := GH.set_self (G11.set d1 (.dict [] epa)) cd1 (.inst a_ClassDef [(31, .ref d1)])
  intro epb d2 hd2
  rw [ee] at *
  have t3' := sub_set (o := .dict [] epb) hd2
  refine ⟨keep_fn F.k_ClassDef, CallT.room (CallC.T (new_ClassDef (n := n + 20) F ?_)) (by lia)⟩
  intro cd2 hcd2
  have t4' := sub_set (o := .inst a_ClassDef [(31, .ref d2)]) hcd2
  intro sl hsl
  have t5' := sub_set (o := .list []) hsl
  refine ⟨keep_fn F.k_Gdef, CallT.room (CallC.T (new_Gdef (n := n + 20) F fun gd d3 d4 G14 t6' z9 V4 => ?_)) (by lia)⟩
  replace V3 := t6' _ _ (t5' _ _ (t4' _ _ (t3' _ _ V3)))
  replace V2 := t6' _ _ (t5' _ _ (t4' _ _ (t3' _ _ (t2' _ _ V2))))
  have s3 := t1'.trans (t2'.trans (t3'.trans (t4'.trans (t5'.trans t6'))))
  clear t1' t2' t3' t4' t5' t6' hd1 hcd1 hd2 hcd2 hsl
  have VG : GdefAt G14 gd [] := ⟨cd1, _, _, _, _, V4, d1, epa, V3, V2⟩
  clear V2 V3 V4
  refine cell_ok (s3 _ _ (S _ _ z3)) ?_
  intro ll hll
  have s4 := sub_set (o := .list [.ref tb]) hll
  refine ⟨keep_fn F.k_Lookup, CallT.room (CallC.T (new_Lookup (n := n + 20) F ?_)) (by lia)⟩
  intro lk hlk
  have s5 := sub_set (o := lookO "chain" 0 0 (.ref ll)) hlk
  have V1 := GH.set_self (G14.set ll (.list [.ref tb])) lk (lookO "chain" 0 0 (.ref ll))
  have s6 := s3.trans (s4.trans s5)
  replace VG := VG.sub (s4.trans s5)
  clear s3 s4 s5 hll hlk
  generalize (G14.set ll (.list [.ref tb])).set lk (lookO "chain" 0 0 (.ref ll)) = G15 at *
  replace U1 := s6 _ _ U1
  replace U2 := s6 _ _ U2
  replace U3 := s6 _ _ U3
  replace U4 := s6 _ _ U4
  replace V5 := s6 _ _ V5
  replace hlks := fun (nm : Nat) lk h => let ⟨tb, q⟩ := hlks nm lk h; (⟨tb, s6 _ _ q⟩ : ∃ tb, G15 lk = some (lookO "single" 0 nm tb))
  replace ht1 := s6 _ _ ht1
  replace ht2 := s6 _ _ ht2
  replace ht3 := s6 _ _ ht3
  replace Ac := Ac.sub s6
  replace S := S.trans s6
  clear s6
  refine ⟨keep_fn F.k_Scene, CallT.room (CallC.T (new_Scene (n := n + 20) F fun sn st hs hst hsst => ?_)) (by lia)⟩
  have s2 := sub_set (o := sceneO b gd ls lk 1 (4 + dp0) st) hs
  have hst' : (G15.set sn (sceneO b gd ls lk 1 (4 + dp0) st)) st = none := by wide_open with GH.set_ne _ _ hsst.symm; exact hst
  have s3 := sub_set (o := .list [.int 0 0]) hst'
  have V6 := s3 _ _ (GH.set_self G15 sn (sceneO b gd ls lk 1 (4 + dp0) st))
  have V7 := GH.set_self (G15.set sn (sceneO b gd ls lk 1 (4 + dp0) st)) st (.list [.int 0 0])
  have old : ∀ {x : Addr} {g : GO}, G15 x = some g → x ≠ st := fun {x g} h => by rintro rfl; wide_line with hst using h
  have n4 := old V5
  have n5 := old (S _ _ q1)
  have n9 := old (S _ _ Sb)
  have n11 := old (S _ _ zpool)
  have s4 := s2.trans s3
  clear s2 s3 hs hst hst' old hsst
  generalize (G15.set sn (sceneO b gd ls lk 1 (4 + dp0) st)).set st (.list [.int 0 0]) = G16 at *
  refine cell_ok (s4 _ _ (S _ _ z3)) ?_
  refine attr_ (s4 _ _ (S _ _ B0)) F.c_Buffer rfl rfl rfl ?_
  refine ⟨trivial, list_of_list_ok (s4 _ _ (S _ _ q1)) ?_⟩
  intro bf hbf
  have s5 := sub_set (o := .list (refs as)) hbf
  have V8 := GH.set_self G16 bf (.list (refs as))
  have n7 : bf ≠ st := by rintro rfl; wide_line with V7 using hbf
  have n13 : bf ≠ pl := by rintro rfl; wide_line with s4 _ _ (S _ _ zpool) using hbf
  intro lg hlg
  have s6 := sub_set (o := .list []) hlg
  have V9 := GH.set_self (G16.set bf (.list (refs as))) lg (.list [])
  have old : ∀ {x : Addr} {g : GO}, (G16.set bf (.list (refs as))) x = some g → x ≠ lg := fun {x g} h => by rintro rfl; wide_line with hlg using h
  have n1 := old (s5 _ _ (s4 _ _ V5))
  have n2 := old (s5 _ _ V7)
  have n3 := old (s5 _ _ (s4 _ _ (S _ _ q1)))
  have n6 := old V8
  have n8 := old (s5 _ _ (s4 _ _ (S _ _ Sb)))
  have n10 := old (s5 _ _ (s4 _ _ (S _ _ zpool)))
  replace V6 := s6 _ _ (s5 _ _ V6)
  replace V7 := s6 _ _ (s5 _ _ V7)
  replace V8 := s6 _ _ V8
  have s7 := s4.trans (s5.trans s6)
  clear s4 s5 s6 hbf hlg old
  generalize (G16.set bf (.list (refs as))).set lg (.list []) = G17 at *
  replace S := S.trans s7
  have hc := S _ _ z2
  refine (i_EEAA c2 _ rfl hc ?_)
  have kf := kf_cell (o := .cell (some (.ref lg))) hc
  have kx : ∀ {a : Addr} {g : GO}, G3 a = some g → isCell g = false → (G17.set c2 (.cell (some (.ref lg)))) a = some g := fun h hk => cellk (S _ _ h) hc hk
  have k7 : ∀ {a : Addr} {g : GO}, G15 a = some g → isCell g = false → (G17.set c2 (.cell (some (.ref lg)))) a = some g := fun h hk => cellk (s7 _ _ h) hc hk
  obtain ⟨w02, w12, w32⟩ : c0 ≠ c2 ∧ c1 ≠ c2 ∧ c3 ≠ c2 := by
    simp only [List.nodup_cons, List.mem_cons, List.not_mem_nil, or_false, not_or, List.nodup_nil, and_true, not_false_eq_true] at nd
    exact (i_AA nd.1.2.1 nd.2.1.1 (Ne.symm nd.2.2))
  have hcv : ∀ m : Nat, m ≤ 64 → ∀ t, G15 t = some (.tup (List.replicate m [Value.ref cv]).flatten) → CovRow (G17.set c2 (.cell (some (.ref lg)))) t (List.replicate m fun g => decide (g ∈ ms)) := fun m hm t h =>
    ⟨List.replicate m cv, by rw [k7 h rfl]; simp [refs], all2_replicate ⟨ms, (qc.sub S).kf kf, hsort, rfl⟩ m, by simp; lia⟩
  have hend := law_end H1 hPP (sc := sc) (x := x) (w := w) (cv := cv) (x10 := x10) (ia := ia) (f := fun g => decide (g ∈ ms)) (kx zpool rfl) zpos (kx zt1 rfl) (kx zt2 rfl)
    (set_ne_of (S _ _ z0) w02) (set_ne_of (S _ _ z1) w12) (GH.set_self _ _ _) (set_ne_of (S _ _ z3) w32)
    (kx B0 rfl) (kx q1 rfl) q2 q3 (fun i a b h1 h2 => kx (hinf i a b h1 h2) rfl) (cellk V8 hc rfl) (kx Sb rfl) q6 (by lia) q8 hbk hin0 hah ((Ac.sub s7).kf kf) hav havl
    (k7 U4 rfl) (k7 U3 rfl) (k7 U2 rfl) (k7 U1 rfl) (hcv _ (by lia) _ ht1) (hcv _ (by lia) _ ht2) (hcv _ (by lia) _ ht3) (decide_eq_true ((hmem 1).mpr (by simp))) (decide_eq_false fun h => by have := (hmem 2).mp h; simp at this)
    (cellk V6 hc rfl) hdp ((VG.sub s7).kf kf) (k7 V5 rfl) hvl (fun nm lk h => let ⟨tb, q⟩ := hlks nm lk h; ⟨tb, k7 q rfl⟩) (k7 V1 rfl) (cellk V7 hc rfl) (cellk V9 hc rfl)
    n1 n2 n3 n4 n5 n6 n7 n8 n9 n10 n11 sbpl n13 (n := n) k
  wide_open with (show ((1 + in0 : Nat) : Int) = 1 + (in0 : Int) by push_cast; rfl)
  revert hend
  dsimp only [b_law, ndropS, ndrop0]
  walk_at "open_"
  intro hend
  exact hend
end
section
open PySem PySem.W PySem.Calls PyProof.Rows
variable {W : Wd} {n : Nat} {G : GH} {K : KV} {cs : List Addr} {P1 P2 : Addr}
theorem ten80 : ((10 : Int) ^ (Int.toNat 80)) ≠ 0 := by decide +kernel
theorem ten80pos : 0 < ((10 : Int) ^ (Int.toNat 80)) := by decide +kernel
noncomputable def poolF (x : Int) : Int := (if x < 0 then -x else x).fmod ((10 : Int) ^ (Int.toNat 80))
theorem poolF_pos (x : Int) : 0 ≤ poolF x := by
  unfold poolF
  exact Int.fmod_nonneg_of_pos _ ten80pos
theorem four_cells {cs : List Addr} (h : cs.length = 4) : ∃ a b c d, cs = [a, b, c, d] := by
  refine o_EE (List.exists_cons_of_length_eq_add_one h) fun a t e93 => ?_; subst e93
  refine o_EEE (len3 (Nat.succ.inj h)) fun b c d e94 => ?_; subst e94
  exact (i_EEEE a b c d rfl)
theorem Bn.updL {pl P : Addr} {vs : Mm} {ys : List Int} {Gi : GH} (B : Bn G pl P cs vs ys Gi) {a : Addr} {xs : List Value} {o : GO} (h0 : G a = none) (h : Gi a = some (.list xs)) (hpl : a ≠ pl) : Bn G pl P cs vs ys (Gi.set a o) :=
  ⟨fun x g' h1 h2 e => set_ne_of (B.R x g' h1 h2 e) (by rintro rfl; wide_line with h0 using e), set_ne_of B.pool hpl.symm, B.pos, set_ne_of B.tab (ne_kind B.tab h (by simp)), fun i c v h1 h2 => set_ne_of (B.cel i c v h1 h2) (ne_kind (B.cel i c v h1 h2) h (by simp)), B.fr, B.nd⟩
theorem seta_kind (F : Facts W) {a : Addr} {d d' : Inf} {z : Str} {K : GH → Prop} (h : G a = some (infoO d)) (he : { d with kind := z } = d') (k : K (G.set a (infoO d'))) : setaG W (.ref a) 9 (.str z 0) G K := by
  subst he
  refine seta_ h F.c_Info rfl (Nat.le_of_ble_eq_true rfl) ?_
  exact k
theorem law_ (H1 : Facts1 W P1 P2) {sc : Addr} {us : Array Value} {ns : List Int} (hus : W.B.IsList sc us) (hns : us.toList.map er = ns.map vInt) (hz : us.size ≤ sizeLine) (hP1 : G P1 = some (.raw (tabObj #[]))) (hP2 : G P2 = some (.raw (tabObj #[]))) (hPP : P1 ≠ P2)
    (k : ∀ G', Tab G' P1 → Tab G' P2 → K (.bool true) G') : CallC W (n + 100) (.ref a_law) [.ref sc] G K := by
  have F := H1.F
  refine o_EE F.O fun mg mb O => ?_
  refine callT_cel (n := n + 99) O H1.f_law rfl (by simp [sp_law]) fun cs hl hn hf => ?_
  refine o_EEEE (four_cells hl) fun c0 c1 c2 c3 e95 => ?_; subst e95
  simp only [b_law, sp_law]
  have hS := sub_setCs (vs := srcM [none, none, none, none] [.ref sc]) hn hf
  walk_at "open_"
  have hS : Sub G (setCs G [c0, c1, c2, c3] [none, none, none, none]) := hS
  have z : ∀ (i : Nat) c v, [c0, c1, c2, c3][i]? = some c → ([none, none, none, none] : Mm)[i]? = some v → setCs G [c0, c1, c2, c3] [none, none, none, none] c = some (.cell v) := fun i c v h1 h2 => setCs_at hn h1 h2
  generalize setCs G [c0, c1, c2, c3] [none, none, none, none] = G0 at *
  refine slice_base_ok (lo := none) (hi := some 24) hus hz rfl rfl ?_
  (wide_line using hns; wide_open with cut_ints)
  intro sl hsl
  have s1 := sub_set (o := .list (((ns.take ((some 24).getD ns.length)).drop ((none : Option Nat).getD 0)).map vInt)) hsl
  refine iter_list (GH.set_self _ _ _) ⟨by simp [small]; (first | exact lqA (by lia) (by lia) | exact lqB (by lia) | exact lqD (by lia) | lia), ?_⟩
  refine comp_map (fun v => match v with | .int j _ => vInt (poolF j) | v => v) (GH.set_self _ _ _) _ [] (fun y hy kk => ?_) ?_
  · refine o_EA (List.mem_map.mp hy) fun j hj e93 => ?_; subst e93
    intro kq
    refine ⟨trivial, abs_ok ?_⟩
    refine pow_ok (by decide) (by decide) (by decide) ?_
    refine mod_ok ten80 ?_
    exact kq
  intro pl hpl
  have e1 : ([] ++ (((ns.take ((some 24).getD ns.length)).drop ((none : Option Nat).getD 0)).map vInt).map fun v => match v with | .int j _ => vInt (poolF j) | v => v) = ((ns.take 24).map poolF).map vInt := by simp only [List.nil_append, List.map_map, Option.getD_none, Option.getD_some, List.drop_zero]; rfl
  rw [e1] at *
  have s2 := s1.trans (sub_set (o := .list (((ns.take 24).map poolF).map vInt)) hpl)
  have B : Bn G pl P1 [c0, c1, c2, c3] [none, none, none, none] ((ns.take 24).map poolF) ((G0.set sl (.list (((ns.take ((some 24).getD ns.length)).drop ((none : Option Nat).getD 0)).map vInt))).set pl (.list (((ns.take 24).map poolF).map vInt))) :=
    ⟨fun a g z9 z9 h => s2 _ _ (hS a g h), GH.set_self _ _ _, fun y hy => by obtain ⟨x, _, rfl⟩ := List.mem_map.mp hy; exact poolF_pos x, s2 _ _ (hS _ _ hP1), fun i c v h1 h2 => s2 _ _ (z i c v h1 h2), hf, hn⟩
  refine (i_EEAA c0 _ rfl (B.cel 0 c0 none rfl rfl) ?_)
  have plG : G pl = none := by
    have := none_of_sub s1 hpl
    exact none_of_sub hS this
  replace B := B.set (i := 0) (c := c0) (u := none) rfl rfl (some (.ref pl))
  simp only [List.set_cons_zero, List.set_cons_succ] at B
  generalize (((G0.set sl (.list (((ns.take ((some 24).getD ns.length)).drop ((none : Option Nat).getD 0)).map vInt))).set pl (.list (((ns.take 24).map poolF).map vInt)))).set c0 (.cell (some (.ref pl))) = G1 at *
  clear s1 s2 e1 z hS hsl hpl
  generalize (ns.take 24).map poolF = ys at *
  refine cell_ok (B.cel 0 c0 _ rfl rfl) ?_
  refine ⟨keep_fn F.k__law_take, CallC.T (take_ F (m := 6) B.pool B.pos (by decide) (by decide) fun cnt zs hcnt hzs => ?_)⟩
  replace B := B.take hzs
  generalize G1.set pl (.list (zs.map vInt)) = G2 at *
  refine ⟨trivial, range1_ok ?_⟩
  intro rg hrg
  replace B := B.sub (sub_set (o := .range 0 cnt) hrg)
  refine iter_range (GH.set_self _ _ _) (by lia) ⟨by simp [small]; (first | exact lqA (by lia) (by lia) | exact lqB (by lia) | exact lqD (by lia) | lia), ?_⟩
  generalize G2.set rg (.range 0 cnt) = G3 at *
  clear hrg
  refine comp_inv (fun xs acc G' => ∃ (j : Nat) (ts : List Addr) (avs : List (Nat × Nat)) (ws : List Int), xs = ((List.range cnt).map fun (j : Nat) => Value.int (j : Int) 0).drop j ∧ j ≤ cnt ∧ acc = refs ts ∧ All2 (fun t (q : Nat × Nat) => G' t = some (.tup [.int q.1 0, .int q.2 0])) ts avs ∧
    avs.length = j ∧ (∀ q ∈ avs, q.2 ≤ 8) ∧ Bn G pl P1 [c0, c1, c2, c3] [some (Value.ref pl), none, none, none] ws G') (fun z9 z9 z9 z9 => trivial) ?_ ?_ _ _ _ (i_EEEEAAAAAA 0 ([]) ([]) zs rfl (Nat.zero_le _) rfl .nil rfl (fun q hq => by cases hq) B)
  rotate_left
  · intro x xs acc G' Kc nxt hx9; refine o_EEEEAAAAAA hx9 fun j ts avs ws e hj e97 ha hal hav B' => ?_; try clear hx9; subst e97
    have hjl : j < cnt := by
      rcases Nat.lt_or_ge j cnt with h | h
      · exact h
      · wide_line with List.drop_eq_nil_of_le (by simpa using h) using e
    rw [List.drop_eq_getElem_cons (by simpa using hjl)] at e
    simp only [List.cons.injEq] at e
    obtain ⟨rfl, rfl⟩ := e
    refine cell_ok (B'.cel 0 c0 _ rfl rfl) ?_
    refine ⟨keep_fn F.k__law_take, CallC.T (take_ F (m := 5) B'.pool B'.pos (by decide) (by decide) fun i5 z1 hi5 hz1 => ?_)⟩
    have B2 := B'.take hz1
    have ha2 := ha.imp fun t (q : Nat × Nat) (h : G' t = some (.tup [.int q.1 0, .int q.2 0])) => set_ne_of (o := .list (z1.map vInt)) h (ne_kind h B'.pool (by simp))
    refine cell_ok (B2.cel 0 c0 _ rfl rfl) ?_
    refine ⟨keep_fn F.k__law_take, CallC.T (take_ F (m := 9) B2.pool B2.pos (by decide) (by decide) fun n9 z2 hn9 hz2 => ?_)⟩
    have B3 := B2.take hz2
    have ha3 := ha2.imp fun t (q : Nat × Nat) (h : (G'.set pl (.list (z1.map vInt))) t = some (.tup [.int q.1 0, .int q.2 0])) => set_ne_of (o := .list (z2.map vInt)) h (ne_kind h B2.pool (by simp))
    intro tp htp
    have s3 := sub_set (o := .tup [.int i5 0, .int n9 0]) htp
    refine nxt (some _) _ (i_EEEEAAAAAA (j + 1) (ts ++ [tp]) (avs ++ [(i5, n9)]) z2 rfl hjl (by simp [refs]) ((ha3.imp fun t (q : Nat × Nat) (h : ((G'.set pl (.list (z1.map vInt))).set pl (.list (z2.map vInt))) t = some (.tup [.int q.1 0, .int q.2 0])) => s3 _ _ h).snoc (GH.set_self _ _ _)) (by simp [hal]) (fun q hq => ?_) (B3.sub s3))
    rcases List.mem_append.mp hq with hq | hq
    · exact hav q hq
    · wide_open with List.mem_singleton.mp hq; refine (?_ : n9 ≤ 8); lia
  intro acc G4 hx9; refine o_EEEEAAAAAA hx9 fun j ts avs ws e hj e97 ha hal hav B' => ?_; try clear hx9; subst e97
  replace B := B'
  clear B' e
  intro w hw
  have s3 := sub_set (o := .list (refs ts)) hw
  have hwpl : w ≠ pl := by rintro rfl; wide_line with B.pool using hw
  have Ww := GH.set_self G4 w (.list (refs ts))
  replace ha := ha.imp fun t (q : Nat × Nat) (h : G4 t = some (.tup [.int q.1 0, .int q.2 0])) => s3 _ _ h
  replace B := B.sub s3
  generalize G4.set w (.list (refs ts)) = G5 at *
  clear s3 hw
  -- five draws
  refine cell_ok (B.cel 0 c0 _ rfl rfl) ?_
  refine ⟨keep_fn F.k__law_take, CallC.T (take_ F (m := 3) B.pool B.pos (by decide) (by decide) fun bk z3 hbk hz3 => ?_)⟩
  replace ha := ha.imp fun t (q : Nat × Nat) (h : G5 t = some (.tup [.int q.1 0, .int q.2 0])) => set_ne_of (o := .list (z3.map vInt)) h (ne_kind h B.pool (by simp))
  replace Ww := set_ne_of (o := .list (z3.map vInt)) Ww hwpl
  replace B := B.take hz3
  generalize G5.set pl (.list (z3.map vInt)) = G6 at *
  refine cell_ok (B.cel 0 c0 _ rfl rfl) ?_
  refine ⟨keep_fn F.k__law_take, CallC.T (take_ F (m := 4) B.pool B.pos (by decide) (by decide) fun in0 z4 hin0 hz4 => ?_)⟩
  replace ha := ha.imp fun t (q : Nat × Nat) (h : G6 t = some (.tup [.int q.1 0, .int q.2 0])) => set_ne_of (o := .list (z4.map vInt)) h (ne_kind h B.pool (by simp))
  replace Ww := set_ne_of (o := .list (z4.map vInt)) Ww hwpl
  replace B := B.take hz4
  generalize G6.set pl (.list (z4.map vInt)) = G7 at *
  refine add_ok ?_
  refine cell_ok (B.cel 0 c0 _ rfl rfl) ?_
  refine ⟨keep_fn F.k__law_take, CallC.T (take_ F (m := 3) B.pool B.pos (by decide) (by decide) fun ah z5 hah hz5 => ?_)⟩
  replace ha := ha.imp fun t (q : Nat × Nat) (h : G7 t = some (.tup [.int q.1 0, .int q.2 0])) => set_ne_of (o := .list (z5.map vInt)) h (ne_kind h B.pool (by simp))
  replace Ww := set_ne_of (o := .list (z5.map vInt)) Ww hwpl
  replace B := B.take hz5
  generalize G7.set pl (.list (z5.map vInt)) = G8 at *
  refine cell_ok (B.cel 0 c0 _ rfl rfl) ?_
  refine ⟨keep_fn F.k__law_take, CallC.T (take_ F (m := 3) B.pool B.pos (by decide) (by decide) fun mo z6 hmo hz6 => ?_)⟩
  replace ha := ha.imp fun t (q : Nat × Nat) (h : G8 t = some (.tup [.int q.1 0, .int q.2 0])) => set_ne_of (o := .list (z6.map vInt)) h (ne_kind h B.pool (by simp))
  replace Ww := set_ne_of (o := .list (z6.map vInt)) Ww hwpl
  replace B := B.take hz6
  generalize G8.set pl (.list (z6.map vInt)) = G9 at *
  refine cell_ok (B.cel 0 c0 _ rfl rfl) ?_
  refine ⟨keep_fn F.k__law_take, CallC.T (take_ F (m := 3) B.pool B.pos (by decide) (by decide) fun dp0 z7 hdp hz7 => ?_)⟩
  replace ha := ha.imp fun t (q : Nat × Nat) (h : G9 t = some (.tup [.int q.1 0, .int q.2 0])) => set_ne_of (o := .list (z7.map vInt)) h (ne_kind h B.pool (by simp))
  replace Ww := set_ne_of (o := .list (z7.map vInt)) Ww hwpl
  replace B := B.take hz7
  generalize G9.set pl (.list (z7.map vInt)) = G10 at *
  refine add_ok ?_
  -- the coverage
  intro l1 hl1
  have s1 := sub_set (o := .list [.int 1 0, .int 90 0]) hl1
  refine ⟨keep_fn F.k_coverage_of, CallC.T (coverage_of_ (n := n + 96) F (l := l1) (ns := [1, 90]) (GH.set_self _ _ _) (by simp) fun cv ms G11 sc hcv0 hcov hsort hmem => ?_)⟩
  have S := s1.trans sc
  replace ha := ha.imp fun t (q : Nat × Nat) (h : G10 t = some (.tup [.int q.1 0, .int q.2 0])) => S _ _ h
  replace Ww := S _ _ Ww
  replace B := B.sub S
  clear s1 sc S hl1 hcv0
  intro ia hia
  have ia0 := B.fresh hia
  have s1 := sub_set (o := .list []) hia
  have Ia := GH.set_self G11 ia (.list [])
  intro sa hsa
  have sa0 := B.fresh (none_of_sub s1 hsa)
  have s2 := sub_set (o := .list []) hsa
  have hias : ia ≠ sa := by rintro rfl; wide_line with GH.set_self using hsa
  replace Ia := s2 _ _ Ia
  have Sa := GH.set_self (G11.set ia (.list [])) sa (.list [])
  have iapl : ia ≠ pl := by rintro rfl; wide_line with B.pool using hia
  have sapl : sa ≠ pl := by rintro rfl; wide_line with s1 _ _ B.pool using hsa
  have iaw : w ≠ ia := by rintro rfl; wide_line with Ww using hia
  have saw : w ≠ sa := by rintro rfl; wide_line with s1 _ _ Ww using hsa
  have S := s1.trans s2
  replace B := B.sub S
  replace Ww := S _ _ Ww
  replace ha := ha.imp fun t (q : Nat × Nat) (h : G11 t = some (.tup [.int q.1 0, .int q.2 0])) => S _ _ h
  replace hcov := hcov.sub S
  refine (i_EEAA c1 _ rfl (B.cel 1 c1 none rfl rfl) ?_)
  have hc := B.cel 1 c1 none rfl rfl
  replace Ia := cellk (o := .cell (some (.ref sa))) Ia hc rfl
  replace Sa := cellk (o := .cell (some (.ref sa))) Sa hc rfl
  replace Ww := cellk (o := .cell (some (.ref sa))) Ww hc rfl
  replace ha := ha.imp fun t (q : Nat × Nat) (h : ((G11.set ia (.list [])).set sa (.list [])) t = some (.tup [.int q.1 0, .int q.2 0])) => cellk (o := .cell (some (.ref sa))) h hc rfl
  replace hcov := hcov.kf (kf_cell (o := .cell (some (.ref sa))) hc)
  replace B := B.set (i := 1) (c := c1) (u := none) rfl rfl (some (.ref sa))
  simp only [List.set_cons_zero, List.set_cons_succ] at B
  clear hc s1 s2 S hia hsa
  generalize ((G11.set ia (.list [])).set sa (.list [])).set c1 (.cell (some (.ref sa))) = G12 at *
  walk_at "open_"
  refine add_ok ?_
  refine add_ok ?_
  refine add_ok ?_
  wide_open with (show ((bk : Int) + (1 + (in0 : Int)) + (ah : Int) + (mo : Int)) = ((bk + (1 + in0) + ah + mo : Nat) : Int) by push_cast; rfl)
  generalize hN : bk + (1 + in0) + ah + mo = N
  refine ⟨trivial, range1_ok ?_⟩
  intro rg2 hrg2
  have s1 := sub_set (o := .range 0 N) hrg2
  replace B := B.sub s1
  replace Ww := s1 _ _ Ww
  replace Ia := s1 _ _ Ia
  replace Sa := s1 _ _ Sa
  replace ha := ha.imp fun t (q : Nat × Nat) (h : G12 t = some (.tup [.int q.1 0, .int q.2 0])) => s1 _ _ h
  replace hcov := hcov.sub s1
  refine iter_range (GH.set_self _ _ _) (by lia) ?_
  generalize G12.set rg2 (.range 0 N) = G13 at *
  clear s1 hrg2
  refine for_inv (fun ys' m G' => ∃ (j : Nat) (as : List Addr) (bs : List Bool) (ws : List Int) (x : Option Value), ys' = ((List.range N).map fun (j : Nat) => Value.int (j : Int) 0).drop j ∧ j ≤ N ∧
      m = [some (.ref sc), x, some (.ref w), some (.int bk 0), some (.int (1 + in0) 0), some (.int ah 0), some (.int mo 0), some (.int (4 + dp0) 0), some (.ref cv), some (.ref ia), none, none, none, none, none, none, none, none, none, none, none, none, none, none, none] ∧
      G' ia = some (.list (refs as)) ∧ as.Nodup ∧ as.length = bs.length ∧ (∀ (i : Nat) a b, as[i]? = some a → bs[i]? = some b → G' a = some (infoO (infB 0 i b))) ∧ G' sa = some (.list ((spotsOf bs).map fun (j : Nat) => Value.int (j : Int) 0)) ∧ (spotsOf bs).length = j ∧ bs.length ≤ 2 * j ∧
      (0 < j → bs[0]? = some true) ∧ Bn G pl P1 [c0, c1, c2, c3] [some (Value.ref pl), some (.ref sa), none, none] ws G' ∧ G' w = some (.list (refs ts)) ∧ All2 (fun t (q : Nat × Nat) => G' t = some (.tup [.int q.1 0, .int q.2 0])) ts avs ∧ CovAt G' cv ms) (fun z9 z9 z9 z9 => trivial) ?_ ?_ _ _ _
    (i_EEEEEAAAAAAAAAAAAAA 0 ([]) ([]) z7 none rfl (Nat.zero_le _) rfl Ia List.nodup_nil rfl (fun i a b h => by simp at h) Sa rfl (Nat.le_refl _) (fun h => absurd h (by decide)) B Ww ha hcov)
  · intro m G' hx9; refine o_EEEEEAAAAAAAAAAAAAA hx9 fun j as bs ws x e hj e98 q1 q2 q3 q4 q5 q6 q7 q8 q9 qa qb qc => ?_; try clear hx9; subst e98
    have hjN : j = N := by
      have := List.drop_eq_nil_iff.mp e.symm
      simp at this; lia
    subst hjN
    clear e hj
    have hend := law_set H1 hPP (sc := sc) (x := x) (n := n) hP2 plG ia0 sa0 hias iapl sapl iaw saw hwpl hbk hin0 hah hmo hdp hav (by lia) hsort hmem q1 q2 q3 q4 q5 (by lia) (by lia) (q8 (by lia)) q9 qa qb qc k
    revert hend
    dsimp only [b_law, ndropS, ndrop0]
    walk_at "open_"
    intro hend
    exact hend
  · intro y ys' m G' Kn nxt nxc nxr hx9; refine o_EEEEEAAAAAAAAAAAAAA hx9 fun j as bs ws x e hj e98 q1 q2 q3 q4 q5 q6 q7 q8 q9 qa qb qc => ?_; try clear hx9; subst e98
    have hjl : j < N := by
      rcases Nat.lt_or_ge j N with h | h
      · exact h
      · wide_line with List.drop_eq_nil_of_le (by simpa using h) using e
    rw [List.drop_eq_getElem_cons (by simpa using hjl)] at e
    simp only [List.cons.injEq] at e
    obtain ⟨rfl, rfl⟩ := e
    have hjN : ((List.range N).map fun (j : Nat) => Value.int (j : Int) 0)[j]'(by simpa using hjl) = .int (j : Int) 0 := by simp
    wide_open with hjN
    walk_at "open_"
    have d7 : (0 < j → bs[0]? = some true) := q8
    have d9 : j = 0 → bs = [] := fun h => List.length_eq_zero_iff.mp (by lia)
    refine cmpI_ok rfl ?_
    by_cases b1 : (0 : Int) < (j : Int)
    · wide_open with decide_eq_true b1
      walk_at "open_"
      refine add_ok ?_
      refine add_ok ?_
      refine cmpI_ok rfl ?_
      by_cases b2 : (j : Int) < (bk : Int) + (1 + (in0 : Int)) + (ah : Int)
      · rw [decide_eq_true b2]
        walk_at "open_"
        refine cell_ok (q9.cel 0 c0 _ rfl rfl) ?_
        refine ⟨keep_fn F.k__law_take, CallC.T (take_ F (m := 3) q9.pool q9.pos (by decide) (by decide) fun dg ws2 hdg hws2 => ?_)⟩
        have r4 := fun (i : Nat) a b (x1 : as[i]? = some a) (x2 : bs[i]? = some b) => set_ne_of (o := .list (ws2.map vInt)) (q4 i a b x1 x2) (ne_kind (q4 i a b x1 x2) q9.pool (by unfold infoO; simp))
        have r1 := set_ne_of (o := .list (ws2.map vInt)) q1 iapl
        have r5 := set_ne_of (o := .list (ws2.map vInt)) q5 sapl
        have rw_ := set_ne_of (o := .list (ws2.map vInt)) qa hwpl
        have ra := qb.imp fun t (q : Nat × Nat) (h : G' t = some (.tup [.int q.1 0, .int q.2 0])) => set_ne_of (o := .list (ws2.map vInt)) h (ne_kind h q9.pool (by simp))
        have rc := qc.kf (G' := G'.set pl (.list (ws2.map vInt))) fun x g hg h => set_ne_of h (ne_kind h q9.pool (by rintro rfl; wide_open using hg))
        have rB := q9.take hws2
        generalize G'.set pl (.list (ws2.map vInt)) = G2 at *
        refine cmpI_ok rfl ?_
        by_cases b3 : (dg : Int) = 1
        · wide_open with decide_eq_true b3
          walk_at "open_"
          refine (i_EA _ (meth_append F r1) ?_)
          refine ⟨trivial, len_list_ok r1 ?_⟩
          (wide_line using refs_length; wide_open with q3)
          refine ⟨keep_fn F.k_Info, CallC.T (new_Info (n := n + 97) F ?_)⟩
          intro nj hnj
          have sn := sub_set (o := infoO ⟨0, 2, bs.length, 0, false, ""⟩) hnj
          have hnjG := rB.fresh hnj
          have hnew := GH.set_self G2 nj (infoO ⟨0, 2, bs.length, 0, false, ""⟩)
          refine ⟨trivial, append_ok (sn _ _ r1) (by simp [small, refs]; lia) ?_⟩
          have hnin : nj ∉ as := fun hm => by
            obtain ⟨i, hi⟩ := List.mem_iff_getElem?.mp hm
            obtain ⟨b, hb⟩ : ∃ b, bs[i]? = some b := ⟨_, List.getElem?_eq_getElem (by have := (List.getElem?_eq_some_iff.mp hi).1; lia)⟩
            wide_line with r4 i nj b hi hb using hnj
          have u1 := GH.set_self (G2.set nj (infoO ⟨0, 2, bs.length, 0, false, ""⟩)) ia (.list (refs as ++ [.ref nj]))
          have un := set_ne_of (o := .list (refs as ++ [.ref nj])) hnew (ne_kind hnew (sn _ _ r1) (by unfold infoO; simp))
          have u4 := fun (i : Nat) a b (x1 : as[i]? = some a) (x2 : bs[i]? = some b) => set_ne_of (o := .list (refs as ++ [.ref nj])) (sn _ _ (r4 i a b x1 x2)) (ne_kind (sn _ _ (r4 i a b x1 x2)) (sn _ _ r1) (by unfold infoO; simp))
          have u5 := set_ne_of (o := .list (refs as ++ [.ref nj])) (sn _ _ r5) hias.symm
          have uw := set_ne_of (o := .list (refs as ++ [.ref nj])) (sn _ _ rw_) iaw
          have ua := ra.imp fun t (q : Nat × Nat) (h : G2 t = some (.tup [.int q.1 0, .int q.2 0])) => set_ne_of (o := .list (refs as ++ [.ref nj])) (sn _ _ h) (ne_kind (sn _ _ h) (sn _ _ r1) (by simp))
          have uc := (rc.sub sn).kf (G' := (G2.set nj (infoO ⟨0, 2, bs.length, 0, false, ""⟩)).set ia (.list (refs as ++ [.ref nj]))) fun x g hg h => set_ne_of h (ne_kind h (sn _ _ r1) (by rintro rfl; wide_open using hg))
          have uB := (rB.sub sn).updL (o := .list (refs as ++ [.ref nj])) ia0 (sn _ _ r1) iapl
          generalize (G2.set nj (infoO ⟨0, 2, bs.length, 0, false, ""⟩)).set ia (.list (refs as ++ [.ref nj])) = G5 at *
          clear sn r1 r4 r5 rw_ ra rc rB hnew hnj
          walk_at "open_"
          refine neg_ ?_
          refine sub_list u1 pick_last ?_
          refine seta_kind F (d' := infB 0 bs.length false) un rfl ?_
          have hset : ∀ (KK : GH → Prop), KK (G5.set nj (infoO (infB 0 bs.length false))) → KK (G5.set nj (infoO (infB 0 bs.length false))) := fun z9 h => h
          clear hset
          have v1 := set_ne_of (o := infoO (infB 0 bs.length false)) u1 (ne_kind u1 un (by unfold infoO; simp))
          have v4 := fun (i : Nat) a b (x1 : as[i]? = some a) (x2 : bs[i]? = some b) => set_ne_of (o := infoO (infB 0 bs.length false)) (b := nj) (u4 i a b x1 x2) (fun e => hnin (e ▸ List.mem_of_getElem? x1))
          have vn := GH.set_self G5 nj (infoO (infB 0 bs.length false))
          have v5 := set_ne_of (o := infoO (infB 0 bs.length false)) u5 (ne_kind u5 un (by unfold infoO; simp))
          have vw := set_ne_of (o := infoO (infB 0 bs.length false)) uw (ne_kind uw un (by unfold infoO; simp))
          have va := ua.imp fun t (q : Nat × Nat) (h : G5 t = some (.tup [.int q.1 0, .int q.2 0])) => set_ne_of (o := infoO (infB 0 bs.length false)) h (ne_kind h un (by unfold infoO; simp))
          have vB := uB.upd (o := infoO (infB 0 bs.length false)) hnjG un rfl
          refine o_EA uc fun tt y1 y2 => ?_; try clear uc
          have vc : CovAt (G5.set nj (infoO (infB 0 bs.length false))) cv ms := (i_EA tt (set_ne_of y1 (ne_kind y1 un (by unfold infoO; intro h; wide_open using h))) (set_ne_of y2 (ne_kind y2 un (by unfold infoO; simp))))
          have t1 : (G5.set nj (infoO (infB 0 bs.length false))) ia = some (.list (refs (as ++ [nj]))) := by wide_open with v1; simp [refs]
          have t2 : (as ++ [nj]).Nodup := List.nodup_append.mpr (i_AA q2 (by simp) (fun a ha b hb => by wide_open with List.mem_singleton.mp hb; rintro rfl; exact hnin ha))
          have t3 : (as ++ [nj]).length = (bs ++ [false]).length := by simp [q3]
          have t4 : ∀ (i : Nat) a b, (as ++ [nj])[i]? = some a → (bs ++ [false])[i]? = some b → (G5.set nj (infoO (infB 0 bs.length false))) a = some (infoO (infB 0 i b)) := fun i a b x1 x2 => by
            rcases Nat.lt_or_ge i as.length with z | z
            · rw [List.getElem?_append_left z] at x1
              rw [List.getElem?_append_left (by lia)] at x2
              exact v4 i a b x1 x2
            · have hil := (List.getElem?_eq_some_iff.mp x1).1
              have : i = as.length := by simp at hil; lia
              subst this
              rw [List.getElem?_append_right (Nat.le_refl _), Nat.sub_self] at x1
              rw [q3, List.getElem?_append_right (Nat.le_refl _), Nat.sub_self] at x2
              wide_open using x1; wide_open using x2
              wide_open with q3; exact vn
          have t5 : (G5.set nj (infoO (infB 0 bs.length false))) sa = some (.list ((spotsOf (bs ++ [false])).map fun (j : Nat) => Value.int (j : Int) 0)) := by (wide_line using v5; wide_open with spots_snoc); simp
          have t6 : (spotsOf (bs ++ [false])).length = j := by wide_open with spots_snoc; simp [q6]
          have t7 : (bs ++ [false]).length ≤ 2 * j + 1 := by simp; lia
          have t8 : 0 < j → (bs ++ [false])[0]? = some true := fun z => by
            have := d7 z
            wide_open with List.getElem?_append_left (List.getElem?_eq_some_iff.mp this).1; exact this
          have t9 : j = 0 → bs ++ [false] = [] := fun z => by lia
          have tB := vB; have tw := vw; have ta := va; have tc := vc
          clear q1 q2 q3 q4 q5 q6 q7 q8 q9 qa qb qc d7 d9 u1 un u4 u5 uw ua uB v1 v4 vn v5 vw va vB vc y1 y2
          generalize hG2 : G5.set nj (infoO (infB 0 bs.length false)) = G2 at *
          generalize as ++ [nj] = as2 at *
          generalize bs ++ [false] = bs2 at *
          refine cell_ok (tB.cel 1 c1 _ rfl rfl) ?_
          refine (i_EA _ (meth_append F t5) ?_)
          refine ⟨trivial, len_list_ok t1 ?_⟩
          refine ⟨trivial, append_ok t5 (by simp [small]; (first | exact lqA (by lia) (by lia) | exact lqB (by lia) | exact lqD (by lia) | lia)) ?_⟩
          (wide_line using refs_length; wide_open with t3)
          replace t1 := set_ne_of (o := .list (((spotsOf bs2).map fun (j : Nat) => Value.int (j : Int) 0) ++ [.int (bs2.length : Int) 0])) t1 hias
          replace t4 := fun (i : Nat) a b (x1 : as2[i]? = some a) (x2 : bs2[i]? = some b) => set_ne_of (o := .list (((spotsOf bs2).map fun (j : Nat) => Value.int (j : Int) 0) ++ [.int (bs2.length : Int) 0])) (t4 i a b x1 x2) (ne_kind (t4 i a b x1 x2) t5 (by unfold infoO; simp))
          replace tw := set_ne_of (o := .list (((spotsOf bs2).map fun (j : Nat) => Value.int (j : Int) 0) ++ [.int (bs2.length : Int) 0])) tw saw
          replace ta := ta.imp fun t (q : Nat × Nat) (h : G2 t = some (.tup [.int q.1 0, .int q.2 0])) => set_ne_of (o := .list (((spotsOf bs2).map fun (j : Nat) => Value.int (j : Int) 0) ++ [.int (bs2.length : Int) 0])) h (ne_kind h t5 (by simp))
          replace tc := tc.kf (G' := G2.set sa (.list (((spotsOf bs2).map fun (j : Nat) => Value.int (j : Int) 0) ++ [.int (bs2.length : Int) 0]))) fun x g hg h => set_ne_of h (ne_kind h t5 (by rintro rfl; wide_open using hg))
          replace tB := tB.updL (o := .list (((spotsOf bs2).map fun (j : Nat) => Value.int (j : Int) 0) ++ [.int (bs2.length : Int) 0])) sa0 t5 sapl
          replace t5 := GH.set_self G2 sa (.list (((spotsOf bs2).map fun (j : Nat) => Value.int (j : Int) 0) ++ [.int (bs2.length : Int) 0]))
          generalize G2.set sa (.list (((spotsOf bs2).map fun (j : Nat) => Value.int (j : Int) 0) ++ [.int (bs2.length : Int) 0])) = G4 at *
          refine (i_EA _ (meth_append F t1) ?_)
          refine ⟨trivial, len_list_ok t1 ?_⟩
          (wide_line using refs_length; wide_open with t3)
          refine ⟨keep_fn F.k_Info, CallC.T (new_Info (n := n + 97) F ?_)⟩
          intro nf hnf
          have sn := sub_set (o := infoO ⟨0, 1, bs2.length, 0, false, ""⟩) hnf
          have hnfG := tB.fresh hnf
          have hnew := GH.set_self G4 nf (infoO ⟨0, 1, bs2.length, 0, false, ""⟩)
          refine ⟨trivial, append_ok (sn _ _ t1) (by simp [small, refs]; lia) ?_⟩
          have hnin : nf ∉ as2 := fun hm => by
            obtain ⟨i, hi⟩ := List.mem_iff_getElem?.mp hm
            obtain ⟨b, hb⟩ : ∃ b, bs2[i]? = some b := ⟨_, List.getElem?_eq_getElem (by have := (List.getElem?_eq_some_iff.mp hi).1; lia)⟩
            wide_line with t4 i nf b hi hb using hnf
          refine nxt _ _ (i_EEEEEAAAAAAAAAAAAAA (j + 1) (as2 ++ [nf]) (bs2 ++ [true]) ws2 _ rfl hjl rfl (by wide_open with GH.set_self; simp [refs]) ?_ (by simp [t3]) (fun i a b x1 x2 => ?_) ?_ (by wide_open with spots_snoc; simp [t6]) (by simp; lia) (fun z9 => ?_) ((tB.sub sn).updL ia0 (sn _ _ t1) iapl) (set_ne_of (sn _ _ tw) iaw) (ta.imp fun t (q : Nat × Nat) (h : G4 t = some (.tup [.int q.1 0, .int q.2 0])) => set_ne_of (sn _ _ h) (ne_kind (sn _ _ h) (sn _ _ t1) (by simp))) ((tc.sub sn).kf fun x g hg h => set_ne_of h (ne_kind h (sn _ _ t1) (by rintro rfl; wide_open using hg))))
          · exact List.nodup_append.mpr (i_AA t2 (by simp) (fun a ha b hb => by wide_open with List.mem_singleton.mp hb; rintro rfl; exact hnin ha))
          · rcases Nat.lt_or_ge i as2.length with z | z
            · rw [List.getElem?_append_left z] at x1
              rw [List.getElem?_append_left (by lia)] at x2
              exact set_ne_of (sn _ _ (t4 i a b x1 x2)) (ne_kind (sn _ _ (t4 i a b x1 x2)) (sn _ _ t1) (by unfold infoO; simp))
            · have hil := (List.getElem?_eq_some_iff.mp x1).1
              have : i = as2.length := by simp at hil; lia
              subst this
              rw [List.getElem?_append_right (Nat.le_refl _), Nat.sub_self] at x1
              rw [t3, List.getElem?_append_right (Nat.le_refl _), Nat.sub_self] at x2
              wide_open using x1; wide_open using x2
              wide_open with t3
              exact set_ne_of hnew (ne_kind hnew (sn _ _ t1) (by unfold infoO; simp))
          · (wide_line using set_ne_of (sn _ _ t5) hias.symm; wide_open with spots_snoc); simp
          · rcases Nat.eq_zero_or_pos j with z | z
            · wide_open with t9 z; rfl
            · have := t8 z
              wide_open with List.getElem?_append_left (List.getElem?_eq_some_iff.mp this).1; exact this
        · wide_open with decide_eq_false b3
          walk_at "open_"
          obtain ⟨as2, has2⟩ : ∃ as2, as2 = as := ⟨_, rfl⟩
          obtain ⟨bs2, hbs2⟩ : ∃ bs2, bs2 = bs := ⟨_, rfl⟩
          rw [← has2] at r1 q2 q3 r4
          rw [← hbs2] at q3 r4 r5 q6 q7 d7 d9
          have t1 := r1; have t2 := q2; have t3 := q3; have t4 := r4; have t5 := r5; have t6 := q6; have t7 : bs2.length ≤ 2 * j + 1 := by lia
          have t8 := d7; have t9 := d9; have tB := rB; have tw := rw_; have ta := ra; have tc := rc
          clear r1 q2 q3 r4 r5 q6 q7 d7 d9 rB rw_ ra rc q1 q4 q5 q8 q9 qa qb qc
          refine cell_ok (tB.cel 1 c1 _ rfl rfl) ?_
          refine (i_EA _ (meth_append F t5) ?_)
          refine ⟨trivial, len_list_ok t1 ?_⟩
          refine ⟨trivial, append_ok t5 (by simp [small]; (first | exact lqA (by lia) (by lia) | exact lqB (by lia) | exact lqD (by lia) | lia)) ?_⟩
          (wide_line using refs_length; wide_open with t3)
          replace t1 := set_ne_of (o := .list (((spotsOf bs2).map fun (j : Nat) => Value.int (j : Int) 0) ++ [.int (bs2.length : Int) 0])) t1 hias
          replace t4 := fun (i : Nat) a b (x1 : as2[i]? = some a) (x2 : bs2[i]? = some b) => set_ne_of (o := .list (((spotsOf bs2).map fun (j : Nat) => Value.int (j : Int) 0) ++ [.int (bs2.length : Int) 0])) (t4 i a b x1 x2) (ne_kind (t4 i a b x1 x2) t5 (by unfold infoO; simp))
          replace tw := set_ne_of (o := .list (((spotsOf bs2).map fun (j : Nat) => Value.int (j : Int) 0) ++ [.int (bs2.length : Int) 0])) tw saw
          replace ta := ta.imp fun t (q : Nat × Nat) (h : G2 t = some (.tup [.int q.1 0, .int q.2 0])) => set_ne_of (o := .list (((spotsOf bs2).map fun (j : Nat) => Value.int (j : Int) 0) ++ [.int (bs2.length : Int) 0])) h (ne_kind h t5 (by simp))
          replace tc := tc.kf (G' := G2.set sa (.list (((spotsOf bs2).map fun (j : Nat) => Value.int (j : Int) 0) ++ [.int (bs2.length : Int) 0]))) fun x g hg h => set_ne_of h (ne_kind h t5 (by rintro rfl; wide_open using hg))
          replace tB := tB.updL (o := .list (((spotsOf bs2).map fun (j : Nat) => Value.int (j : Int) 0) ++ [.int (bs2.length : Int) 0])) sa0 t5 sapl
          replace t5 := GH.set_self G2 sa (.list (((spotsOf bs2).map fun (j : Nat) => Value.int (j : Int) 0) ++ [.int (bs2.length : Int) 0]))
          generalize G2.set sa (.list (((spotsOf bs2).map fun (j : Nat) => Value.int (j : Int) 0) ++ [.int (bs2.length : Int) 0])) = G4 at *
          refine (i_EA _ (meth_append F t1) ?_)
          refine ⟨trivial, len_list_ok t1 ?_⟩
          (wide_line using refs_length; wide_open with t3)
          refine ⟨keep_fn F.k_Info, CallC.T (new_Info (n := n + 97) F ?_)⟩
          intro nf hnf
          have sn := sub_set (o := infoO ⟨0, 1, bs2.length, 0, false, ""⟩) hnf
          have hnfG := tB.fresh hnf
          have hnew := GH.set_self G4 nf (infoO ⟨0, 1, bs2.length, 0, false, ""⟩)
          refine ⟨trivial, append_ok (sn _ _ t1) (by simp [small, refs]; lia) ?_⟩
          have hnin : nf ∉ as2 := fun hm => by
            obtain ⟨i, hi⟩ := List.mem_iff_getElem?.mp hm
            obtain ⟨b, hb⟩ : ∃ b, bs2[i]? = some b := ⟨_, List.getElem?_eq_getElem (by have := (List.getElem?_eq_some_iff.mp hi).1; lia)⟩
            wide_line with t4 i nf b hi hb using hnf
          refine nxt _ _ (i_EEEEEAAAAAAAAAAAAAA (j + 1) (as2 ++ [nf]) (bs2 ++ [true]) ws2 _ rfl hjl rfl (by wide_open with GH.set_self; simp [refs]) ?_ (by simp [t3]) (fun i a b x1 x2 => ?_) ?_ (by wide_open with spots_snoc; simp [t6]) (by simp; lia) (fun z9 => ?_) ((tB.sub sn).updL ia0 (sn _ _ t1) iapl) (set_ne_of (sn _ _ tw) iaw) (ta.imp fun t (q : Nat × Nat) (h : G4 t = some (.tup [.int q.1 0, .int q.2 0])) => set_ne_of (sn _ _ h) (ne_kind (sn _ _ h) (sn _ _ t1) (by simp))) ((tc.sub sn).kf fun x g hg h => set_ne_of h (ne_kind h (sn _ _ t1) (by rintro rfl; wide_open using hg))))
          · exact List.nodup_append.mpr (i_AA t2 (by simp) (fun a ha b hb => by wide_open with List.mem_singleton.mp hb; rintro rfl; exact hnin ha))
          · rcases Nat.lt_or_ge i as2.length with z | z
            · rw [List.getElem?_append_left z] at x1
              rw [List.getElem?_append_left (by lia)] at x2
              exact set_ne_of (sn _ _ (t4 i a b x1 x2)) (ne_kind (sn _ _ (t4 i a b x1 x2)) (sn _ _ t1) (by unfold infoO; simp))
            · have hil := (List.getElem?_eq_some_iff.mp x1).1
              have : i = as2.length := by simp at hil; lia
              subst this
              rw [List.getElem?_append_right (Nat.le_refl _), Nat.sub_self] at x1
              rw [t3, List.getElem?_append_right (Nat.le_refl _), Nat.sub_self] at x2
              wide_open using x1; wide_open using x2
              wide_open with t3
              exact set_ne_of hnew (ne_kind hnew (sn _ _ t1) (by unfold infoO; simp))
          · (wide_line using set_ne_of (sn _ _ t5) hias.symm; wide_open with spots_snoc); simp
          · rcases Nat.eq_zero_or_pos j with z | z
            · wide_open with t9 z; rfl
            · have := t8 z
              wide_open with List.getElem?_append_left (List.getElem?_eq_some_iff.mp this).1; exact this
      · wide_open with decide_eq_false b2
        walk_at "open_"
        have t1 := q1; have t2 := q2; have t3 := q3; have t4 := q4; have t5 := q5; have t6 := q6; have t7 : bs.length ≤ 2 * j + 1 := by lia
        have t8 := d7; have t9 := d9; have tB := q9; have tw := qa; have ta := qb; have tc := qc
        clear q1 q2 q3 q4 q5 q6 q7 q8 q9 qa qb qc d7 d9
        generalize G' = G2 at *
        generalize as = as2 at *
        generalize bs = bs2 at *
        generalize ws = ws2 at *
        refine cell_ok (tB.cel 1 c1 _ rfl rfl) ?_
        refine (i_EA _ (meth_append F t5) ?_)
        refine ⟨trivial, len_list_ok t1 ?_⟩
        refine ⟨trivial, append_ok t5 (by simp [small]; (first | exact lqA (by lia) (by lia) | exact lqB (by lia) | exact lqD (by lia) | lia)) ?_⟩
        (wide_line using refs_length; wide_open with t3)
        replace t1 := set_ne_of (o := .list (((spotsOf bs2).map fun (j : Nat) => Value.int (j : Int) 0) ++ [.int (bs2.length : Int) 0])) t1 hias
        replace t4 := fun (i : Nat) a b (x1 : as2[i]? = some a) (x2 : bs2[i]? = some b) => set_ne_of (o := .list (((spotsOf bs2).map fun (j : Nat) => Value.int (j : Int) 0) ++ [.int (bs2.length : Int) 0])) (t4 i a b x1 x2) (ne_kind (t4 i a b x1 x2) t5 (by unfold infoO; simp))
        replace tw := set_ne_of (o := .list (((spotsOf bs2).map fun (j : Nat) => Value.int (j : Int) 0) ++ [.int (bs2.length : Int) 0])) tw saw
        replace ta := ta.imp fun t (q : Nat × Nat) (h : G2 t = some (.tup [.int q.1 0, .int q.2 0])) => set_ne_of (o := .list (((spotsOf bs2).map fun (j : Nat) => Value.int (j : Int) 0) ++ [.int (bs2.length : Int) 0])) h (ne_kind h t5 (by simp))
        replace tc := tc.kf (G' := G2.set sa (.list (((spotsOf bs2).map fun (j : Nat) => Value.int (j : Int) 0) ++ [.int (bs2.length : Int) 0]))) fun x g hg h => set_ne_of h (ne_kind h t5 (by rintro rfl; wide_open using hg))
        replace tB := tB.updL (o := .list (((spotsOf bs2).map fun (j : Nat) => Value.int (j : Int) 0) ++ [.int (bs2.length : Int) 0])) sa0 t5 sapl
        replace t5 := GH.set_self G2 sa (.list (((spotsOf bs2).map fun (j : Nat) => Value.int (j : Int) 0) ++ [.int (bs2.length : Int) 0]))
        generalize G2.set sa (.list (((spotsOf bs2).map fun (j : Nat) => Value.int (j : Int) 0) ++ [.int (bs2.length : Int) 0])) = G4 at *
        refine (i_EA _ (meth_append F t1) ?_)
        refine ⟨trivial, len_list_ok t1 ?_⟩
        (wide_line using refs_length; wide_open with t3)
        refine ⟨keep_fn F.k_Info, CallC.T (new_Info (n := n + 97) F ?_)⟩
        intro nf hnf
        have sn := sub_set (o := infoO ⟨0, 1, bs2.length, 0, false, ""⟩) hnf
        have hnfG := tB.fresh hnf
        have hnew := GH.set_self G4 nf (infoO ⟨0, 1, bs2.length, 0, false, ""⟩)
        refine ⟨trivial, append_ok (sn _ _ t1) (by simp [small, refs]; lia) ?_⟩
        have hnin : nf ∉ as2 := fun hm => by
          obtain ⟨i, hi⟩ := List.mem_iff_getElem?.mp hm
          obtain ⟨b, hb⟩ : ∃ b, bs2[i]? = some b := ⟨_, List.getElem?_eq_getElem (by have := (List.getElem?_eq_some_iff.mp hi).1; lia)⟩
          wide_line with t4 i nf b hi hb using hnf
        refine nxt _ _ (i_EEEEEAAAAAAAAAAAAAA (j + 1) (as2 ++ [nf]) (bs2 ++ [true]) ws2 _ rfl hjl rfl (by wide_open with GH.set_self; simp [refs]) ?_ (by simp [t3]) (fun i a b x1 x2 => ?_) ?_ (by wide_open with spots_snoc; simp [t6]) (by simp; lia) (fun z9 => ?_) ((tB.sub sn).updL ia0 (sn _ _ t1) iapl) (set_ne_of (sn _ _ tw) iaw) (ta.imp fun t (q : Nat × Nat) (h : G4 t = some (.tup [.int q.1 0, .int q.2 0])) => set_ne_of (sn _ _ h) (ne_kind (sn _ _ h) (sn _ _ t1) (by simp))) ((tc.sub sn).kf fun x g hg h => set_ne_of h (ne_kind h (sn _ _ t1) (by rintro rfl; wide_open using hg))))
        · exact List.nodup_append.mpr (i_AA t2 (by simp) (fun a ha b hb => by wide_open with List.mem_singleton.mp hb; rintro rfl; exact hnin ha))
        · rcases Nat.lt_or_ge i as2.length with z | z
          · rw [List.getElem?_append_left z] at x1
            rw [List.getElem?_append_left (by lia)] at x2
            exact set_ne_of (sn _ _ (t4 i a b x1 x2)) (ne_kind (sn _ _ (t4 i a b x1 x2)) (sn _ _ t1) (by unfold infoO; simp))
          · have hil := (List.getElem?_eq_some_iff.mp x1).1
            have : i = as2.length := by simp at hil; lia
            subst this
            rw [List.getElem?_append_right (Nat.le_refl _), Nat.sub_self] at x1
            rw [t3, List.getElem?_append_right (Nat.le_refl _), Nat.sub_self] at x2
            wide_open using x1; wide_open using x2
            wide_open with t3
            exact set_ne_of hnew (ne_kind hnew (sn _ _ t1) (by unfold infoO; simp))
        · (wide_line using set_ne_of (sn _ _ t5) hias.symm; wide_open with spots_snoc); simp
        · rcases Nat.eq_zero_or_pos j with z | z
          · wide_open with t9 z; rfl
          · have := t8 z
            wide_open with List.getElem?_append_left (List.getElem?_eq_some_iff.mp this).1; exact this
    · wide_open with decide_eq_false b1
      walk_at "open_"
      have t1 := q1; have t2 := q2; have t3 := q3; have t4 := q4; have t5 := q5; have t6 := q6; have t7 : bs.length ≤ 2 * j + 1 := by lia
      have t8 := d7; have t9 := d9; have tB := q9; have tw := qa; have ta := qb; have tc := qc
      clear q1 q2 q3 q4 q5 q6 q7 q8 q9 qa qb qc d7 d9
      generalize G' = G2 at *
      generalize as = as2 at *
      generalize bs = bs2 at *
      generalize ws = ws2 at *
      refine cell_ok (tB.cel 1 c1 _ rfl rfl) ?_
      refine (i_EA _ (meth_append F t5) ?_)
      refine ⟨trivial, len_list_ok t1 ?_⟩
      refine ⟨trivial, append_ok t5 (by simp [small]; (first | exact lqA (by lia) (by lia) | exact lqB (by lia) | exact lqD (by lia) | lia)) ?_⟩
      (wide_line using refs_length; wide_open with t3)
      replace t1 := set_ne_of (o := .list (((spotsOf bs2).map fun (j : Nat) => Value.int (j : Int) 0) ++ [.int (bs2.length : Int) 0])) t1 hias
      replace t4 := fun (i : Nat) a b (x1 : as2[i]? = some a) (x2 : bs2[i]? = some b) => set_ne_of (o := .list (((spotsOf bs2).map fun (j : Nat) => Value.int (j : Int) 0) ++ [.int (bs2.length : Int) 0])) (t4 i a b x1 x2) (ne_kind (t4 i a b x1 x2) t5 (by unfold infoO; simp))
      replace tw := set_ne_of (o := .list (((spotsOf bs2).map fun (j : Nat) => Value.int (j : Int) 0) ++ [.int (bs2.length : Int) 0])) tw saw
      replace ta := ta.imp fun t (q : Nat × Nat) (h : G2 t = some (.tup [.int q.1 0, .int q.2 0])) => set_ne_of (o := .list (((spotsOf bs2).map fun (j : Nat) => Value.int (j : Int) 0) ++ [.int (bs2.length : Int) 0])) h (ne_kind h t5 (by simp))
      replace tc := tc.kf (G' := G2.set sa (.list (((spotsOf bs2).map fun (j : Nat) => Value.int (j : Int) 0) ++ [.int (bs2.length : Int) 0]))) fun x g hg h => set_ne_of h (ne_kind h t5 (by rintro rfl; wide_open using hg))
      replace tB := tB.updL (o := .list (((spotsOf bs2).map fun (j : Nat) => Value.int (j : Int) 0) ++ [.int (bs2.length : Int) 0])) sa0 t5 sapl
      replace t5 := GH.set_self G2 sa (.list (((spotsOf bs2).map fun (j : Nat) => Value.int (j : Int) 0) ++ [.int (bs2.length : Int) 0]))
      generalize G2.set sa (.list (((spotsOf bs2).map fun (j : Nat) => Value.int (j : Int) 0) ++ [.int (bs2.length : Int) 0])) = G4 at *
      refine (i_EA _ (meth_append F t1) ?_)
      refine ⟨trivial, len_list_ok t1 ?_⟩
      (wide_line using refs_length; wide_open with t3)
      refine ⟨keep_fn F.k_Info, CallC.T (new_Info (n := n + 97) F ?_)⟩
      intro nf hnf
      have sn := sub_set (o := infoO ⟨0, 1, bs2.length, 0, false, ""⟩) hnf
      have hnfG := tB.fresh hnf
      have hnew := GH.set_self G4 nf (infoO ⟨0, 1, bs2.length, 0, false, ""⟩)
      refine ⟨trivial, append_ok (sn _ _ t1) (by simp [small, refs]; lia) ?_⟩
      have hnin : nf ∉ as2 := fun hm => by
        obtain ⟨i, hi⟩ := List.mem_iff_getElem?.mp hm
        obtain ⟨b, hb⟩ : ∃ b, bs2[i]? = some b := ⟨_, List.getElem?_eq_getElem (by have := (List.getElem?_eq_some_iff.mp hi).1; lia)⟩
        wide_line with t4 i nf b hi hb using hnf
      refine nxt _ _ (i_EEEEEAAAAAAAAAAAAAA (j + 1) (as2 ++ [nf]) (bs2 ++ [true]) ws2 _ rfl hjl rfl (by wide_open with GH.set_self; simp [refs]) ?_ (by simp [t3]) (fun i a b x1 x2 => ?_) ?_ (by wide_open with spots_snoc; simp [t6]) (by simp; lia) (fun z9 => ?_) ((tB.sub sn).updL ia0 (sn _ _ t1) iapl) (set_ne_of (sn _ _ tw) iaw) (ta.imp fun t (q : Nat × Nat) (h : G4 t = some (.tup [.int q.1 0, .int q.2 0])) => set_ne_of (sn _ _ h) (ne_kind (sn _ _ h) (sn _ _ t1) (by simp))) ((tc.sub sn).kf fun x g hg h => set_ne_of h (ne_kind h (sn _ _ t1) (by rintro rfl; wide_open using hg))))
      · exact List.nodup_append.mpr (i_AA t2 (by simp) (fun a ha b hb => by wide_open with List.mem_singleton.mp hb; rintro rfl; exact hnin ha))
      · rcases Nat.lt_or_ge i as2.length with z | z
        · rw [List.getElem?_append_left z] at x1
          rw [List.getElem?_append_left (by lia)] at x2
          exact set_ne_of (sn _ _ (t4 i a b x1 x2)) (ne_kind (sn _ _ (t4 i a b x1 x2)) (sn _ _ t1) (by unfold infoO; simp))
        · have hil := (List.getElem?_eq_some_iff.mp x1).1
          have : i = as2.length := by simp at hil; lia
          subst this
          rw [List.getElem?_append_right (Nat.le_refl _), Nat.sub_self] at x1
          rw [t3, List.getElem?_append_right (Nat.le_refl _), Nat.sub_self] at x2
          wide_open using x1; wide_open using x2
          wide_open with t3
          exact set_ne_of hnew (ne_kind hnew (sn _ _ t1) (by unfold infoO; simp))
      · (wide_line using set_ne_of (sn _ _ t5) hias.symm; wide_open with spots_snoc); simp
      · rcases Nat.eq_zero_or_pos j with z | z
        · wide_open with t9 z; rfl
        · have := t8 z
          wide_open with List.getElem?_append_left (List.getElem?_eq_some_iff.mp this).1; exact this
end
section
open PySem PySem.W PySem.Calls PyProof.Rows
variable {W : Wd} {P1 P2 : Addr}
/-! the facts of a world, read off its objects by small checks -/
noncomputable def stmtsOf : FuncBody → Option (List Stmt)
  | .stmts b => some b
  | _ => none
noncomputable def okChk (fd : FuncData) (sp : FnSpec) : Bool :=
  fd.scope.kind == .function && !fd.scope.isCoroutine && !fd.scope.isGenerator && fd.globals == mainGlobals && fd.builtins == builtinsNs && decide sp.params.Nodup && decide sp.cels.Nodup &&
  (List.range sp.locs.length).all (fun i => match sp.locs[i]?, (sp.lsrc[i]?).join with | some x, some j => sp.params[j]? == some x && fd.scope.names.lookup x == some .local | _, _ => true) &&
  (List.range sp.csrc.length).all (fun i => match (sp.csrc[i]?).join with | some j => (match sp.cels[i]? with | some x => sp.params[j]? == some x | none => false) | none => true) &&
  (List.range sp.cels.length).all (fun i => match sp.cels[i]?, (sp.csrc[i]?).join with | some x, none => !sp.params.contains x | _, _ => true) &&
  sp.csrc.length == sp.cels.length && sp.params.all (fun x => fd.scope.names.lookup x == some .local || fd.scope.names.lookup x == some .cell)
set_option tactic.hygienic true in
theorem fnOK_of {fd : FuncData} {sp : FnSpec} (h : okChk fd sp = true) (hb : (stmtsOf fd.body).bind (trL (trS W.AT W.globs fnFuel fnFuel ⟨fd.scope.names, sp.locs, sp.cels⟩)) = some sp.body) : FnOK W fd sp := by
  unfold okChk at h
  simp only [Bool.and_eq_true] at h
  obtain ⟨⟨⟨⟨⟨⟨⟨⟨⟨⟨⟨h1, h2⟩, h3⟩, h4⟩, h5⟩, h6⟩, h7⟩, h8⟩, h9⟩, h10⟩, h11⟩, h12⟩ := h
  refine ⟨eq_of_beq h1, by simpa using h2, by simpa using h3, ?_, eq_of_beq h4, eq_of_beq h5, of_decide_eq_true h6, of_decide_eq_true h7, fun x i j hx hj => ?_, fun i j hj => ?_, fun x i hx hj => ?_, eq_of_beq h11, fun x hx => ?_⟩
  · refine o_EA (Option.bind_eq_some_iff.mp hb) fun b e r => ?_
    refine (i_EA b ?_ r)
    cases hq : fd.body with
    | stmts b' => wide_line with hq using e; rfl
    | _ => wide_line with hq using e
  · have hi := idxOf?_get hx
    have := List.all_eq_true.mp h8 i (List.mem_range.mpr (List.getElem?_eq_some_iff.mp hi).1)
    rw [hi, hj] at this
    simp only [Bool.and_eq_true] at this
    exact ⟨eq_of_beq this.1, eq_of_beq this.2⟩
  · have hil : i < sp.csrc.length := by
      rcases Nat.lt_or_ge i sp.csrc.length with z | z
      · exact z
      · wide_line with List.getElem?_eq_none z using hj
    have := List.all_eq_true.mp h9 i (List.mem_range.mpr hil)
    rw [hj] at this
    dsimp only at this
    split at this
    · rename_i x hx; exact (i_EA x hx (eq_of_beq this))
    · wide_open using this
  · have hi := idxOf?_get hx
    have := List.all_eq_true.mp h10 i (List.mem_range.mpr (List.getElem?_eq_some_iff.mp hi).1)
    rw [hi, hj] at this
    simpa using this
  · have := List.all_eq_true.mp h12 x hx
    rcases Bool.or_eq_true_iff.mp this with q | q
    · exact .inl (eq_of_beq q)
    · exact .inr (eq_of_beq q)
noncomputable def fdOf (K : Frag) (f : Addr) : Option FuncData := match K.lookup f with
  | some ⟨_, _, .func fd, _⟩ => some fd
  | _ => none
noncomputable def codeChk (K : Frag) (fd : FuncData) : Bool := match fd.code with
  | .ref c => (match K.lookup c with
    | some ⟨_, _, .fields vs, _⟩ => (match (vs[1]? : Option Value) with
      | some (.str q _) => q == fd.qualname
      | _ => false)
    | _ => false)
  | _ => false
noncomputable def dflOf (K : Frag) (fd : FuncData) (m : Nat) : List Value := match fd.defaults with
  | .ref t => (match K.lookup t with
    | some ⟨_, _, .seq vs _, _⟩ => vs.toList.drop (vs.size - m)
    | _ => [])
  | _ => []
noncomputable def fnChk (K : Frag) (f : Addr) (sp : FnSpec) (k : Nat) (raw : List Value) (cd : Option Value) : Bool := match fdOf K f with
  | some fd => okChk fd sp && codeChk K fd && fd.closure.isEmpty && ((sp.cels.isEmpty && fd.scope.names.all fun x => x.2 != .cell) || sp.cels.all fun x => fd.scope.names.lookup x == some .cell) &&
      k + raw.length == sp.params.length && (match cd with | some c => fd.code == c | none => true)
  | none => false
noncomputable def fnTr (K : Frag) (AT : Names) (gl : List (Str × Value)) (f : Addr) (sp : FnSpec) : Option (List CS) :=
  (fdOf K f).bind fun fd => (stmtsOf fd.body).bind (trL (trS AT gl fnFuel fnFuel ⟨fd.scope.names, sp.locs, sp.cels⟩))
noncomputable def fnBind (K : Frag) (S : Setting) (f : Addr) (args : List Value) : Option (List (Str × Value)) := (fdOf K f).bind fun fd => peek K S (bindArgs fd ⟨args, []⟩)
set_option tactic.hygienic true in
theorem fnAt_of (X : W.K.In W.B) {f : Addr} {sp : FnSpec} {k : Nat} {raw : List Value} {cd : Option Value} (h : fnChk W.K f sp k raw cd = true) (hb : fnTr W.K W.AT W.globs f sp = some sp.body)
    (ha : ∀ args : List Value, args.length = k → fnBind W.K ⟨W.prog, W.w.params⟩ f args = some (sp.params.zip (args ++ raw))) : ∃ code, (∀ c, cd = some c → code = c) ∧ FnAt W f sp code k (raw.map er) := by
  unfold fnChk at h
  cases hfd : fdOf W.K f with
  | none => wide_line with hfd using h
  | some fd =>
    rw [hfd] at h
    obtain ⟨h, h6⟩ := Bool.and_eq_true_iff.mp h
    obtain ⟨h, h5⟩ := Bool.and_eq_true_iff.mp h
    obtain ⟨h, h4⟩ := Bool.and_eq_true_iff.mp h
    obtain ⟨h, h3⟩ := Bool.and_eq_true_iff.mp h
    obtain ⟨h1, h2⟩ := Bool.and_eq_true_iff.mp h
    have hfo : ∃ fo, W.K.lookup f = some fo ∧ fo.data = .func fd := by
      unfold fdOf at hfd
      split at hfd
      · rename_i hq
        wide_open using hfd; exact (i_EA _ hq rfl)
      · wide_open using hfd
    refine o_EA hfo fun fo hk hd => ?_; try clear hfo
    have hrec : W.B.CodeRec fd.code fd.qualname := by
      unfold codeChk at h2
      split at h2
      · rename_i c hc
        split at h2
        · rename_i vs _ hq
          split at h2
          · rename_i q t hv
            rw [eq_of_beq h2] at hv
            exact (i_EEEEAAA c _ vs t hc (X _ _ hq) rfl hv)
          · wide_open using h2
        · wide_open using h2
      · wide_open using h2
    refine (i_EA fd.code (fun c hc => by subst hc; exact eq_of_beq h6) ⟨fo, fd, X _ _ hk, hd, rfl, hrec, fnOK_of h1 ?_, by simpa using h3, ?_, by wide_open with List.length_map; exact eq_of_beq h5, fun args hl => (i_EA raw rfl ?_)⟩)
    · unfold fnTr at hb
      rw [hfd] at hb; exact hb
    · rcases Bool.or_eq_true_iff.mp h4 with q | q
      · obtain ⟨q1, q2⟩ := Bool.and_eq_true_iff.mp q
        refine .inl ⟨by simpa using q1, fun x hx => ?_⟩
        have := List.all_eq_true.mp q2 x hx
        simpa using this
      · refine .inr fun x i hx => ?_
        have hi := idxOf?_get hx
        exact eq_of_beq (List.all_eq_true.mp q x (List.mem_of_getElem? hi))
    · have := ha args hl
      unfold fnBind at this
      rw [hfd] at this
      exact Looks.of_peek X this
theorem all_lookup {α β : Type} [BEq α] [LawfulBEq α] {p : α × β → Bool} : ∀ {l : List (α × β)} {a : α} {b : β}, l.all p = true → l.lookup a = some b → p (a, b) = true
  | [], _, _, _, h => by wide_open using h
  | (x, y) :: l, a, b, ha, h => by
    simp only [List.all_cons, Bool.and_eq_true] at ha
    rw [List.lookup_cons] at h
    cases hb : a == x with
    | true => wide_line with hb using h; wide_open with eq_of_beq hb; exact ha.1
    | false => rw [hb] at h; exact all_lookup ha.2 h
noncomputable def globChk (K : Frag) (p : Str × Value) : Bool := match nsIn K mainGlobals p.1 with
  | some (some v) => er v == p.2
  | some none => p.1 != "__name__" && (bootBuiltins p.1).map er == some p.2
  | none => false
noncomputable def worldChk (K : Frag) (AT : Names) (cls : List (Addr × ClsSpec)) (fns : List Addr) (gl : List (Str × Value)) : Bool :=
  cls.all (fun p => clsOK K AT p.1 p.2) && fns.all (fun f => keepIn K (.ref f)) && gl.all (globChk K)
set_option tactic.hygienic true in
theorem wdOK_of {mg mb : Str → Option Value} (X : W.K.In W.B) (hl : W.B.NoLimit) (hg : W.B.Ns mainGlobals mg) (hb : W.B.Ns builtinsNs mb) (hbb : ∀ x : Str, x ≠ "__name__" → mb x = bootBuiltins x)
    (h : worldChk W.K W.AT W.cls W.fns W.globs = true) : WdOK W mg mb := by
  unfold worldChk at h
  simp only [Bool.and_eq_true] at h
  obtain ⟨⟨h1, h2⟩, h3⟩ := h
  refine ⟨X, fun C sp e => all_lookup h1 e, fun f e => List.all_eq_true.mp h2 f (by simpa using e), hl, hg, hb, fun x v e => ?_⟩
  have := all_lookup h3 e
  unfold globChk at this
  dsimp only at this
  split at this
  · rename_i v' hq
    exact .inl (i_EA v' (mg_of X hg hq) (eq_of_beq this))
  · rename_i hq
    simp only [Bool.and_eq_true, bne_iff_ne, ne_eq] at this
    have e2 := eq_of_beq this.2
    refine o_EA (Option.map_eq_some_iff.mp e2) fun v' hv' hev => ?_
    exact .inr (i_AEA (mg_none_of X hg hq) v' (by wide_open with hbb x this.1; exact hv') hev)
  · wide_open using this
noncomputable def strsChk (K : Frag) (a : Addr) (ns : List Str) : Bool := match K.lookup a with
  | some ⟨c, _, .seq us _, _⟩ => c == .type "tuple" && us.toList.map er == ns.map vStr
  | _ => false
set_option tactic.hygienic true in
theorem strs_at (X : W.K.In W.B) {a : Addr} {ns : List Str} (h : strsChk W.K a ns = true) : BStrs W a ns := by
  unfold strsChk at h
  split at h
  · rename_i c _ us m _ hq
    simp only [Bool.and_eq_true] at h
    exact (i_EA us (i_EAAE _ (X _ _ hq) (eq_of_beq h.1) m rfl) (strs_of (eq_of_beq h.2)))
  · wide_open using h
/-! the nested functions -/
noncomputable def isDef : Stmt → Bool
  | .FunctionDef .. => true
  | _ => false
theorem isDef_of {st : Stmt} (h : isDef st = true) : ∃ decs ret typs isA bind, st = .FunctionDef (fName st) (fArgs st) (fBody st) decs ret typs (fScope st) isA bind (fPos st) := by
  cases st with
  | FunctionDef name args body decs ret typs scope isA bind pos => exact (i_EEEEE decs ret typs isA bind rfl)
  | _ => wide_open using h
noncomputable def nestChk (st : Stmt) (celn : List Str) (sp : FnSpec) (m : Nat) : Bool := isDef st && (fScope st).names.all (fun p => p.2 != .free || (celn.idxOf? p.1).isSome) &&
  sp.cels.all (fun x => (fScope st).names.contains (x, NameKind.free) && (match celn.idxOf? x with | some j => decide (j < m) | none => false)) && (fScope st).names.all (fun x => x.2 != .cell)
set_option tactic.hygienic true in
theorem nest_make {mg : Str → Option Value} {n : Nat} {G : GH} {K : KV} {st : Stmt} {c P : Addr} {celn : List Str} {cs : List Addr} {sp : FnSpec} {k : Nat}
    (hg : W.B.Ns mainGlobals mg) (hC : CodeHd W.B c P) (hb : W.B.BuiltinsAt mg P) (hP : G P = some (.raw (tabObj #[]))) (h : nestChk st celn sp cs.length = true) (hk : k = sp.params.length)
    (hok : ∀ qual clos doc pm cdv ct, okChk (fnX (fName st) qual (fArgs st) (fBody st) (fScope st) clos .none .none doc pm none cdv ct) sp = true)
    (htr : (trL (trS W.AT W.globs fnFuel fnFuel ⟨(fScope st).names, sp.locs, sp.cels⟩)) (fBody st) = some sp.body)
    (hbind : ∀ qual clos doc pm cdv ct, ∀ vs : List Value, vs.length = k → bindArgs (fnX (fName st) qual (fArgs st) (fBody st) (fScope st) clos .none .none doc pm none cdv ct) ⟨vs, []⟩ = pure (sp.params.zip vs))
    (kk : ∀ f c' G', f ≠ c' → G f = none → G c' = none → (∀ a, a ≠ f → a ≠ c' → a ≠ P → G' a = G a) → Tab G' P → CloAt W G' f sp (sp.cels.filterMap fun x => (celn.idxOf? x).bind fun j => cs[j]?) k → K (.ref f) G') :
    FDefT W n (.ref c) celn cs st G K := by
  unfold nestChk at h
  simp only [Bool.and_eq_true] at h
  obtain ⟨⟨⟨h1, h2⟩, h3⟩, h4⟩ := h
  refine o_EEEEE (isDef_of h1) fun decs ret typs isA bind e => ?_
  wide_open with e
  refine fdef_make hg hC hb hP (fun p hp hf => ?_) (fun x i hx => ?_) (fun qual clos doc pm cdv ct => fnOK_of (hok qual clos doc pm cdv ct) htr) (fun x hx => by simpa using List.all_eq_true.mp h4 x hx) hk hbind kk
  · have := List.all_eq_true.mp h2 p hp
    rw [hf] at this
    exact Option.isSome_iff_exists.mp (by simpa using this)
  · have := List.all_eq_true.mp h3 x (List.mem_of_getElem? (idxOf?_get hx))
    simp only [Bool.and_eq_true] at this
    refine ⟨by simpa using this.1, ?_⟩
    have h := this.2
    split at h
    · rename_i j hj
      exact (i_EEA j (cs[j]'(of_decide_eq_true h)) hj (List.getElem?_eq_getElem _))
    · wide_open using h
end
section
open PySem PySem.W PySem.Calls PyProof.Rows
noncomputable def clsL : List (Addr × ClsSpec) := [(a_Info, k_Info), (a_Buffer, k_Buffer), (a_Coverage, k_Coverage), (a_Rule, k_Rule), (a_Contexts, k_Contexts), (a_Lookup, k_Lookup), (a_Scene, k_Scene), (a_Places, k_Places), (a_ClassDef, k_ClassDef), (a_Gdef, k_Gdef)]
noncomputable def fnsL : List Addr := [a_Info, a_Buffer, a_Coverage, a_Rule, a_Contexts, a_Lookup, a_Scene, a_Places, a_ClassDef, a_Gdef, a_Info___init__, a_Buffer___init__, a_Buffer_glyphs, a_hang, a_Coverage___init__, a_Coverage_index, a_Coverage_has, a_coverage_of, a_Rule___init__, a_Contexts___init__, a_Contexts_rules, a_tests_of, a_rule_tests, a_rules_at, a_Lookup___init__, a_Scene___init__, a_attach_wanted, a_class_bit, a_is_ignored, a_passes, a_nested_scene, a_fits, a_is_borne, a_found_at, a_input_at, a_last_at, a_ahead_at, a_back_at, a_Places___init__, a_match_rule, a_inner_scene, a_grow, a_shrink, a_move, a_do_action, a_do_actions, a_apply_context, a_ClassDef___init__, a_ClassDef_class_of, a_Gdef___init__, a_Gdef_glyph_class, a__law_take, a__law_edit, a__law_done, a__law_deep_right]
noncomputable def globL : List (Str × Value) := [(Str.ofString "Info", .ref a_Info), (Str.ofString "Buffer", .ref a_Buffer), (Str.ofString "hang", .ref a_hang), (Str.ofString "Coverage", .ref a_Coverage), (Str.ofString "coverage_of", .ref a_coverage_of), (Str.ofString "Rule", .ref a_Rule), (Str.ofString "Contexts", .ref a_Contexts), (Str.ofString "tests_of", .ref a_tests_of), (Str.ofString "rule_tests", .ref a_rule_tests), (Str.ofString "rules_at", .ref a_rules_at), (Str.ofString "Lookup", .ref a_Lookup), (Str.ofString "Scene", .ref a_Scene), (Str.ofString "attach_wanted", .ref a_attach_wanted), (Str.ofString "class_bit", .ref a_class_bit), (Str.ofString "is_ignored", .ref a_is_ignored), (Str.ofString "passes", .ref a_passes), (Str.ofString "nested_scene", .ref a_nested_scene), (Str.ofString "KINDS_IN_INPUT", .ref a_KINDS_IN_INPUT), (Str.ofString "KINDS_AROUND", .ref a_KINDS_AROUND), (Str.ofString "fits", .ref a_fits), (Str.ofString "is_borne", .ref a_is_borne), (Str.ofString "found_at", .ref a_found_at), (Str.ofString "input_at", .ref a_input_at), (Str.ofString "last_at", .ref a_last_at), (Str.ofString "ahead_at", .ref a_ahead_at), (Str.ofString "back_at", .ref a_back_at), (Str.ofString "Places", .ref a_Places), (Str.ofString "match_rule", .ref a_match_rule), (Str.ofString "inner_scene", .ref a_inner_scene), (Str.ofString "grow", .ref a_grow), (Str.ofString "shrink", .ref a_shrink), (Str.ofString "move", .ref a_move), (Str.ofString "do_action", .ref a_do_action), (Str.ofString "do_actions", .ref a_do_actions), (Str.ofString "apply_context", .ref a_apply_context), (Str.ofString "ClassDef", .ref a_ClassDef), (Str.ofString "Gdef", .ref a_Gdef), (Str.ofString "_law_take", .ref a__law_take), (Str.ofString "_law_edit", .ref a__law_edit), (Str.ofString "_law_done", .ref a__law_done), (Str.ofString "_law_deep_right", .ref a__law_deep_right),
  (Str.ofString "BY_GLYPHS", .int 1 0), (Str.ofString "BY_CLASSES", .int 2 0), (Str.ofString "IGNORE_BASES", .int 2 0), (Str.ofString "IGNORE_LIGATURES", .int 4 0), (Str.ofString "IGNORE_MARKS", .int 8 0), (Str.ofString "USE_SET", .int 16 0), (Str.ofString "MOST_DEPTH", .int 6 0), (Str.ofString "MOST_PLACES", .int 64 0), (Str.ofString "MOST_ACTIONS", .int 256 0), (Str.ofString "NO_CLASS", .int 0 0), (Str.ofString "BASE", .int 1 0), (Str.ofString "COMPONENT", .int 4 0),
  (Str.ofString "len", .builtin "len"), (Str.ofString "abs", .builtin "abs"), (Str.ofString "min", .builtin "min"), (Str.ofString "max", .builtin "max"), (Str.ofString "sum", .builtin "sum"), (Str.ofString "sorted", .builtin "sorted"), (Str.ofString "range", .type "range"), (Str.ofString "list", .type "list"), (Str.ofString "tuple", .type "tuple"), (Str.ofString "dict", .type "dict")]
structure FnE where
  f : Addr
  sp : FnSpec
  k : Nat
  raw : List Value
  cd : Option Value
noncomputable def fnL : List FnE := [⟨a_Info___init__, sp_Info___init__, 4, [], none⟩,
  ⟨a_Buffer___init__, sp_Buffer___init__, 2, [.bool false], none⟩,
  ⟨a_Buffer_glyphs, sp_Buffer_glyphs, 1, [], none⟩,
  ⟨a_hang, sp_hang, 3, [], none⟩,
  ⟨a_Coverage___init__, sp_Coverage___init__, 2, [], none⟩,
  ⟨a_Coverage_index, sp_Coverage_index, 2, [], none⟩,
  ⟨a_Coverage_has, sp_Coverage_has, 2, [], none⟩,
  ⟨a_coverage_of, sp_coverage_of, 1, [], none⟩,
  ⟨a_Rule___init__, sp_Rule___init__, 5, [], none⟩,
  ⟨a_Contexts___init__, sp_Contexts___init__, 4, [.none, .none], none⟩,
  ⟨a_Contexts_rules, sp_Contexts_rules, 1, [], none⟩,
  ⟨a_tests_of, sp_tests_of, 3, [], none⟩,
  ⟨a_rule_tests, sp_rule_tests, 2, [], none⟩,
  ⟨a_rules_at, sp_rules_at, 2, [], none⟩,
  ⟨a_Lookup___init__, sp_Lookup___init__, 5, [], none⟩,
  ⟨a_Scene___init__, sp_Scene___init__, 6, [.int 0 602], none⟩,
  ⟨a_attach_wanted, sp_attach_wanted, 1, [], none⟩,
  ⟨a_class_bit, sp_class_bit, 1, [], none⟩,
  ⟨a_is_ignored, sp_is_ignored, 3, [], none⟩,
  ⟨a_passes, sp_passes, 2, [], none⟩,
  ⟨a_nested_scene, sp_nested_scene, 2, [], none⟩,
  ⟨a_fits, sp_fits, 2, [], none⟩,
  ⟨a_is_borne, sp_is_borne, 2, [], none⟩,
  ⟨a_found_at, sp_found_at, 6, [], none⟩,
  ⟨a_input_at, sp_input_at, 3, [], none⟩,
  ⟨a_last_at, sp_last_at, 4, [], none⟩,
  ⟨a_ahead_at, sp_ahead_at, 3, [], none⟩,
  ⟨a_back_at, sp_back_at, 3, [], none⟩,
  ⟨a_Places___init__, sp_Places___init__, 3, [], none⟩,
  ⟨a_match_rule, sp_match_rule, 3, [], none⟩,
  ⟨a_inner_scene, sp_inner_scene, 2, [], none⟩,
  ⟨a_grow, sp_grow, 3, [], none⟩,
  ⟨a_shrink, sp_shrink, 3, [], none⟩,
  ⟨a_move, sp_move, 3, [], none⟩,
  ⟨a_do_action, sp_do_action, 4, [], none⟩,
  ⟨a_do_actions, sp_do_actions, 4, [], none⟩,
  ⟨a_apply_context, sp_apply_context, 4, [], none⟩,
  ⟨a_ClassDef___init__, sp_ClassDef___init__, 2, [], none⟩,
  ⟨a_ClassDef_class_of, sp_ClassDef_class_of, 2, [], none⟩,
  ⟨a_Gdef___init__, sp_Gdef___init__, 4, [.none, .none], none⟩,
  ⟨a_Gdef_glyph_class, sp_Gdef_glyph_class, 2, [], none⟩,
  ⟨a__law_take, sp__law_take, 2, [], none⟩,
  ⟨a_Scene___init__, sp_Scene___init__, 7, [], none⟩,
  ⟨a_Contexts___init__, sp_Contexts___init__, 6, [], none⟩,
  ⟨a__law_edit, sp__law_edit, 3, [], none⟩,
  ⟨a__law_done, sp__law_done, 5, [], none⟩,
  ⟨a__law_deep_right, sp__law_deep_right, 1, [], some (.ref 584)⟩,
  ⟨a_law, sp_law, 1, [], some (.ref 589)⟩]
noncomputable def need1 : List Addr := [3, 34, 35, 51, 52, 64, 70, 71, 75, 76, 104, 105, 113, 114, 127, 128, 134, 135, 141, 142, 151, 152, 162, 163, 176, 177, 193, 194, 206, 212, 213, 231, 232, 234, 235, 248, 249, 255, 256, 260, 261, 274, 275, 282, 283, 295, 301, 302, 304, 305, 315, 316, 322, 323, 329, 330, 336, 337, 343, 344, 345, 346, 352, 353, 359, 360, 366, 367, 373, 374, 380, 381, 387, 388, 394, 395, 408, 409, 411, 412, 422, 423, 429, 430, 434, 435, 439, 440, 446, 447, 453, 454, 460, 461, 467, 468, 481, 482, 488, 489, 510, 511, 523, 529, 530, 536, 537, 544, 551, 558, 559, 569, 570, 574, 575, 579, 580, 584, 585, 589, 590]
noncomputable def fragAt (as : List Addr) (h : Heap) : Frag := as.filterMap fun a => (h.get? a).bind fun o => match o.cls, o.data with
  | .none, .fields _ => none
  | _, _ => some (a, o)
theorem mem_of_look {K : Frag} {a : Addr} {o : Obj} (e : K.lookup a = some o) : (a, o) ∈ K := mem_of_lookupK e
theorem fragAt_in {as : List Addr} {h : Heap} : (fragAt as h).In h := fun a o e => by
  refine o_EA (List.mem_filterMap.mp (mem_of_look e)) fun b z9 hb => ?_
  refine o_EA (Option.bind_eq_some_iff.mp hb) fun x hx hm => ?_
  split at hm
  · wide_open using hm
  · wide_open using hm; exact hx
noncomputable def nmChk (K : Frag) (x : Str) (a : Addr) : Bool := match nsIn K mainGlobals x with
  | some (some (.ref b)) => b == a
  | _ => false
set_option tactic.hygienic true in
theorem nm_of {K : Frag} {x : Str} {a : Addr} (h : nmChk K x a = true) : nsIn K mainGlobals x = some (some (.ref a)) := by
  unfold nmChk at h
  split at h
  · rename_i b hb; rw [hb, eq_of_beq h]
  · cases h
noncomputable def chkL (K : Frag) : List Bool := [worldChk K AT1 clsL fnsL globL, fnL.all (fun x => fnChk K x.f x.sp x.k x.raw x.cd), strsChk K a_KINDS_IN_INPUT ["zwj", "hidden"], strsChk K a_KINDS_AROUND ["zwj", "zwnj", "hidden"], codeHdIn K 584 582, codeHdIn K 589 587, noTabs K, nmChk K (Str.ofString "law") 590]
noncomputable abbrev ObsT := List Bool × List (Option (List CS)) × ((Nat → Value) → List (Option (List (Str × Value))))
noncomputable def obsK (pr : Program) (K : Frag) (P : Params) : ObsT := (chkL K, fnL.map (fun x => fnTr K AT1 globL x.f x.sp), fun v => fnL.map fun x => fnBind K ⟨pr, P⟩ x.f ((List.range x.k).map v))
noncomputable def goodK : ObsT := ([true, true, true, true, true, true, true, true], fnL.map (fun x => some x.sp.body), fun v => fnL.map fun x => some (x.sp.params.zip ((List.range x.k).map v ++ x.raw)))
noncomputable def wl1 (w : World) (B : Heap) (os : OsState) (K : Frag) : Wd := ⟨PySem.Challenge.rw_nu0235_01.row.prog, w, AT1, B, os, K, clsL, fnsL, globL⟩
variable {w : World} {B : Heap} {os : OsState} {K : Frag}
structure Seen1 (w : World) (K : Frag) : Prop where
  e : obsK PySem.Challenge.rw_nu0235_01.row.prog K w.params = goodK
theorem Seen1.chk (S : Seen1 w K) {i : Nat} {b : Bool} (h : (chkL K)[i]? = some b) (hi : i < 8) : b = true := by
  have e := congrArg (fun x : ObsT => x.1) S.e
  have e : chkL K = [true, true, true, true, true, true, true, true] := e
  rw [e] at h
  match i, hi with
  | 0, _ | 1, _ | 2, _ | 3, _ | 4, _ | 5, _ | 6, _ | 7, _ => wide_open using h; rfl
theorem range_map {args : List Value} {k : Nat} (h : args.length = k) : (List.range k).map (fun i => args.getD i .none) = args := by
  subst h
  refine List.ext_getElem (by simp) fun i h1 h2 => ?_
  simp [h2]
theorem Seen1.fn (S : Seen1 w K) (X : K.In B) {x : FnE} (hx : x ∈ fnL) : ∃ code, (∀ c, x.cd = some c → code = c) ∧ FnAt (wl1 w B os K) x.f x.sp code x.k (x.raw.map er) := by
  have h1 := S.chk (i := 1) rfl (by decide)
  have e2 : fnL.map (fun x => fnTr K AT1 globL x.f x.sp) = fnL.map (fun x => some x.sp.body) := congrArg (fun z : ObsT => z.2.1) S.e
  have e3 : ∀ v : Nat → Value, fnL.map (fun x => fnBind K ⟨PySem.Challenge.rw_nu0235_01.row.prog, w.params⟩ x.f ((List.range x.k).map v)) = fnL.map fun x => some (x.sp.params.zip ((List.range x.k).map v ++ x.raw)) := congrFun (congrArg (fun z : ObsT => z.2.2) S.e)
  refine fnAt_of (W := wl1 w B os K) X (List.all_eq_true.mp h1 x hx) (List.map_inj_left.mp e2 x hx) fun args hl => ?_
  have := List.map_inj_left.mp (e3 fun i => args.getD i .none) x hx
  rw [range_map hl] at this
  exact this
theorem Seen1.at (S : Seen1 w K) (X : K.In B) {i : Nat} {x : FnE} (h : fnL[i]? = some x) : ∃ code, FnAt (wl1 w B os K) x.f x.sp code x.k (x.raw.map er) :=
  let ⟨c, _, z⟩ := S.fn X (List.mem_of_getElem? h); ⟨c, z⟩
theorem Seen1.atc (S : Seen1 w K) (X : K.In B) {i : Nat} {x : FnE} {c : Value} (h : fnL[i]? = some x) (hc : x.cd = some c) : FnAt (wl1 w B os K) x.f x.sp c x.k (x.raw.map er) :=
  let ⟨d, e, z⟩ := S.fn X (List.mem_of_getElem? h); (e c hc) ▸ z
theorem w1_facts (S : Seen1 w K) {mg mb : Str → Option Value} (X : K.In B) (hl : B.NoLimit) (hg : B.Ns mainGlobals mg) (hb : B.Ns builtinsNs mb) (hbb : ∀ x : Str, x ≠ "__name__" → mb x = bootBuiltins x) : Facts (wl1 w B os K) where
  O := (i_EE mg mb (wdOK_of (W := wl1 w B os K) X hl hg hb hbb (S.chk (i := 0) rfl (by decide))))
  AT := rfl
  c_Info := rfl
  c_Buffer := rfl
  c_Coverage := rfl
  c_Rule := rfl
  c_Contexts := rfl
  c_Lookup := rfl
  c_Scene := rfl
  c_Places := rfl
  c_ClassDef := rfl
  c_Gdef := rfl
  f_Info___init__ := S.at X (i := 0) rfl
  f_Buffer___init__ := S.at X (i := 1) rfl
  f_Buffer_glyphs := S.at X (i := 2) rfl
  f_hang := S.at X (i := 3) rfl
  f_Coverage___init__ := S.at X (i := 4) rfl
  f_Coverage_index := S.at X (i := 5) rfl
  f_Coverage_has := S.at X (i := 6) rfl
  f_coverage_of := S.at X (i := 7) rfl
  f_Rule___init__ := S.at X (i := 8) rfl
  f_Contexts___init__ := S.at X (i := 9) rfl
  f_Contexts_rules := S.at X (i := 10) rfl
  f_tests_of := S.at X (i := 11) rfl
  f_rule_tests := S.at X (i := 12) rfl
  f_rules_at := S.at X (i := 13) rfl
  f_Lookup___init__ := S.at X (i := 14) rfl
  f_Scene___init__ := S.at X (i := 15) rfl
  f_attach_wanted := S.at X (i := 16) rfl
  f_class_bit := S.at X (i := 17) rfl
  f_is_ignored := S.at X (i := 18) rfl
  f_passes := S.at X (i := 19) rfl
  f_nested_scene := S.at X (i := 20) rfl
  f_fits := S.at X (i := 21) rfl
  f_is_borne := S.at X (i := 22) rfl
  f_found_at := S.at X (i := 23) rfl
  f_input_at := S.at X (i := 24) rfl
  f_last_at := S.at X (i := 25) rfl
  f_ahead_at := S.at X (i := 26) rfl
  f_back_at := S.at X (i := 27) rfl
  f_Places___init__ := S.at X (i := 28) rfl
  f_match_rule := S.at X (i := 29) rfl
  f_inner_scene := S.at X (i := 30) rfl
  f_grow := S.at X (i := 31) rfl
  f_shrink := S.at X (i := 32) rfl
  f_move := S.at X (i := 33) rfl
  f_do_action := S.at X (i := 34) rfl
  f_do_actions := S.at X (i := 35) rfl
  f_apply_context := S.at X (i := 36) rfl
  f_ClassDef___init__ := S.at X (i := 37) rfl
  f_ClassDef_class_of := S.at X (i := 38) rfl
  f_Gdef___init__ := S.at X (i := 39) rfl
  f_Gdef_glyph_class := S.at X (i := 40) rfl
  f__law_take := S.at X (i := 41) rfl
  f_Scene_full := S.at X (i := 42) rfl
  f_Contexts_full := S.at X (i := 43) rfl
  k_Info := rfl
  k_Buffer := rfl
  k_Coverage := rfl
  k_Rule := rfl
  k_Contexts := rfl
  k_Lookup := rfl
  k_Scene := rfl
  k_Places := rfl
  k_ClassDef := rfl
  k_Gdef := rfl
  k_Info___init__ := rfl
  k_Buffer___init__ := rfl
  k_Buffer_glyphs := rfl
  k_hang := rfl
  k_Coverage___init__ := rfl
  k_Coverage_index := rfl
  k_Coverage_has := rfl
  k_coverage_of := rfl
  k_Rule___init__ := rfl
  k_Contexts___init__ := rfl
  k_Contexts_rules := rfl
  k_tests_of := rfl
  k_rule_tests := rfl
  k_rules_at := rfl
  k_Lookup___init__ := rfl
  k_Scene___init__ := rfl
  k_attach_wanted := rfl
  k_class_bit := rfl
  k_is_ignored := rfl
  k_passes := rfl
  k_nested_scene := rfl
  k_fits := rfl
  k_is_borne := rfl
  k_found_at := rfl
  k_input_at := rfl
  k_last_at := rfl
  k_ahead_at := rfl
  k_back_at := rfl
  k_Places___init__ := rfl
  k_match_rule := rfl
  k_inner_scene := rfl
  k_grow := rfl
  k_shrink := rfl
  k_move := rfl
  k_do_action := rfl
  k_do_actions := rfl
  k_apply_context := rfl
  k_ClassDef___init__ := rfl
  k_ClassDef_class_of := rfl
  k_Gdef___init__ := rfl
  k_Gdef_glyph_class := rfl
  k__law_take := rfl
  kin := strs_at (W := wl1 w B os K) X (S.chk (i := 2) rfl (by decide))
  kar := strs_at (W := wl1 w B os K) X (S.chk (i := 3) rfl (by decide))
theorem w1_edit (S : Seen1 w K) (X : K.In B) : ∃ code, FnAt (wl1 w B os K) a__law_edit sp__law_edit code 3 [] := S.at X (i := 44) rfl
theorem w1_done (S : Seen1 w K) (X : K.In B) : ∃ code, FnAt (wl1 w B os K) a__law_done sp__law_done code 5 [] := S.at X (i := 45) rfl
theorem w1_deepf (S : Seen1 w K) (X : K.In B) : FnAt (wl1 w B os K) a__law_deep_right sp__law_deep_right (.ref 584) 1 [] := S.atc X (i := 46) rfl rfl
theorem w1_lawf (S : Seen1 w K) (X : K.In B) : FnAt (wl1 w B os K) a_law sp_law (.ref 589) 1 [] := S.atc X (i := 47) rfl rfl
end
section
open PySem PySem.W PySem.Calls PyProof.Rows
variable {w : World} {B : Heap} {os : OsState} {K1 : Frag}
theorem w1_deep {mg : Str → Option Value} (hg : B.Ns mainGlobals mg) (hC : CodeHd B 584 582) (hb : B.BuiltinsAt mg 582) (n : Nat) (c0 c1 c2 c3 c4 : Addr) (G : GH) (K : KV) (hP : G 582 = some (.raw (tabObj #[])))
    (kk : ∀ f c' G', f ≠ c' → G f = none → G c' = none → (∀ a, a ≠ f → a ≠ c' → a ≠ 582 → G' a = G a) → Tab G' 582 → CloAt (wl1 w B os K1) G' f sp__law_deep_right_apply_at [c2, c3, c4] 2 → K (.ref f) G') :
    FDefT (wl1 w B os K1) n (.ref 584) sp__law_deep_right.cels [c0, c1, c2, c3, c4] st_deep G K := by
  refine nest_make (W := wl1 w B os K1) (sp := sp__law_deep_right_apply_at) (k := 2) hg hC hb hP (by kernel_rfl) rfl (fun qual clos doc pm cdv ct => by kernel_rfl) (by kernel_rfl) (fun qual clos doc pm cdv ct vs hl => ?_) ?_
  · refine o_EE (len2 hl) fun v0 v1 e93 => ?_; subst e93
    kernel_rfl
  · have e : (sp__law_deep_right_apply_at.cels.filterMap fun x => (sp__law_deep_right.cels.idxOf? x).bind fun j => [c0, c1, c2, c3, c4][j]?) = [c2, c3, c4] := by kernel_rfl
    wide_open with e
    exact kk
theorem w1_law {mg : Str → Option Value} (hg : B.Ns mainGlobals mg) (hC : CodeHd B 589 587) (hb : B.BuiltinsAt mg 587) (n : Nat) (c0 c1 c2 c3 : Addr) (G : GH) (K : KV) (hP : G 587 = some (.raw (tabObj #[])))
    (kk : ∀ f c' G', f ≠ c' → G f = none → G c' = none → (∀ a, a ≠ f → a ≠ c' → a ≠ 587 → G' a = G a) → Tab G' 587 → CloAt (wl1 w B os K1) G' f sp_law_apply_at [c2, c3] 2 → K (.ref f) G') :
    FDefT (wl1 w B os K1) n (.ref 589) sp_law.cels [c0, c1, c2, c3] st_law G K := by
  refine nest_make (W := wl1 w B os K1) (sp := sp_law_apply_at) (k := 2) hg hC hb hP (by kernel_rfl) rfl (fun qual clos doc pm cdv ct => by kernel_rfl) (by kernel_rfl) (fun qual clos doc pm cdv ct vs hl => ?_) ?_
  · refine o_EE (len2 hl) fun v0 v1 e93 => ?_; subst e93
    kernel_rfl
  · have e : (sp_law_apply_at.cels.filterMap fun x => (sp_law.cels.idxOf? x).bind fun j => [c0, c1, c2, c3][j]?) = [c2, c3] := by kernel_rfl
    wide_open with e
    exact kk
theorem w1_facts1 (S : Seen1 w K1) {mg mb : Str → Option Value} (X : K1.In B) (hl : B.NoLimit) (hg : B.Ns mainGlobals mg) (hb : B.Ns builtinsNs mb) (hbb : ∀ x : Str, x ≠ "__name__" → mb x = bootBuiltins x)
    (hC1 : CodeHd B 584 582) (hb1 : B.BuiltinsAt mg 582) (hC2 : CodeHd B 589 587) (hb2 : B.BuiltinsAt mg 587) : Facts1 (wl1 w B os K1) 582 587 where
  F := w1_facts S X hl hg hb hbb
  f__law_edit := w1_edit S X
  f__law_done := w1_done S X
  f__law_deep_right := w1_deepf S X
  f_law := w1_lawf S X
  k__law_edit := rfl
  k__law_done := rfl
  k__law_deep_right := rfl
  mk_deep := w1_deep hg hC1 hb1
  mk_law := w1_law hg hC2 hb2
end
section
open PySem PySem.W PySem.Calls PyProof.Rows
noncomputable def G1st : GH := (GH.empty.set 582 (.raw (tabObj #[]))).set 587 (.raw (tabObj #[]))
theorem g1_cases {a : Addr} {g : GO} (h : G1st a = some g) : (a = 582 ∨ a = 587) ∧ g = .raw (tabObj #[]) := by
  unfold G1st at h
  by_cases h1 : a = 587
  · subst h1; wide_line with GH.set_self using h; exact ⟨.inr rfl, rfl⟩
  · rw [GH.set_ne _ _ h1] at h
    by_cases h2 : a = 582
    · subst h2; wide_line with GH.set_self using h; exact ⟨.inl rfl, rfl⟩
    · wide_line with GH.set_ne _ _ h2 using h
theorem law1_run {w : World} {s₁ : Shared} {mg mb : Str → Option Value} {p : Program} {loose : List Str} {mean : ExcName → Option Value} {K1 : Frag} (S : Seen1 w K1) (KX : K1.In s₁.heap) (hT : TabsAt [(584, 582), (589, 587)] s₁.heap) (T : Top p loose mean mg mb s₁.heap) (hg : s₁.gens = #[])
    {sc : Addr} {vs : List Value} {ns : List Int} (hL : s₁.heap.IsList sc vs.toArray) (hI : IntsAre vs ns) (hz : ns.length ≤ 63) :
    codeAny (model PySem.Challenge.rw_nu0235_01.row.prog w) callerA (.call (.ref 590) ⟨[.ref sc], []⟩)
      (fun r s' => r = .ok (.ret (.bool true)) ∧ (∀ b o, (ghostOf s₁.heap [(584, 582), (589, 587)]).get? b = some o → s'.heap.get? b = some o) ∧ s'.os = s₁.os ∧ s'.gens = #[] ∧ GrownAll [(584, 582), (589, 587)] s'.heap) s₁ := by
  have T' := ghost_top hT T
  have X' := ghost_K hT KX (S.chk (i := 6) rfl (by decide))
  have C' := ghost_code hT
  have L' := ghost_list hT hL
  have P1h : s₁.heap.get? 582 = some (tabObj #[]) := (hT (584, 582) (by simp)).2
  have P2h : s₁.heap.get? 587 = some (tabObj #[]) := (hT (589, 587) (by simp)).2
  have hb : ∀ P, s₁.heap.get? P = some (tabObj #[]) → (ghostOf s₁.heap [(584, 582), (589, 587)]).BuiltinsAt mg P := fun P hP => by
    refine o_EEAAAAA T'.bmain fun bm ob b1 b2 b3 b4 b5 b6 => ?_
    refine (i_EEAAAAAAA bm ob b1 b2 (fun q => ?_) (fun q => ?_) b3 b4 b5 b6)
    · refine o_EEEAA T'.g fun o es ep e hd z9 => ?_
      rw [q, e] at b3; wide_open using b3; wide_line with hd using b6
    · have e := of_hideAll _ b3
      rw [q, hP] at e; wide_open using e; wide_open using b4
  have F1 : Facts1 (wl1 w (ghostOf s₁.heap [(584, 582), (589, 587)]) s₁.os K1) 582 587 := w1_facts1 S X' T'.nolimit T'.g T'.b T'.builtins C'.1 (hb _ P1h) C'.2.1 (hb _ P2h)
  have R : (wl1 w (ghostOf s₁.heap [(584, 582), (589, 587)]) s₁.os K1).R (GH.empty.un G1st) s₁ := by
    refine ⟨fun z9 => 0, fun b o e => of_hideAll _ e, fun a g e => ?_, fun a C fs e => ?_, hg, rfl⟩
    · have e : G1st a = some g := by
        cases q : G1st a with
        | none => wide_line with GH.un_left q using e
        | some g2 => rw [GH.un_right q] at e; exact e
      obtain ⟨h1, rfl⟩ := g1_cases e
      rcases h1 with rfl | rfl
      · exact ⟨hideAll_none _ (by simp), P1h⟩
      · exact ⟨hideAll_none _ (by simp), P2h⟩
    · have e : G1st a = some (.inst C fs) := by
        cases q : G1st a with
        | none => wide_line with GH.un_left q using e
        | some g2 => rw [GH.un_right q] at e; exact e
      cases (g1_cases e).2
  have hv : vs.map er = ns.map vInt := by
    clear hL L' hz
    induction hI with
    | nil => rfl
    | cons i t _ ih => simp only [List.map_cons, ih]; rfl
  have D : Disj GH.empty G1st := fun a h => rfl
  have call := law_ F1 (n := 0) (G := G1st) (K := fun v G' => v = .bool true ∧ Tab G' 582 ∧ Tab G' 587) (sc := sc) (us := vs.toArray) (ns := ns) L' (by simpa using hv) (by have := congrArg List.length hv; simp at this; refine (?_ : vs.toArray.size ≤ sizeLine); simp; unfold sizeLine; lia) (by unfold G1st; (wide_line using GH.set_ne _ _ (by decide); wide_open with GH.set_self)) (GH.set_self _ _ _) (by decide) fun G' h1 h2 => (i_AA rfl h1 h2)
  refine codeAny_mono (call callerA (.ref 590) [.ref sc] (i_AA rfl (by decide) (by decide)) rfl rfl GH.empty s₁ D R) fun r s' q => ?_
  rcases r with e | (_ | _ | _ | v)
  · exact q.elim
  · exact q.elim
  · exact q.elim
  · exact q.elim
  · refine o_EAAAA q fun G' D' R' e n95 n96 => ?_; try clear q; obtain ⟨ps1, t1⟩ := n95; obtain ⟨ps2, t2⟩ := n96
    have hvt : v = .bool true := er_bool e
    subst hvt
    refine (i_AAAAAA rfl R'.keep R'.os R'.gens ⟨ps1, ?_⟩ ⟨ps2, ?_⟩ trivial)
    · obtain ⟨_, x⟩ := R'.at (GH.un_right t1); exact x
    · obtain ⟨_, x⟩ := R'.at (GH.un_right t2); exact x
end
end Mine
open PySem PySem.W PySem.Calls PyProof.Rows
namespace Mine
/-! the top, run by the kernel over a tree of objects -/
noncomputable def topRunT (tb : String → Option Builtin) (p : Program) (w : World) (n₀ : Nat) (ann : Option Value) : Nat → SharedT → Thread → Option SharedT
  | 0, _, _ => none
  | n + 1, s, t => match through t with
    | true => some s
    | false => match stepOk n₀ ann t with
      | false => none
      | true => match stepT (denote tb) p w s t with
        | some (s', t') => topRunT tb p w n₀ ann n s' t'
        | none => none
theorem topRunT_of {tb : String → Option Builtin} {p : Program} {w : World} {n₀ : Nat} {ann : Option Value} : ∀ {n : Nat} {s s' : SharedT} {t : Thread}, topRunT tb p w n₀ ann n s t = some s' → topRun tb p w n₀ ann n s.abs t = some s'.abs
  | 0, _, _, _, h => by cases h
  | n + 1, s, s', t, h => by
    unfold topRunT at h
    unfold topRun
    cases he : through t with
    | true => rw [he] at h; cases h; rfl
    | false =>
      rw [he] at h
      cases hk : stepOk n₀ ann t with
      | false => rw [hk] at h; cases h
      | true =>
        rw [hk] at h
        cases hs : stepT (denote tb) p w s t with
        | none => rw [hs] at h; cases h
        | some r => obtain ⟨s₂, t₂⟩ := r; rw [hs] at h; rw [stepT_spec hs]; exact topRunT_of h
noncomputable def treeOf : List Obj → Nat → BT → BT
  | [], _, t => t
  | o :: os, n, t => treeOf os (n + 1) (t.ins n o)
noncomputable def S0 (P : Params) (os : OsState) : SharedT := ⟨treeOf (boot_heap P).objs.toList 0 .nil, 11, (boot_heap P).life, #[], boot_drawn, boot_toks, os⟩
noncomputable abbrev pw : Program := PySem.Challenge.pw_nu0235_01
theorem o1 : opening pw = plainProg pw.main.scope.names := by kernel_rfl
theorem o2 (s : Shared) : fenceModules? pw s = some s := by kernel_rfl
theorem o3 (P : Params) : ((boot_heap P).objs.size, (boot_heap P).isNs mainGlobals, (boot_heap P).nsMap mainGlobals "__annotations__") = (11, true, some (.ref 6)) := by kernel_rfl
theorem o4 (P : Params) (os : OsState) : (S0 P os).abs = ⟨boot_heap P, #[], boot_drawn, boot_toks, os⟩ := by kernel_rfl
noncomputable def keep1 : List Nat := [0, 2, 3, 4, 6, 7, 9, 10, 11, 12, 13, 14, 15, 16, 18, 19, 20, 21, 22, 23, 24, 25, 26, 27, 28, 30, 31, 32, 33, 34, 35, 36, 37, 38, 40, 41, 42, 43, 44, 45, 46, 47, 48, 49, 50, 51, 53, 55, 56, 57, 58, 60, 61, 62, 63, 64]
noncomputable def q1 : Program := view pw keep1
noncomputable def R1 (w : World) (os : OsState) : Option SharedT := topRunT treeTable pw w 11 (some (.ref 6)) 8546 (S0 w.params os) (topStub pw)
noncomputable abbrev Xt1 (s : Shared) : Bool := xlAt q1 [] s && recOk PySem.Challenge.rw_nu0235_01.row.records s
noncomputable abbrev obsT (s : Shared) (P : Params) : ObsT × List (Option Obj) := (obsK pw (fragAt need1 s.heap) P, [582, 587].map s.heap.get?)
noncomputable abbrev goodT (_ : Params) : ObsT × List (Option Obj) := (goodK, [some (tabObj #[]), some (tabObj #[])])
theorem c1 (w : World) (os : OsState) : (R1 w os).map (fun s => (seen ((recsOf q1).map (·.name)) (ownsOf q1) [] { s.abs with gens := #[] }, s.abs.heap.bltView)) = some (expectedOf q1, bltViewBooted) := by kernel_rfl
theorem c2 (w : World) (os : OsState) : (R1 w os).map (fun s => ((staticsOk (importedModules pw.main.body) (boot_heap w.params) s.abs.heap && namesBound pw s.abs.heap && gensDone s.abs && laidKept (boot_heap w.params) s.abs.heap), (s.abs.heap.keysOk (looseW q1 []) ((recsOf q1).map (·.name)) ((litsOf q1).map (·.1)) ((clssOf q1 (looseW q1 [])).map (·.name)) && s.abs.heap.accountedOkI (importedModules pw.main.body) && s.abs.heap.isNs mainGlobals && s.abs.heap.isNs builtinsNs && tablesOk q1 s.abs.heap && Xt1 s.abs && s.abs.gens.size == 0))) = some (true, true) := by kernel_rfl
theorem c3 (w : World) (os : OsState) : (R1 w os).map (fun s => (tabsOk q1 s.abs, pinSeenD q1 (drecsOf q1) s.abs, plainSeenE q1 (looseW q1 []) s.abs)) = some (true, pinGoodD (drecsOf q1), plainGoodE q1 (looseW q1 [])) := by kernel_rfl
theorem c4 (w : World) (os : OsState) : (R1 w os).map (fun s => (plainSeenD q1 [] s.abs, wideSeen q1 s.abs, clsSeenW q1 [] s.abs)) = some (plainGoodD q1 [], wideGood q1, clsGoodW q1 []) := by kernel_rfl
theorem c5 (w : World) (os : OsState) : (R1 w os).map (fun s => (chkL (fragAt need1 s.abs.heap), [582, 587].map s.abs.heap.get?)) = some ([true, true, true, true, true, true, true, true], [some (tabObj #[]), some (tabObj #[])]) := by kernel_rfl
theorem c6 (w : World) (os : OsState) : (R1 w os).map (fun s => fnL.map (fun x => fnTr (fragAt need1 s.abs.heap) AT1 globL x.f x.sp)) = some (fnL.map fun x => some x.sp.body) := by kernel_rfl
theorem c7 (w : World) (os : OsState) : (R1 w os).map (fun s => fun v : Nat → Value => fnL.map fun x => fnBind (fragAt need1 s.abs.heap) ⟨pw, w.params⟩ x.f ((List.range x.k).map v)) = some (fun v => fnL.map fun x => some (x.sp.params.zip ((List.range x.k).map v ++ x.raw))) := by kernel_rfl
end Mine
open PySem PySem.W PySem.Calls PyProof.Rows
set_option maxHeartbeats 8000000
namespace Mine
noncomputable abbrev Yf1 (s : Shared) : Params → ObsT × List (Option Obj) := obsT s
noncomputable def YP1 (w : World) (h : Heap) : Prop := ∃ K, K.In h ∧ Seen1 w K ∧ ∀ P ∈ ([582, 587] : List Addr), h.get? P = some (tabObj #[])
theorem Y_of {w : World} {s : Shared} (e1 : obsK pw (fragAt need1 s.heap) w.params = goodK) (e2 : ([582, 587] : List Addr).map s.heap.get? = [some (tabObj #[]), some (tabObj #[])]) : YP1 w s.heap :=
  ⟨fragAt need1 s.heap, fragAt_in, ⟨e1⟩, fun P hP => List.map_inj_left.mp (show ([582, 587] : List Addr).map s.heap.get? = ([582, 587] : List Addr).map fun _ => some (tabObj #[]) from e2) P hP⟩
theorem Y_keeps (w : World) (h h' : Heap) (Y : YP1 w h) (k : ∀ b o, h.get? b = some o → h'.get? b = some o) : YP1 w h' :=
  let ⟨K, x, S, t⟩ := Y; ⟨K, fun a o e => k a o (x a o e), S, fun P hP => k _ _ (t P hP)⟩
theorem run1 (w : World) : ∃ s₀ z, fencedOpening treeTable pw w 8546 = some s₀ ∧ topFrom treeTable pw w 8546 s₀ = some z.abs ∧ R1 w s₀.os = some z := by
  obtain ⟨s, hs, e⟩ := Option.map_eq_some_iff.mp (boot_open (N := 8546) o1 (by decide) o2 w)
  obtain ⟨h, gs, d, k, os⟩ := s
  have e1 : h = boot_heap w.params := congrArg (fun x => x.1) e
  have e2 : gs = Array.mk [] := congrArg (fun x => x.2.1) e
  have e3 : d = boot_drawn := congrArg (fun x => x.2.2.1) e
  have e4 : k = boot_toks := congrArg (fun x => x.2.2.2) e
  subst e1 e2 e3 e4
  obtain ⟨z, hz, q⟩ := Option.map_eq_some_iff.mp (c2 w os)
  refine ⟨_, z, hs, ?_, hz⟩
  have r := topRunT_of hz
  rw [o4] at r
  have z1 := congrArg (fun x => x.1) (o3 w.params)
  have z2 := congrArg (fun x => x.2.1) (o3 w.params)
  have z3 := congrArg (fun x => x.2.2) (o3 w.params)
  dsimp only at z1 z2 z3
  have l1 := congrArg Prod.fst q
  dsimp only at l1
  unfold topFrom
  dsimp only
  rw [z1, z2, z3]
  show (topRun treeTable pw w 11 (some (.ref 6)) 8546 ⟨boot_heap w.params, #[], boot_drawn, boot_toks, os⟩ (topStub pw)).bind _ = _
  rw [r]
  show (match staticsOk (importedModules pw.main.body) (boot_heap w.params) z.abs.heap && namesBound pw z.abs.heap && gensDone z.abs && laidKept (boot_heap w.params) z.abs.heap with | true => _ | false => _) = _
  rw [l1]
theorem seen_eq {q : Program} {loose mods : List Str} {Xt : Shared → Bool} {s : Shared} (b1 : seen ((recsOf q).map (·.name)) (ownsOf q) [] { s with gens := #[] } = expectedOf q) (b2 : s.heap.bltView = bltViewBooted)
    (b3 : (s.heap.keysOk (looseW q loose) ((recsOf q).map (·.name)) ((litsOf q).map (·.1)) ((clssOf q (looseW q loose)).map (·.name)) && s.heap.accountedOkI mods && s.heap.isNs mainGlobals && s.heap.isNs builtinsNs && tablesOk q s.heap && Xt s && s.gens.size == 0) = true)
    (b4 : tabsOk q s = true) (b5 : pinSeenD q (drecsOf q) s = pinGoodD (drecsOf q)) (b6 : plainSeenE q (looseW q loose) s = plainGoodE q (looseW q loose)) (b7 : plainSeenD q loose s = plainGoodD q loose) (b8 : wideSeen q s = wideGood q) (b9 : clsSeenW q loose s = clsGoodW q loose) :
    openSeen q loose mods Xt true s = openGood q loose :=
  looks_pair b1 (looks_pair b2 (looks_pair b3 (looks_pair b4 (looks_pair b5 (looks_pair b6 (looks_pair b7 (looks_pair b8 b9)))))))
theorem left_gen {p q : Program} {loose : List Str} {Xt : Shared → Bool} {α : Type} {Yf : Shared → α} {Ya : α} {N : Nat} {w : World} {s₀ z : Shared} (h1 : fencedOpening treeTable p w N = some s₀) (h2 : topFrom treeTable p w N s₀ = some z)
    (g : openSeen q loose (importedModules p.main.body) Xt true z = openGood q loose) (y : Yf z = Ya) : (openEnds treeTable p w N).map (fun s => (openSeen q loose (importedModules p.main.body) Xt true s, Yf s)) = some (openGood q loose, Ya) := by
  unfold openEnds
  rw [h1]
  show (topFrom treeTable p w N s₀).map _ = _
  rw [h2]
  exact congrArg some (looks_pair g y)
theorem map_inj {α β : Type} {f : α → β} {o : Option α} {z : α} {v : β} (c : o.map f = some v) (h : o = some z) : f z = v := by subst h; exact Option.some.inj c
theorem good1 {w : World} {os : OsState} {z : SharedT} (h3 : R1 w os = some z) : openSeen q1 [] (importedModules pw.main.body) Xt1 true z.abs = openGood q1 [] := by
  have f1 := map_inj (c1 w os) h3
  have d1 := Prod.mk.inj f1
  have f2 := map_inj (c2 w os) h3
  have d2 := Prod.mk.inj f2
  have f3 := map_inj (c3 w os) h3
  have d3 := Prod.mk.inj f3
  have f4 := map_inj (c4 w os) h3
  have d4 := Prod.mk.inj f4
  have e3 := Prod.mk.inj d3.2
  have e4 := Prod.mk.inj d4.2
  exact seen_eq (q := q1) (loose := []) (mods := importedModules pw.main.body) (Xt := Xt1) (s := z.abs) d1.1 d1.2 d2.2 d3.1 e3.1 e3.2 d4.1 e4.1 e4.2
theorem left1 : LeftO pw q1 [] Xt1 (fun s => some s) (fun w => (fencedOpening treeTable pw w 8546).bind (topFrom treeTable pw w 8546)) 8546 := fun w => by
  obtain ⟨s₀, z, h1, h2, h3⟩ := run1 w
  refine left_gen h1 h2 (good1 h3) ?_
  show some z.abs = (fencedOpening treeTable pw w 8546).bind (topFrom treeTable pw w 8546)
  rw [h1, Option.bind_some, h2]
theorem Y_end (w : World) (s : Shared) (e : some s = (fencedOpening treeTable pw w 8546).bind (topFrom treeTable pw w 8546)) : YP1 w s.heap := by
  obtain ⟨s₀, z, h1, h2, h3⟩ := run1 w
  have es : s = z.abs := by
    rw [h1] at e
    have e : some s = topFrom treeTable pw w 8546 s₀ := e
    rw [h2] at e
    exact Option.some.inj e
  subst es
  have d5 := c5 w s₀.os
  have d6 := c6 w s₀.os
  have d7 := c7 w s₀.os
  rw [h3] at d5 d6 d7
  have d5 := Option.some.inj d5
  have d6 := Option.some.inj d6
  have d7 := Option.some.inj d7
  exact Y_of (looks_pair (congrArg (fun x => x.1) d5) (looks_pair d6 d7)) (congrArg (fun x => x.2) d5)
theorem dk_some : (defOf q1 (Str.ofString "law")).isSome = true := by kernel_rfl
noncomputable def dk : DefRec × List (Str × PySem.Expr) := (defOf q1 (Str.ofString "law")).get dk_some
end Mine
set_option maxRecDepth 100000 in
set_option maxHeartbeats 8000000 in
set_option tactic.hygienic true in
theorem PySem.Challenge.cw_nu0235_01_holds : PySem.Challenge.rw_nu0235_01.Holds := by
  w_on
  refine holds_law (by kernel_rfl) fun said => ?_
  refine holds_open (q := Mine.q1) (loose := []) (Xt := Mine.Xt1) (XP := XL Mine.q1 []) (YP := Mine.YP1) (d := Mine.dk.1) (kwd := Mine.dk.2) (N := 8546) Mine.left1 Mine.Y_end Mine.Y_keeps (fun s e => xl_of s (Bool.and_eq_true_iff.mp e).1) XL.keeps
    (Option.some_get Mine.dk_some).symm (by kernel_rfl) (by kernel_rfl) (fun s e => recFacts_of (Bool.and_eq_true_iff.mp e).2) (by kernel_rfl) said (by kernel_rfl) ⟨rfl, rfl, rfl, rfl, rfl, by decide +kernel⟩ ?hw ?hc
  case hw => w_witness2
  case hc =>
    intro w s₀ s₁ mg mb G Y fa o pm cd doc dV kV ho hd hcd hD hmg hg args vals as hpre hlay hrd hwl hlo
    obtain ⟨K1, KX, S, hT8⟩ := Y
    have X := (Ground.X G).1
    have V := (Ground.X G).2
    refine Ground.open G ?_
    intro T B D TE TW
    try (refine guard_noD D (by decide +kernel) ?_; clear D)
    have hT9 : TabsAt [(584, 582), (589, 587)] s₁.heap := fun q hq => by
      rcases List.mem_cons.mp hq with rfl | hq
      · exact ⟨codeHd_of_K KX (S.chk (i := 4) rfl (by decide)), hT8 582 (.head _)⟩
      · obtain rfl := List.mem_singleton.mp hq
        exact ⟨codeHd_of_K KX (S.chk (i := 5) rfl (by decide)), hT8 587 (.tail _ (.head _))⟩
    have hfa := mg_of KX (Top.g T) (Mine.nm_of (S.chk (i := 7) rfl (by decide)))
    have hmg' : mg (Str.ofString "law") = some (.ref fa) := hmg
    rw [hmg'] at hfa
    cases hfa
    clear hmg hmg'
    wrow_args hpre hlay hrd hwl hlo
    refine enter_call ?_
    w_top on
    kn_posts
    clear hd hcd hD
    rename_i ns _ _ _ _ _ _ _ sc vs _ hL _ _ _ hI _ hc1 _
    refine codeAny_mono (Mine.law1_run S KX hT9 T hg hL hI (by omega)) fun r s' q => ?_
    obtain ⟨rfl, h1, h2, h3, h4⟩ := q
    refine ⟨⟨.inl ⟨_, .bool true, [], rfl, fun _ => rfl, .bool true, ?post, unshared_nil⟩, h1, h2, h3⟩, h4⟩
    case post => first | kernel_rfl | wrow_post
