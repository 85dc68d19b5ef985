import PyProof.Rows.All
import Wide.All
import OpenK.AllK
import Wide.FinOn
import PySem.Challenge.RW_nu0235_02
set_option Elab.async false
set_option maxRecDepth 100000
set_option linter.all false
set_option bootstrap.genMatcherCode false
set_option tactic.hygienic false
set_option genSizeOf false
namespace Mine
theorem x_ns {T : Type _} {a : T} {P : Prop} (h : Option.none = some a) : P := nomatch h
theorem x_sn {T : Type _} {a : T} {P : Prop} (h : some a = Option.none) : P := nomatch h
theorem x_ft {P : Prop} (h : false = true) : P := nomatch h
theorem x_tf {P : Prop} (h : true = false) : P := nomatch h
theorem o_AA {P0 : Prop} {P1 : Prop} {P2 : Prop} {G : Prop} (h : (P0) ∧ (P1) ∧ P2) (k : P0 → P1 → P2 → G) : G := by rcases h with ⟨h0, h1, h2⟩; exact k h0 h1 h2
theorem o_EA {T0 : Sort _} {P0 : T0 → Prop} {P1 : T0 → Prop} {G : Prop} (h : ∃ x0 : T0, (P0 x0) ∧ P1 x0) (k : ∀ x0, P0 x0 → P1 x0 → G) : G := by rcases h with ⟨x0, h0, h1⟩; exact k x0 h0 h1
theorem o_EE {T0 : Sort _} {T1 : Sort _} {P0 : T0 → T1 → Prop} {G : Prop} (h : ∃ x0 : T0, ∃ x1 : T1, P0 x0 x1) (k : ∀ x0, ∀ x1, P0 x0 x1 → G) : G := by rcases h with ⟨x0, x1, h0⟩; exact k x0 x1 h0
theorem o_AAA {P0 : Prop} {P1 : Prop} {P2 : Prop} {P3 : Prop} {G : Prop} (h : (P0) ∧ (P1) ∧ (P2) ∧ P3) (k : P0 → P1 → P2 → P3 → G) : G := by rcases h with ⟨h0, h1, h2, h3⟩; exact k h0 h1 h2 h3
theorem o_AEA {T0 : Sort _} {P0 : Prop} {P1 : T0 → Prop} {P2 : T0 → Prop} {G : Prop} (h : (P0) ∧ ∃ x0 : T0, (P1 x0) ∧ P2 x0) (k : P0 → ∀ x0, P1 x0 → P2 x0 → G) : G := by rcases h with ⟨h0, x0, h1, h2⟩; exact k h0 x0 h1 h2
theorem o_AEE {T0 : Sort _} {T1 : Sort _} {P0 : Prop} {P1 : T0 → T1 → Prop} {G : Prop} (h : (P0) ∧ ∃ x0 : T0, ∃ x1 : T1, P1 x0 x1) (k : P0 → ∀ x0, ∀ x1, P1 x0 x1 → G) : G := by rcases h with ⟨h0, x0, x1, h1⟩; exact k h0 x0 x1 h1
theorem o_EAA {T0 : Sort _} {P0 : T0 → Prop} {P1 : T0 → Prop} {P2 : T0 → Prop} {G : Prop} (h : ∃ x0 : T0, (P0 x0) ∧ (P1 x0) ∧ P2 x0) (k : ∀ x0, P0 x0 → P1 x0 → P2 x0 → G) : G := by rcases h with ⟨x0, h0, h1, h2⟩; exact k x0 h0 h1 h2
theorem o_EEA {T0 : Sort _} {T1 : Sort _} {P0 : T0 → T1 → Prop} {P1 : T0 → T1 → Prop} {G : Prop} (h : ∃ x0 : T0, ∃ x1 : T1, (P0 x0 x1) ∧ P1 x0 x1) (k : ∀ x0, ∀ x1, P0 x0 x1 → P1 x0 x1 → G) : G := by rcases h with ⟨x0, x1, h0, h1⟩; exact k x0 x1 h0 h1
theorem o_EEE {T0 : Sort _} {T1 : Sort _} {T2 : Sort _} {P0 : T0 → T1 → T2 → Prop} {G : Prop} (h : ∃ x0 : T0, ∃ x1 : T1, ∃ x2 : T2, P0 x0 x1 x2) (k : ∀ x0, ∀ x1, ∀ x2, P0 x0 x1 x2 → G) : G := by rcases h with ⟨x0, x1, x2, h0⟩; exact k x0 x1 x2 h0
theorem o_AAAA {P0 : Prop} {P1 : Prop} {P2 : Prop} {P3 : Prop} {P4 : Prop} {G : Prop} (h : (P0) ∧ (P1) ∧ (P2) ∧ (P3) ∧ P4) (k : P0 → P1 → P2 → P3 → P4 → G) : G := by rcases h with ⟨h0, h1, h2, h3, h4⟩; exact k h0 h1 h2 h3 h4
theorem o_AAEA {T0 : Sort _} {P0 : Prop} {P1 : Prop} {P2 : T0 → Prop} {P3 : T0 → Prop} {G : Prop} (h : (P0) ∧ (P1) ∧ ∃ x0 : T0, (P2 x0) ∧ P3 x0) (k : P0 → P1 → ∀ x0, P2 x0 → P3 x0 → G) : G := by rcases h with ⟨h0, h1, x0, h2, h3⟩; exact k h0 h1 x0 h2 h3
theorem o_AAEE {T0 : Sort _} {T1 : Sort _} {P0 : Prop} {P1 : Prop} {P2 : T0 → T1 → Prop} {G : Prop} (h : (P0) ∧ (P1) ∧ ∃ x0 : T0, ∃ x1 : T1, P2 x0 x1) (k : P0 → P1 → ∀ x0, ∀ x1, P2 x0 x1 → G) : G := by rcases h with ⟨h0, h1, x0, x1, h2⟩; exact k h0 h1 x0 x1 h2
theorem o_AEAA {T0 : Sort _} {P0 : Prop} {P1 : T0 → Prop} {P2 : T0 → Prop} {P3 : T0 → Prop} {G : Prop} (h : (P0) ∧ ∃ x0 : T0, (P1 x0) ∧ (P2 x0) ∧ P3 x0) (k : P0 → ∀ x0, P1 x0 → P2 x0 → P3 x0 → G) : G := by rcases h with ⟨h0, x0, h1, h2, h3⟩; exact k h0 x0 h1 h2 h3
theorem o_AEEA {T0 : Sort _} {T1 : Sort _} {P0 : Prop} {P1 : T0 → T1 → Prop} {P2 : T0 → T1 → Prop} {G : Prop} (h : (P0) ∧ ∃ x0 : T0, ∃ x1 : T1, (P1 x0 x1) ∧ P2 x0 x1) (k : P0 → ∀ x0, ∀ x1, P1 x0 x1 → P2 x0 x1 → G) : G := by rcases h with ⟨h0, x0, x1, h1, h2⟩; exact k h0 x0 x1 h1 h2
theorem o_AEEE {T0 : Sort _} {T1 : Sort _} {T2 : Sort _} {P0 : Prop} {P1 : T0 → T1 → T2 → Prop} {G : Prop} (h : (P0) ∧ ∃ x0 : T0, ∃ x1 : T1, ∃ x2 : T2, P1 x0 x1 x2) (k : P0 → ∀ x0, ∀ x1, ∀ x2, P1 x0 x1 x2 → G) : G := by rcases h with ⟨h0, x0, x1, x2, h1⟩; exact k h0 x0 x1 x2 h1
theorem o_EAAA {T0 : Sort _} {P0 : T0 → Prop} {P1 : T0 → Prop} {P2 : T0 → Prop} {P3 : T0 → Prop} {G : Prop} (h : ∃ x0 : T0, (P0 x0) ∧ (P1 x0) ∧ (P2 x0) ∧ P3 x0) (k : ∀ x0, P0 x0 → P1 x0 → P2 x0 → P3 x0 → G) : G := by rcases h with ⟨x0, h0, h1, h2, h3⟩; exact k x0 h0 h1 h2 h3
theorem o_EAAE {T0 : Sort _} {T1 : Sort _} {P0 : T0 → Prop} {P1 : T0 → Prop} {P2 : T0 → T1 → Prop} {G : Prop} (h : ∃ x0 : T0, (P0 x0) ∧ (P1 x0) ∧ ∃ x1 : T1, P2 x0 x1) (k : ∀ x0, P0 x0 → P1 x0 → ∀ x1, P2 x0 x1 → G) : G := by rcases h with ⟨x0, h0, h1, x1, h2⟩; exact k x0 h0 h1 x1 h2
theorem o_EEAA {T0 : Sort _} {T1 : Sort _} {P0 : T0 → T1 → Prop} {P1 : T0 → T1 → Prop} {P2 : T0 → T1 → Prop} {G : Prop} (h : ∃ x0 : T0, ∃ x1 : T1, (P0 x0 x1) ∧ (P1 x0 x1) ∧ P2 x0 x1) (k : ∀ x0, ∀ x1, P0 x0 x1 → P1 x0 x1 → P2 x0 x1 → G) : G := by rcases h with ⟨x0, x1, h0, h1, h2⟩; exact k x0 x1 h0 h1 h2
theorem o_EEEA {T0 : Sort _} {T1 : Sort _} {T2 : Sort _} {P0 : T0 → T1 → T2 → Prop} {P1 : T0 → T1 → T2 → Prop} {G : Prop} (h : ∃ x0 : T0, ∃ x1 : T1, ∃ x2 : T2, (P0 x0 x1 x2) ∧ P1 x0 x1 x2) (k : ∀ x0, ∀ x1, ∀ x2, P0 x0 x1 x2 → P1 x0 x1 x2 → G) : G := by rcases h with ⟨x0, x1, x2, h0, h1⟩; exact k x0 x1 x2 h0 h1
theorem o_EEEE {T0 : Sort _} {T1 : Sort _} {T2 : Sort _} {T3 : Sort _} {P0 : T0 → T1 → T2 → T3 → Prop} {G : Prop} (h : ∃ x0 : T0, ∃ x1 : T1, ∃ x2 : T2, ∃ x3 : T3, P0 x0 x1 x2 x3) (k : ∀ x0, ∀ x1, ∀ x2, ∀ x3, P0 x0 x1 x2 x3 → G) : G := by rcases h with ⟨x0, x1, x2, x3, h0⟩; exact k x0 x1 x2 x3 h0
theorem o_AAAAA {P0 : Prop} {P1 : Prop} {P2 : Prop} {P3 : Prop} {P4 : Prop} {P5 : Prop} {G : Prop} (h : (P0) ∧ (P1) ∧ (P2) ∧ (P3) ∧ (P4) ∧ P5) (k : P0 → P1 → P2 → P3 → P4 → P5 → G) : G := o_AAA h fun h0 h1 h2 h => o_AA h fun h3 h4 h5 => k h0 h1 h2 h3 h4 h5
theorem o_AEAAA {T0 : Sort _} {P0 : Prop} {P1 : T0 → Prop} {P2 : T0 → Prop} {P3 : T0 → Prop} {P4 : T0 → Prop} {G : Prop} (h : (P0) ∧ ∃ x0 : T0, (P1 x0) ∧ (P2 x0) ∧ (P3 x0) ∧ P4 x0) (k : P0 → ∀ x0, P1 x0 → P2 x0 → P3 x0 → P4 x0 → G) : G := o_AEA h fun h0 x0 h1 h => o_AA h fun h2 h3 h4 => k h0 x0 h1 h2 h3 h4
theorem o_AEEAA {T0 : Sort _} {T1 : Sort _} {P0 : Prop} {P1 : T0 → T1 → Prop} {P2 : T0 → T1 → Prop} {P3 : T0 → T1 → Prop} {G : Prop} (h : (P0) ∧ ∃ x0 : T0, ∃ x1 : T1, (P1 x0 x1) ∧ (P2 x0 x1) ∧ P3 x0 x1) (k : P0 → ∀ x0, ∀ x1, P1 x0 x1 → P2 x0 x1 → P3 x0 x1 → G) : G := o_AEE h fun h0 x0 x1 h => o_AA h fun h1 h2 h3 => k h0 x0 x1 h1 h2 h3
theorem o_EAAAA {T0 : Sort _} {P0 : T0 → Prop} {P1 : T0 → Prop} {P2 : T0 → Prop} {P3 : T0 → Prop} {P4 : T0 → Prop} {G : Prop} (h : ∃ x0 : T0, (P0 x0) ∧ (P1 x0) ∧ (P2 x0) ∧ (P3 x0) ∧ P4 x0) (k : ∀ x0, P0 x0 → P1 x0 → P2 x0 → P3 x0 → P4 x0 → G) : G := o_EAA h fun x0 h0 h1 h => o_AA h fun h2 h3 h4 => k x0 h0 h1 h2 h3 h4
theorem o_EAAEA {T0 : Sort _} {T1 : Sort _} {P0 : T0 → Prop} {P1 : T0 → Prop} {P2 : T0 → T1 → Prop} {P3 : T0 → T1 → Prop} {G : Prop} (h : ∃ x0 : T0, (P0 x0) ∧ (P1 x0) ∧ ∃ x1 : T1, (P2 x0 x1) ∧ P3 x0 x1) (k : ∀ x0, P0 x0 → P1 x0 → ∀ x1, P2 x0 x1 → P3 x0 x1 → G) : G := o_EAA h fun x0 h0 h1 h => o_EA h fun x1 h2 h3 => k x0 h0 h1 x1 h2 h3
theorem o_EEAAA {T0 : Sort _} {T1 : Sort _} {P0 : T0 → T1 → Prop} {P1 : T0 → T1 → Prop} {P2 : T0 → T1 → Prop} {P3 : T0 → T1 → Prop} {G : Prop} (h : ∃ x0 : T0, ∃ x1 : T1, (P0 x0 x1) ∧ (P1 x0 x1) ∧ (P2 x0 x1) ∧ P3 x0 x1) (k : ∀ x0, ∀ x1, P0 x0 x1 → P1 x0 x1 → P2 x0 x1 → P3 x0 x1 → G) : G := o_EEA h fun x0 x1 h0 h => o_AA h fun h1 h2 h3 => k x0 x1 h0 h1 h2 h3
theorem o_EEEAA {T0 : Sort _} {T1 : Sort _} {T2 : Sort _} {P0 : T0 → T1 → T2 → Prop} {P1 : T0 → T1 → T2 → Prop} {P2 : T0 → T1 → T2 → Prop} {G : Prop} (h : ∃ x0 : T0, ∃ x1 : T1, ∃ x2 : T2, (P0 x0 x1 x2) ∧ (P1 x0 x1 x2) ∧ P2 x0 x1 x2) (k : ∀ x0, ∀ x1, ∀ x2, P0 x0 x1 x2 → P1 x0 x1 x2 → P2 x0 x1 x2 → G) : G := o_EEE h fun x0 x1 x2 h => o_AA h fun h0 h1 h2 => k x0 x1 x2 h0 h1 h2
theorem o_EEEEA {T0 : Sort _} {T1 : Sort _} {T2 : Sort _} {T3 : Sort _} {P0 : T0 → T1 → T2 → T3 → Prop} {P1 : T0 → T1 → T2 → T3 → Prop} {G : Prop} (h : ∃ x0 : T0, ∃ x1 : T1, ∃ x2 : T2, ∃ x3 : T3, (P0 x0 x1 x2 x3) ∧ P1 x0 x1 x2 x3) (k : ∀ x0, ∀ x1, ∀ x2, ∀ x3, P0 x0 x1 x2 x3 → P1 x0 x1 x2 x3 → G) : G := o_EEE h fun x0 x1 x2 h => o_EA h fun x3 h0 h1 => k x0 x1 x2 x3 h0 h1
theorem o_EEEEE {T0 : Sort _} {T1 : Sort _} {T2 : Sort _} {T3 : Sort _} {T4 : Sort _} {P0 : T0 → T1 → T2 → T3 → T4 → Prop} {G : Prop} (h : ∃ x0 : T0, ∃ x1 : T1, ∃ x2 : T2, ∃ x3 : T3, ∃ x4 : T4, P0 x0 x1 x2 x3 x4) (k : ∀ x0, ∀ x1, ∀ x2, ∀ x3, ∀ x4, P0 x0 x1 x2 x3 x4 → G) : G := o_EEE h fun x0 x1 x2 h => o_EE h fun x3 x4 h0 => k x0 x1 x2 x3 x4 h0
theorem o_EAAEAA {T0 : Sort _} {T1 : Sort _} {P0 : T0 → Prop} {P1 : T0 → Prop} {P2 : T0 → T1 → Prop} {P3 : T0 → T1 → Prop} {P4 : T0 → T1 → Prop} {G : Prop} (h : ∃ x0 : T0, (P0 x0) ∧ (P1 x0) ∧ ∃ x1 : T1, (P2 x0 x1) ∧ (P3 x0 x1) ∧ P4 x0 x1) (k : ∀ x0, P0 x0 → P1 x0 → ∀ x1, P2 x0 x1 → P3 x0 x1 → P4 x0 x1 → G) : G := o_EAA h fun x0 h0 h1 h => o_EAA h fun x1 h2 h3 h4 => k x0 h0 h1 x1 h2 h3 h4
theorem o_EEAAAA {T0 : Sort _} {T1 : Sort _} {P0 : T0 → T1 → Prop} {P1 : T0 → T1 → Prop} {P2 : T0 → T1 → Prop} {P3 : T0 → T1 → Prop} {P4 : T0 → T1 → Prop} {G : Prop} (h : ∃ x0 : T0, ∃ x1 : T1, (P0 x0 x1) ∧ (P1 x0 x1) ∧ (P2 x0 x1) ∧ (P3 x0 x1) ∧ P4 x0 x1) (k : ∀ x0, ∀ x1, P0 x0 x1 → P1 x0 x1 → P2 x0 x1 → P3 x0 x1 → P4 x0 x1 → G) : G := o_EEA h fun x0 x1 h0 h => o_AAA h fun h1 h2 h3 h4 => k x0 x1 h0 h1 h2 h3 h4
theorem o_EEEAAA {T0 : Sort _} {T1 : Sort _} {T2 : Sort _} {P0 : T0 → T1 → T2 → Prop} {P1 : T0 → T1 → T2 → Prop} {P2 : T0 → T1 → T2 → Prop} {P3 : T0 → T1 → T2 → Prop} {G : Prop} (h : ∃ x0 : T0, ∃ x1 : T1, ∃ x2 : T2, (P0 x0 x1 x2) ∧ (P1 x0 x1 x2) ∧ (P2 x0 x1 x2) ∧ P3 x0 x1 x2) (k : ∀ x0, ∀ x1, ∀ x2, P0 x0 x1 x2 → P1 x0 x1 x2 → P2 x0 x1 x2 → P3 x0 x1 x2 → G) : G := o_EEE h fun x0 x1 x2 h => o_AAA h fun h0 h1 h2 h3 => k x0 x1 x2 h0 h1 h2 h3
theorem o_EEEEEA {T0 : Sort _} {T1 : Sort _} {T2 : Sort _} {T3 : Sort _} {T4 : Sort _} {P0 : T0 → T1 → T2 → T3 → T4 → Prop} {P1 : T0 → T1 → T2 → T3 → T4 → Prop} {G : Prop} (h : ∃ x0 : T0, ∃ x1 : T1, ∃ x2 : T2, ∃ x3 : T3, ∃ x4 : T4, (P0 x0 x1 x2 x3 x4) ∧ P1 x0 x1 x2 x3 x4) (k : ∀ x0, ∀ x1, ∀ x2, ∀ x3, ∀ x4, P0 x0 x1 x2 x3 x4 → P1 x0 x1 x2 x3 x4 → G) : G := o_EEE h fun x0 x1 x2 h => o_EEA h fun x3 x4 h0 h1 => k x0 x1 x2 x3 x4 h0 h1
theorem o_EEAAAAA {T0 : Sort _} {T1 : Sort _} {P0 : T0 → T1 → Prop} {P1 : T0 → T1 → Prop} {P2 : T0 → T1 → Prop} {P3 : T0 → T1 → Prop} {P4 : T0 → T1 → Prop} {P5 : T0 → T1 → Prop} {G : Prop} (h : ∃ x0 : T0, ∃ x1 : T1, (P0 x0 x1) ∧ (P1 x0 x1) ∧ (P2 x0 x1) ∧ (P3 x0 x1) ∧ (P4 x0 x1) ∧ P5 x0 x1) (k : ∀ x0, ∀ x1, P0 x0 x1 → P1 x0 x1 → P2 x0 x1 → P3 x0 x1 → P4 x0 x1 → P5 x0 x1 → G) : G := o_EEAA h fun x0 x1 h0 h1 h => o_AAA h fun h2 h3 h4 h5 => k x0 x1 h0 h1 h2 h3 h4 h5
theorem o_EEEAAAA {T0 : Sort _} {T1 : Sort _} {T2 : Sort _} {P0 : T0 → T1 → T2 → Prop} {P1 : T0 → T1 → T2 → Prop} {P2 : T0 → T1 → T2 → Prop} {P3 : T0 → T1 → T2 → Prop} {P4 : T0 → T1 → T2 → Prop} {G : Prop} (h : ∃ x0 : T0, ∃ x1 : T1, ∃ x2 : T2, (P0 x0 x1 x2) ∧ (P1 x0 x1 x2) ∧ (P2 x0 x1 x2) ∧ (P3 x0 x1 x2) ∧ P4 x0 x1 x2) (k : ∀ x0, ∀ x1, ∀ x2, P0 x0 x1 x2 → P1 x0 x1 x2 → P2 x0 x1 x2 → P3 x0 x1 x2 → P4 x0 x1 x2 → G) : G := o_EEEA h fun x0 x1 x2 h0 h => o_AAA h fun h1 h2 h3 h4 => k x0 x1 x2 h0 h1 h2 h3 h4
theorem o_EEEEAAA {T0 : Sort _} {T1 : Sort _} {T2 : Sort _} {T3 : Sort _} {P0 : T0 → T1 → T2 → T3 → Prop} {P1 : T0 → T1 → T2 → T3 → Prop} {P2 : T0 → T1 → T2 → T3 → Prop} {P3 : T0 → T1 → T2 → T3 → Prop} {G : Prop} (h : ∃ x0 : T0, ∃ x1 : T1, ∃ x2 : T2, ∃ x3 : T3, (P0 x0 x1 x2 x3) ∧ (P1 x0 x1 x2 x3) ∧ (P2 x0 x1 x2 x3) ∧ P3 x0 x1 x2 x3) (k : ∀ x0, ∀ x1, ∀ x2, ∀ x3, P0 x0 x1 x2 x3 → P1 x0 x1 x2 x3 → P2 x0 x1 x2 x3 → P3 x0 x1 x2 x3 → G) : G := o_EEEE h fun x0 x1 x2 x3 h => o_AAA h fun h0 h1 h2 h3 => k x0 x1 x2 x3 h0 h1 h2 h3
theorem o_EEEAAAAA {T0 : Sort _} {T1 : Sort _} {T2 : Sort _} {P0 : T0 → T1 → T2 → Prop} {P1 : T0 → T1 → T2 → Prop} {P2 : T0 → T1 → T2 → Prop} {P3 : T0 → T1 → T2 → Prop} {P4 : T0 → T1 → T2 → Prop} {P5 : T0 → T1 → T2 → Prop} {G : Prop} (h : ∃ x0 : T0, ∃ x1 : T1, ∃ x2 : T2, (P0 x0 x1 x2) ∧ (P1 x0 x1 x2) ∧ (P2 x0 x1 x2) ∧ (P3 x0 x1 x2) ∧ (P4 x0 x1 x2) ∧ P5 x0 x1 x2) (k : ∀ x0, ∀ x1, ∀ x2, P0 x0 x1 x2 → P1 x0 x1 x2 → P2 x0 x1 x2 → P3 x0 x1 x2 → P4 x0 x1 x2 → P5 x0 x1 x2 → G) : G := o_EEEA h fun x0 x1 x2 h0 h => o_AAAA h fun h1 h2 h3 h4 h5 => k x0 x1 x2 h0 h1 h2 h3 h4 h5
theorem o_EEEAAAEA {T0 : Sort _} {T1 : Sort _} {T2 : Sort _} {T3 : Sort _} {P0 : T0 → T1 → T2 → Prop} {P1 : T0 → T1 → T2 → Prop} {P2 : T0 → T1 → T2 → Prop} {P3 : T0 → T1 → T2 → T3 → Prop} {P4 : T0 → T1 → T2 → T3 → Prop} {G : Prop} (h : ∃ x0 : T0, ∃ x1 : T1, ∃ x2 : T2, (P0 x0 x1 x2) ∧ (P1 x0 x1 x2) ∧ (P2 x0 x1 x2) ∧ ∃ x3 : T3, (P3 x0 x1 x2 x3) ∧ P4 x0 x1 x2 x3) (k : ∀ x0, ∀ x1, ∀ x2, P0 x0 x1 x2 → P1 x0 x1 x2 → P2 x0 x1 x2 → ∀ x3, P3 x0 x1 x2 x3 → P4 x0 x1 x2 x3 → G) : G := o_EEEA h fun x0 x1 x2 h0 h => o_AAEA h fun h1 h2 x3 h3 h4 => k x0 x1 x2 h0 h1 h2 x3 h3 h4
theorem o_EEEEAAAA {T0 : Sort _} {T1 : Sort _} {T2 : Sort _} {T3 : Sort _} {P0 : T0 → T1 → T2 → T3 → Prop} {P1 : T0 → T1 → T2 → T3 → Prop} {P2 : T0 → T1 → T2 → T3 → Prop} {P3 : T0 → T1 → T2 → T3 → Prop} {P4 : T0 → T1 → T2 → T3 → Prop} {G : Prop} (h : ∃ x0 : T0, ∃ x1 : T1, ∃ x2 : T2, ∃ x3 : T3, (P0 x0 x1 x2 x3) ∧ (P1 x0 x1 x2 x3) ∧ (P2 x0 x1 x2 x3) ∧ (P3 x0 x1 x2 x3) ∧ P4 x0 x1 x2 x3) (k : ∀ x0, ∀ x1, ∀ x2, ∀ x3, P0 x0 x1 x2 x3 → P1 x0 x1 x2 x3 → P2 x0 x1 x2 x3 → P3 x0 x1 x2 x3 → P4 x0 x1 x2 x3 → G) : G := o_EEEE h fun x0 x1 x2 x3 h => o_AAAA h fun h0 h1 h2 h3 h4 => k x0 x1 x2 x3 h0 h1 h2 h3 h4
theorem o_AAAAAAAAA {P0 : Prop} {P1 : Prop} {P2 : Prop} {P3 : Prop} {P4 : Prop} {P5 : Prop} {P6 : Prop} {P7 : Prop} {P8 : Prop} {P9 : Prop} {G : Prop} (h : (P0) ∧ (P1) ∧ (P2) ∧ (P3) ∧ (P4) ∧ (P5) ∧ (P6) ∧ (P7) ∧ (P8) ∧ P9) (k : P0 → P1 → P2 → P3 → P4 → P5 → P6 → P7 → P8 → P9 → G) : G := o_AAA h fun h0 h1 h2 h => o_AAA h fun h3 h4 h5 h => o_AAA h fun h6 h7 h8 h9 => k h0 h1 h2 h3 h4 h5 h6 h7 h8 h9
theorem o_AEEEAAAAA {T0 : Sort _} {T1 : Sort _} {T2 : Sort _} {P0 : Prop} {P1 : T0 → T1 → T2 → Prop} {P2 : T0 → T1 → T2 → Prop} {P3 : T0 → T1 → T2 → Prop} {P4 : T0 → T1 → T2 → Prop} {P5 : T0 → T1 → T2 → Prop} {P6 : T0 → T1 → T2 → Prop} {G : Prop} (h : (P0) ∧ ∃ x0 : T0, ∃ x1 : T1, ∃ x2 : T2, (P1 x0 x1 x2) ∧ (P2 x0 x1 x2) ∧ (P3 x0 x1 x2) ∧ (P4 x0 x1 x2) ∧ (P5 x0 x1 x2) ∧ P6 x0 x1 x2) (k : P0 → ∀ x0, ∀ x1, ∀ x2, P1 x0 x1 x2 → P2 x0 x1 x2 → P3 x0 x1 x2 → P4 x0 x1 x2 → P5 x0 x1 x2 → P6 x0 x1 x2 → G) : G := o_AEE h fun h0 x0 x1 h => o_EAA h fun x2 h1 h2 h => o_AAA h fun h3 h4 h5 h6 => k h0 x0 x1 x2 h1 h2 h3 h4 h5 h6
theorem o_AEEEEAAAA {T0 : Sort _} {T1 : Sort _} {T2 : Sort _} {T3 : Sort _} {P0 : Prop} {P1 : T0 → T1 → T2 → T3 → Prop} {P2 : T0 → T1 → T2 → T3 → Prop} {P3 : T0 → T1 → T2 → T3 → Prop} {P4 : T0 → T1 → T2 → T3 → Prop} {P5 : T0 → T1 → T2 → T3 → Prop} {G : Prop} (h : (P0) ∧ ∃ x0 : T0, ∃ x1 : T1, ∃ x2 : T2, ∃ x3 : T3, (P1 x0 x1 x2 x3) ∧ (P2 x0 x1 x2 x3) ∧ (P3 x0 x1 x2 x3) ∧ (P4 x0 x1 x2 x3) ∧ P5 x0 x1 x2 x3) (k : P0 → ∀ x0, ∀ x1, ∀ x2, ∀ x3, P1 x0 x1 x2 x3 → P2 x0 x1 x2 x3 → P3 x0 x1 x2 x3 → P4 x0 x1 x2 x3 → P5 x0 x1 x2 x3 → G) : G := o_AEE h fun h0 x0 x1 h => o_EEA h fun x2 x3 h1 h => o_AAA h fun h2 h3 h4 h5 => k h0 x0 x1 x2 x3 h1 h2 h3 h4 h5
theorem o_EEEEEAAAA {T0 : Sort _} {T1 : Sort _} {T2 : Sort _} {T3 : Sort _} {T4 : Sort _} {P0 : T0 → T1 → T2 → T3 → T4 → Prop} {P1 : T0 → T1 → T2 → T3 → T4 → Prop} {P2 : T0 → T1 → T2 → T3 → T4 → Prop} {P3 : T0 → T1 → T2 → T3 → T4 → Prop} {P4 : T0 → T1 → T2 → T3 → T4 → Prop} {G : Prop} (h : ∃ x0 : T0, ∃ x1 : T1, ∃ x2 : T2, ∃ x3 : T3, ∃ x4 : T4, (P0 x0 x1 x2 x3 x4) ∧ (P1 x0 x1 x2 x3 x4) ∧ (P2 x0 x1 x2 x3 x4) ∧ (P3 x0 x1 x2 x3 x4) ∧ P4 x0 x1 x2 x3 x4) (k : ∀ x0, ∀ x1, ∀ x2, ∀ x3, ∀ x4, P0 x0 x1 x2 x3 x4 → P1 x0 x1 x2 x3 x4 → P2 x0 x1 x2 x3 x4 → P3 x0 x1 x2 x3 x4 → P4 x0 x1 x2 x3 x4 → G) : G := o_EEE h fun x0 x1 x2 h => o_EEA h fun x3 x4 h0 h => o_AAA h fun h1 h2 h3 h4 => k x0 x1 x2 x3 x4 h0 h1 h2 h3 h4
theorem o_AEEEEAAAAA {T0 : Sort _} {T1 : Sort _} {T2 : Sort _} {T3 : Sort _} {P0 : Prop} {P1 : T0 → T1 → T2 → T3 → Prop} {P2 : T0 → T1 → T2 → T3 → Prop} {P3 : T0 → T1 → T2 → T3 → Prop} {P4 : T0 → T1 → T2 → T3 → Prop} {P5 : T0 → T1 → T2 → T3 → Prop} {P6 : T0 → T1 → T2 → T3 → Prop} {G : Prop} (h : (P0) ∧ ∃ x0 : T0, ∃ x1 : T1, ∃ x2 : T2, ∃ x3 : T3, (P1 x0 x1 x2 x3) ∧ (P2 x0 x1 x2 x3) ∧ (P3 x0 x1 x2 x3) ∧ (P4 x0 x1 x2 x3) ∧ (P5 x0 x1 x2 x3) ∧ P6 x0 x1 x2 x3) (k : P0 → ∀ x0, ∀ x1, ∀ x2, ∀ x3, P1 x0 x1 x2 x3 → P2 x0 x1 x2 x3 → P3 x0 x1 x2 x3 → P4 x0 x1 x2 x3 → P5 x0 x1 x2 x3 → P6 x0 x1 x2 x3 → G) : G := o_AEEE h fun h0 x0 x1 x2 h => o_EAA h fun x3 h1 h2 h => o_AAA h fun h3 h4 h5 h6 => k h0 x0 x1 x2 x3 h1 h2 h3 h4 h5 h6
theorem o_EEAAAAAAAA {T0 : Sort _} {T1 : Sort _} {P0 : T0 → T1 → Prop} {P1 : T0 → T1 → Prop} {P2 : T0 → T1 → Prop} {P3 : T0 → T1 → Prop} {P4 : T0 → T1 → Prop} {P5 : T0 → T1 → Prop} {P6 : T0 → T1 → Prop} {P7 : T0 → T1 → Prop} {P8 : T0 → T1 → Prop} {G : Prop} (h : ∃ x0 : T0, ∃ x1 : T1, (P0 x0 x1) ∧ (P1 x0 x1) ∧ (P2 x0 x1) ∧ (P3 x0 x1) ∧ (P4 x0 x1) ∧ (P5 x0 x1) ∧ (P6 x0 x1) ∧ (P7 x0 x1) ∧ P8 x0 x1) (k : ∀ x0, ∀ x1, P0 x0 x1 → P1 x0 x1 → P2 x0 x1 → P3 x0 x1 → P4 x0 x1 → P5 x0 x1 → P6 x0 x1 → P7 x0 x1 → P8 x0 x1 → G) : G := o_EEAA h fun x0 x1 h0 h1 h => o_AAA h fun h2 h3 h4 h => o_AAA h fun h5 h6 h7 h8 => k x0 x1 h0 h1 h2 h3 h4 h5 h6 h7 h8
theorem o_EEEEAAAAAA {T0 : Sort _} {T1 : Sort _} {T2 : Sort _} {T3 : Sort _} {P0 : T0 → T1 → T2 → T3 → Prop} {P1 : T0 → T1 → T2 → T3 → Prop} {P2 : T0 → T1 → T2 → T3 → Prop} {P3 : T0 → T1 → T2 → T3 → Prop} {P4 : T0 → T1 → T2 → T3 → Prop} {P5 : T0 → T1 → T2 → T3 → Prop} {P6 : T0 → T1 → T2 → T3 → Prop} {G : Prop} (h : ∃ x0 : T0, ∃ x1 : T1, ∃ x2 : T2, ∃ x3 : T3, (P0 x0 x1 x2 x3) ∧ (P1 x0 x1 x2 x3) ∧ (P2 x0 x1 x2 x3) ∧ (P3 x0 x1 x2 x3) ∧ (P4 x0 x1 x2 x3) ∧ (P5 x0 x1 x2 x3) ∧ P6 x0 x1 x2 x3) (k : ∀ x0, ∀ x1, ∀ x2, ∀ x3, P0 x0 x1 x2 x3 → P1 x0 x1 x2 x3 → P2 x0 x1 x2 x3 → P3 x0 x1 x2 x3 → P4 x0 x1 x2 x3 → P5 x0 x1 x2 x3 → P6 x0 x1 x2 x3 → G) : G := o_EEEE h fun x0 x1 x2 x3 h => o_AAA h fun h0 h1 h2 h => o_AAA h fun h3 h4 h5 h6 => k x0 x1 x2 x3 h0 h1 h2 h3 h4 h5 h6
theorem o_EEEEAAAAEA {T0 : Sort _} {T1 : Sort _} {T2 : Sort _} {T3 : Sort _} {T4 : Sort _} {P0 : T0 → T1 → T2 → T3 → Prop} {P1 : T0 → T1 → T2 → T3 → Prop} {P2 : T0 → T1 → T2 → T3 → Prop} {P3 : T0 → T1 → T2 → T3 → Prop} {P4 : T0 → T1 → T2 → T3 → T4 → Prop} {P5 : T0 → T1 → T2 → T3 → T4 → Prop} {G : Prop} (h : ∃ x0 : T0, ∃ x1 : T1, ∃ x2 : T2, ∃ x3 : T3, (P0 x0 x1 x2 x3) ∧ (P1 x0 x1 x2 x3) ∧ (P2 x0 x1 x2 x3) ∧ (P3 x0 x1 x2 x3) ∧ ∃ x4 : T4, (P4 x0 x1 x2 x3 x4) ∧ P5 x0 x1 x2 x3 x4) (k : ∀ x0, ∀ x1, ∀ x2, ∀ x3, P0 x0 x1 x2 x3 → P1 x0 x1 x2 x3 → P2 x0 x1 x2 x3 → P3 x0 x1 x2 x3 → ∀ x4, P4 x0 x1 x2 x3 x4 → P5 x0 x1 x2 x3 x4 → G) : G := o_EEEE h fun x0 x1 x2 x3 h => o_AAA h fun h0 h1 h2 h => o_AEA h fun h3 x4 h4 h5 => k x0 x1 x2 x3 h0 h1 h2 h3 x4 h4 h5
theorem o_EEEEEAAAAA {T0 : Sort _} {T1 : Sort _} {T2 : Sort _} {T3 : Sort _} {T4 : Sort _} {P0 : T0 → T1 → T2 → T3 → T4 → Prop} {P1 : T0 → T1 → T2 → T3 → T4 → Prop} {P2 : T0 → T1 → T2 → T3 → T4 → Prop} {P3 : T0 → T1 → T2 → T3 → T4 → Prop} {P4 : T0 → T1 → T2 → T3 → T4 → Prop} {P5 : T0 → T1 → T2 → T3 → T4 → Prop} {G : Prop} (h : ∃ x0 : T0, ∃ x1 : T1, ∃ x2 : T2, ∃ x3 : T3, ∃ x4 : T4, (P0 x0 x1 x2 x3 x4) ∧ (P1 x0 x1 x2 x3 x4) ∧ (P2 x0 x1 x2 x3 x4) ∧ (P3 x0 x1 x2 x3 x4) ∧ (P4 x0 x1 x2 x3 x4) ∧ P5 x0 x1 x2 x3 x4) (k : ∀ x0, ∀ x1, ∀ x2, ∀ x3, ∀ x4, P0 x0 x1 x2 x3 x4 → P1 x0 x1 x2 x3 x4 → P2 x0 x1 x2 x3 x4 → P3 x0 x1 x2 x3 x4 → P4 x0 x1 x2 x3 x4 → P5 x0 x1 x2 x3 x4 → G) : G := o_EEEE h fun x0 x1 x2 x3 h => o_EAA h fun x4 h0 h1 h => o_AAA h fun h2 h3 h4 h5 => k x0 x1 x2 x3 x4 h0 h1 h2 h3 h4 h5
theorem o_EEEEAAAAAAA {T0 : Sort _} {T1 : Sort _} {T2 : Sort _} {T3 : Sort _} {P0 : T0 → T1 → T2 → T3 → Prop} {P1 : T0 → T1 → T2 → T3 → Prop} {P2 : T0 → T1 → T2 → T3 → Prop} {P3 : T0 → T1 → T2 → T3 → Prop} {P4 : T0 → T1 → T2 → T3 → Prop} {P5 : T0 → T1 → T2 → T3 → Prop} {P6 : T0 → T1 → T2 → T3 → Prop} {P7 : T0 → T1 → T2 → T3 → Prop} {G : Prop} (h : ∃ x0 : T0, ∃ x1 : T1, ∃ x2 : T2, ∃ x3 : T3, (P0 x0 x1 x2 x3) ∧ (P1 x0 x1 x2 x3) ∧ (P2 x0 x1 x2 x3) ∧ (P3 x0 x1 x2 x3) ∧ (P4 x0 x1 x2 x3) ∧ (P5 x0 x1 x2 x3) ∧ (P6 x0 x1 x2 x3) ∧ P7 x0 x1 x2 x3) (k : ∀ x0, ∀ x1, ∀ x2, ∀ x3, P0 x0 x1 x2 x3 → P1 x0 x1 x2 x3 → P2 x0 x1 x2 x3 → P3 x0 x1 x2 x3 → P4 x0 x1 x2 x3 → P5 x0 x1 x2 x3 → P6 x0 x1 x2 x3 → P7 x0 x1 x2 x3 → G) : G := o_EEEE h fun x0 x1 x2 x3 h => o_AAAA h fun h0 h1 h2 h3 h => o_AAA h fun h4 h5 h6 h7 => k x0 x1 x2 x3 h0 h1 h2 h3 h4 h5 h6 h7
theorem o_EEEEEAAAAAA {T0 : Sort _} {T1 : Sort _} {T2 : Sort _} {T3 : Sort _} {T4 : Sort _} {P0 : T0 → T1 → T2 → T3 → T4 → Prop} {P1 : T0 → T1 → T2 → T3 → T4 → Prop} {P2 : T0 → T1 → T2 → T3 → T4 → Prop} {P3 : T0 → T1 → T2 → T3 → T4 → Prop} {P4 : T0 → T1 → T2 → T3 → T4 → Prop} {P5 : T0 → T1 → T2 → T3 → T4 → Prop} {P6 : T0 → T1 → T2 → T3 → T4 → Prop} {G : Prop} (h : ∃ x0 : T0, ∃ x1 : T1, ∃ x2 : T2, ∃ x3 : T3, ∃ x4 : T4, (P0 x0 x1 x2 x3 x4) ∧ (P1 x0 x1 x2 x3 x4) ∧ (P2 x0 x1 x2 x3 x4) ∧ (P3 x0 x1 x2 x3 x4) ∧ (P4 x0 x1 x2 x3 x4) ∧ (P5 x0 x1 x2 x3 x4) ∧ P6 x0 x1 x2 x3 x4) (k : ∀ x0, ∀ x1, ∀ x2, ∀ x3, ∀ x4, P0 x0 x1 x2 x3 x4 → P1 x0 x1 x2 x3 x4 → P2 x0 x1 x2 x3 x4 → P3 x0 x1 x2 x3 x4 → P4 x0 x1 x2 x3 x4 → P5 x0 x1 x2 x3 x4 → P6 x0 x1 x2 x3 x4 → G) : G := o_EEEE h fun x0 x1 x2 x3 h => o_EAAA h fun x4 h0 h1 h2 h => o_AAA h fun h3 h4 h5 h6 => k x0 x1 x2 x3 x4 h0 h1 h2 h3 h4 h5 h6
theorem o_EEEEEEEAAAA {T0 : Sort _} {T1 : Sort _} {T2 : Sort _} {T3 : Sort _} {T4 : Sort _} {T5 : Sort _} {T6 : Sort _} {P0 : T0 → T1 → T2 → T3 → T4 → T5 → T6 → Prop} {P1 : T0 → T1 → T2 → T3 → T4 → T5 → T6 → Prop} {P2 : T0 → T1 → T2 → T3 → T4 → T5 → T6 → Prop} {P3 : T0 → T1 → T2 → T3 → T4 → T5 → T6 → Prop} {P4 : T0 → T1 → T2 → T3 → T4 → T5 → T6 → Prop} {G : Prop} (h : ∃ x0 : T0, ∃ x1 : T1, ∃ x2 : T2, ∃ x3 : T3, ∃ x4 : T4, ∃ x5 : T5, ∃ x6 : T6, (P0 x0 x1 x2 x3 x4 x5 x6) ∧ (P1 x0 x1 x2 x3 x4 x5 x6) ∧ (P2 x0 x1 x2 x3 x4 x5 x6) ∧ (P3 x0 x1 x2 x3 x4 x5 x6) ∧ P4 x0 x1 x2 x3 x4 x5 x6) (k : ∀ x0, ∀ x1, ∀ x2, ∀ x3, ∀ x4, ∀ x5, ∀ x6, P0 x0 x1 x2 x3 x4 x5 x6 → P1 x0 x1 x2 x3 x4 x5 x6 → P2 x0 x1 x2 x3 x4 x5 x6 → P3 x0 x1 x2 x3 x4 x5 x6 → P4 x0 x1 x2 x3 x4 x5 x6 → G) : G := o_EEEE h fun x0 x1 x2 x3 h => o_EEEA h fun x4 x5 x6 h0 h => o_AAA h fun h1 h2 h3 h4 => k x0 x1 x2 x3 x4 x5 x6 h0 h1 h2 h3 h4
theorem o_EEEEEEAAAAAA {T0 : Sort _} {T1 : Sort _} {T2 : Sort _} {T3 : Sort _} {T4 : Sort _} {T5 : Sort _} {P0 : T0 → T1 → T2 → T3 → T4 → T5 → Prop} {P1 : T0 → T1 → T2 → T3 → T4 → T5 → Prop} {P2 : T0 → T1 → T2 → T3 → T4 → T5 → Prop} {P3 : T0 → T1 → T2 → T3 → T4 → T5 → Prop} {P4 : T0 → T1 → T2 → T3 → T4 → T5 → Prop} {P5 : T0 → T1 → T2 → T3 → T4 → T5 → Prop} {P6 : T0 → T1 → T2 → T3 → T4 → T5 → Prop} {G : Prop} (h : ∃ x0 : T0, ∃ x1 : T1, ∃ x2 : T2, ∃ x3 : T3, ∃ x4 : T4, ∃ x5 : T5, (P0 x0 x1 x2 x3 x4 x5) ∧ (P1 x0 x1 x2 x3 x4 x5) ∧ (P2 x0 x1 x2 x3 x4 x5) ∧ (P3 x0 x1 x2 x3 x4 x5) ∧ (P4 x0 x1 x2 x3 x4 x5) ∧ (P5 x0 x1 x2 x3 x4 x5) ∧ P6 x0 x1 x2 x3 x4 x5) (k : ∀ x0, ∀ x1, ∀ x2, ∀ x3, ∀ x4, ∀ x5, P0 x0 x1 x2 x3 x4 x5 → P1 x0 x1 x2 x3 x4 x5 → P2 x0 x1 x2 x3 x4 x5 → P3 x0 x1 x2 x3 x4 x5 → P4 x0 x1 x2 x3 x4 x5 → P5 x0 x1 x2 x3 x4 x5 → P6 x0 x1 x2 x3 x4 x5 → G) : G := o_EEEE h fun x0 x1 x2 x3 h => o_EEAA h fun x4 x5 h0 h1 h => o_AAAA h fun h2 h3 h4 h5 h6 => k x0 x1 x2 x3 x4 x5 h0 h1 h2 h3 h4 h5 h6
theorem o_EEEEEEEAAAAA {T0 : Sort _} {T1 : Sort _} {T2 : Sort _} {T3 : Sort _} {T4 : Sort _} {T5 : Sort _} {T6 : Sort _} {P0 : T0 → T1 → T2 → T3 → T4 → T5 → T6 → Prop} {P1 : T0 → T1 → T2 → T3 → T4 → T5 → T6 → Prop} {P2 : T0 → T1 → T2 → T3 → T4 → T5 → T6 → Prop} {P3 : T0 → T1 → T2 → T3 → T4 → T5 → T6 → Prop} {P4 : T0 → T1 → T2 → T3 → T4 → T5 → T6 → Prop} {P5 : T0 → T1 → T2 → T3 → T4 → T5 → T6 → Prop} {G : Prop} (h : ∃ x0 : T0, ∃ x1 : T1, ∃ x2 : T2, ∃ x3 : T3, ∃ x4 : T4, ∃ x5 : T5, ∃ x6 : T6, (P0 x0 x1 x2 x3 x4 x5 x6) ∧ (P1 x0 x1 x2 x3 x4 x5 x6) ∧ (P2 x0 x1 x2 x3 x4 x5 x6) ∧ (P3 x0 x1 x2 x3 x4 x5 x6) ∧ (P4 x0 x1 x2 x3 x4 x5 x6) ∧ P5 x0 x1 x2 x3 x4 x5 x6) (k : ∀ x0, ∀ x1, ∀ x2, ∀ x3, ∀ x4, ∀ x5, ∀ x6, P0 x0 x1 x2 x3 x4 x5 x6 → P1 x0 x1 x2 x3 x4 x5 x6 → P2 x0 x1 x2 x3 x4 x5 x6 → P3 x0 x1 x2 x3 x4 x5 x6 → P4 x0 x1 x2 x3 x4 x5 x6 → P5 x0 x1 x2 x3 x4 x5 x6 → G) : G := o_EEEE h fun x0 x1 x2 x3 h => o_EEEA h fun x4 x5 x6 h0 h => o_AAAA h fun h1 h2 h3 h4 h5 => k x0 x1 x2 x3 x4 x5 x6 h0 h1 h2 h3 h4 h5
theorem o_EEEEEEEEAAAA {T0 : Sort _} {T1 : Sort _} {T2 : Sort _} {T3 : Sort _} {T4 : Sort _} {T5 : Sort _} {T6 : Sort _} {T7 : Sort _} {P0 : T0 → T1 → T2 → T3 → T4 → T5 → T6 → T7 → Prop} {P1 : T0 → T1 → T2 → T3 → T4 → T5 → T6 → T7 → Prop} {P2 : T0 → T1 → T2 → T3 → T4 → T5 → T6 → T7 → Prop} {P3 : T0 → T1 → T2 → T3 → T4 → T5 → T6 → T7 → Prop} {P4 : T0 → T1 → T2 → T3 → T4 → T5 → T6 → T7 → Prop} {G : Prop} (h : ∃ x0 : T0, ∃ x1 : T1, ∃ x2 : T2, ∃ x3 : T3, ∃ x4 : T4, ∃ x5 : T5, ∃ x6 : T6, ∃ x7 : T7, (P0 x0 x1 x2 x3 x4 x5 x6 x7) ∧ (P1 x0 x1 x2 x3 x4 x5 x6 x7) ∧ (P2 x0 x1 x2 x3 x4 x5 x6 x7) ∧ (P3 x0 x1 x2 x3 x4 x5 x6 x7) ∧ P4 x0 x1 x2 x3 x4 x5 x6 x7) (k : ∀ x0, ∀ x1, ∀ x2, ∀ x3, ∀ x4, ∀ x5, ∀ x6, ∀ x7, P0 x0 x1 x2 x3 x4 x5 x6 x7 → P1 x0 x1 x2 x3 x4 x5 x6 x7 → P2 x0 x1 x2 x3 x4 x5 x6 x7 → P3 x0 x1 x2 x3 x4 x5 x6 x7 → P4 x0 x1 x2 x3 x4 x5 x6 x7 → G) : G := o_EEEE h fun x0 x1 x2 x3 h => o_EEEE h fun x4 x5 x6 x7 h => o_AAAA h fun h0 h1 h2 h3 h4 => k x0 x1 x2 x3 x4 x5 x6 x7 h0 h1 h2 h3 h4
theorem o_EEEEEAAAAAAAAA {T0 : Sort _} {T1 : Sort _} {T2 : Sort _} {T3 : Sort _} {T4 : Sort _} {P0 : T0 → T1 → T2 → T3 → T4 → Prop} {P1 : T0 → T1 → T2 → T3 → T4 → Prop} {P2 : T0 → T1 → T2 → T3 → T4 → Prop} {P3 : T0 → T1 → T2 → T3 → T4 → Prop} {P4 : T0 → T1 → T2 → T3 → T4 → Prop} {P5 : T0 → T1 → T2 → T3 → T4 → Prop} {P6 : T0 → T1 → T2 → T3 → T4 → Prop} {P7 : T0 → T1 → T2 → T3 → T4 → Prop} {P8 : T0 → T1 → T2 → T3 → T4 → Prop} {P9 : T0 → T1 → T2 → T3 → T4 → Prop} {G : Prop} (h : ∃ x0 : T0, ∃ x1 : T1, ∃ x2 : T2, ∃ x3 : T3, ∃ x4 : T4, (P0 x0 x1 x2 x3 x4) ∧ (P1 x0 x1 x2 x3 x4) ∧ (P2 x0 x1 x2 x3 x4) ∧ (P3 x0 x1 x2 x3 x4) ∧ (P4 x0 x1 x2 x3 x4) ∧ (P5 x0 x1 x2 x3 x4) ∧ (P6 x0 x1 x2 x3 x4) ∧ (P7 x0 x1 x2 x3 x4) ∧ (P8 x0 x1 x2 x3 x4) ∧ P9 x0 x1 x2 x3 x4) (k : ∀ x0, ∀ x1, ∀ x2, ∀ x3, ∀ x4, P0 x0 x1 x2 x3 x4 → P1 x0 x1 x2 x3 x4 → P2 x0 x1 x2 x3 x4 → P3 x0 x1 x2 x3 x4 → P4 x0 x1 x2 x3 x4 → P5 x0 x1 x2 x3 x4 → P6 x0 x1 x2 x3 x4 → P7 x0 x1 x2 x3 x4 → P8 x0 x1 x2 x3 x4 → P9 x0 x1 x2 x3 x4 → G) : G := o_EEEE h fun x0 x1 x2 x3 h => o_EAAA h fun x4 h0 h1 h2 h => o_AAA h fun h3 h4 h5 h => o_AAA h fun h6 h7 h8 h9 => k x0 x1 x2 x3 x4 h0 h1 h2 h3 h4 h5 h6 h7 h8 h9
theorem o_EEEEEEAAAAAAAA {T0 : Sort _} {T1 : Sort _} {T2 : Sort _} {T3 : Sort _} {T4 : Sort _} {T5 : Sort _} {P0 : T0 → T1 → T2 → T3 → T4 → T5 → Prop} {P1 : T0 → T1 → T2 → T3 → T4 → T5 → Prop} {P2 : T0 → T1 → T2 → T3 → T4 → T5 → Prop} {P3 : T0 → T1 → T2 → T3 → T4 → T5 → Prop} {P4 : T0 → T1 → T2 → T3 → T4 → T5 → Prop} {P5 : T0 → T1 → T2 → T3 → T4 → T5 → Prop} {P6 : T0 → T1 → T2 → T3 → T4 → T5 → Prop} {P7 : T0 → T1 → T2 → T3 → T4 → T5 → Prop} {P8 : T0 → T1 → T2 → T3 → T4 → T5 → Prop} {G : Prop} (h : ∃ x0 : T0, ∃ x1 : T1, ∃ x2 : T2, ∃ x3 : T3, ∃ x4 : T4, ∃ x5 : T5, (P0 x0 x1 x2 x3 x4 x5) ∧ (P1 x0 x1 x2 x3 x4 x5) ∧ (P2 x0 x1 x2 x3 x4 x5) ∧ (P3 x0 x1 x2 x3 x4 x5) ∧ (P4 x0 x1 x2 x3 x4 x5) ∧ (P5 x0 x1 x2 x3 x4 x5) ∧ (P6 x0 x1 x2 x3 x4 x5) ∧ (P7 x0 x1 x2 x3 x4 x5) ∧ P8 x0 x1 x2 x3 x4 x5) (k : ∀ x0, ∀ x1, ∀ x2, ∀ x3, ∀ x4, ∀ x5, P0 x0 x1 x2 x3 x4 x5 → P1 x0 x1 x2 x3 x4 x5 → P2 x0 x1 x2 x3 x4 x5 → P3 x0 x1 x2 x3 x4 x5 → P4 x0 x1 x2 x3 x4 x5 → P5 x0 x1 x2 x3 x4 x5 → P6 x0 x1 x2 x3 x4 x5 → P7 x0 x1 x2 x3 x4 x5 → P8 x0 x1 x2 x3 x4 x5 → G) : G := o_EEEE h fun x0 x1 x2 x3 h => o_EEAA h fun x4 x5 h0 h1 h => o_AAA h fun h2 h3 h4 h => o_AAA h fun h5 h6 h7 h8 => k x0 x1 x2 x3 x4 x5 h0 h1 h2 h3 h4 h5 h6 h7 h8
theorem o_EEEEEEEAAAAAAA {T0 : Sort _} {T1 : Sort _} {T2 : Sort _} {T3 : Sort _} {T4 : Sort _} {T5 : Sort _} {T6 : Sort _} {P0 : T0 → T1 → T2 → T3 → T4 → T5 → T6 → Prop} {P1 : T0 → T1 → T2 → T3 → T4 → T5 → T6 → Prop} {P2 : T0 → T1 → T2 → T3 → T4 → T5 → T6 → Prop} {P3 : T0 → T1 → T2 → T3 → T4 → T5 → T6 → Prop} {P4 : T0 → T1 → T2 → T3 → T4 → T5 → T6 → Prop} {P5 : T0 → T1 → T2 → T3 → T4 → T5 → T6 → Prop} {P6 : T0 → T1 → T2 → T3 → T4 → T5 → T6 → Prop} {P7 : T0 → T1 → T2 → T3 → T4 → T5 → T6 → Prop} {G : Prop} (h : ∃ x0 : T0, ∃ x1 : T1, ∃ x2 : T2, ∃ x3 : T3, ∃ x4 : T4, ∃ x5 : T5, ∃ x6 : T6, (P0 x0 x1 x2 x3 x4 x5 x6) ∧ (P1 x0 x1 x2 x3 x4 x5 x6) ∧ (P2 x0 x1 x2 x3 x4 x5 x6) ∧ (P3 x0 x1 x2 x3 x4 x5 x6) ∧ (P4 x0 x1 x2 x3 x4 x5 x6) ∧ (P5 x0 x1 x2 x3 x4 x5 x6) ∧ (P6 x0 x1 x2 x3 x4 x5 x6) ∧ P7 x0 x1 x2 x3 x4 x5 x6) (k : ∀ x0, ∀ x1, ∀ x2, ∀ x3, ∀ x4, ∀ x5, ∀ x6, P0 x0 x1 x2 x3 x4 x5 x6 → P1 x0 x1 x2 x3 x4 x5 x6 → P2 x0 x1 x2 x3 x4 x5 x6 → P3 x0 x1 x2 x3 x4 x5 x6 → P4 x0 x1 x2 x3 x4 x5 x6 → P5 x0 x1 x2 x3 x4 x5 x6 → P6 x0 x1 x2 x3 x4 x5 x6 → P7 x0 x1 x2 x3 x4 x5 x6 → G) : G := o_EEEE h fun x0 x1 x2 x3 h => o_EEEA h fun x4 x5 x6 h0 h => o_AAA h fun h1 h2 h3 h => o_AAA h fun h4 h5 h6 h7 => k x0 x1 x2 x3 x4 x5 x6 h0 h1 h2 h3 h4 h5 h6 h7
theorem o_AAEEEEEEAAAAAAAA {T0 : Sort _} {T1 : Sort _} {T2 : Sort _} {T3 : Sort _} {T4 : Sort _} {T5 : Sort _} {P0 : Prop} {P1 : Prop} {P2 : T0 → T1 → T2 → T3 → T4 → T5 → Prop} {P3 : T0 → T1 → T2 → T3 → T4 → T5 → Prop} {P4 : T0 → T1 → T2 → T3 → T4 → T5 → Prop} {P5 : T0 → T1 → T2 → T3 → T4 → T5 → Prop} {P6 : T0 → T1 → T2 → T3 → T4 → T5 → Prop} {P7 : T0 → T1 → T2 → T3 → T4 → T5 → Prop} {P8 : T0 → T1 → T2 → T3 → T4 → T5 → Prop} {P9 : T0 → T1 → T2 → T3 → T4 → T5 → Prop} {P10 : T0 → T1 → T2 → T3 → T4 → T5 → Prop} {G : Prop} (h : (P0) ∧ (P1) ∧ ∃ x0 : T0, ∃ x1 : T1, ∃ x2 : T2, ∃ x3 : T3, ∃ x4 : T4, ∃ x5 : T5, (P2 x0 x1 x2 x3 x4 x5) ∧ (P3 x0 x1 x2 x3 x4 x5) ∧ (P4 x0 x1 x2 x3 x4 x5) ∧ (P5 x0 x1 x2 x3 x4 x5) ∧ (P6 x0 x1 x2 x3 x4 x5) ∧ (P7 x0 x1 x2 x3 x4 x5) ∧ (P8 x0 x1 x2 x3 x4 x5) ∧ (P9 x0 x1 x2 x3 x4 x5) ∧ P10 x0 x1 x2 x3 x4 x5) (k : P0 → P1 → ∀ x0, ∀ x1, ∀ x2, ∀ x3, ∀ x4, ∀ x5, P2 x0 x1 x2 x3 x4 x5 → P3 x0 x1 x2 x3 x4 x5 → P4 x0 x1 x2 x3 x4 x5 → P5 x0 x1 x2 x3 x4 x5 → P6 x0 x1 x2 x3 x4 x5 → P7 x0 x1 x2 x3 x4 x5 → P8 x0 x1 x2 x3 x4 x5 → P9 x0 x1 x2 x3 x4 x5 → P10 x0 x1 x2 x3 x4 x5 → G) : G := o_AAEE h fun h0 h1 x0 x1 h => o_EEEE h fun x2 x3 x4 x5 h => o_AAAA h fun h2 h3 h4 h5 h => o_AAAA h fun h6 h7 h8 h9 h10 => k h0 h1 x0 x1 x2 x3 x4 x5 h2 h3 h4 h5 h6 h7 h8 h9 h10
theorem o_EEEEEEEEEEAAAAAA {T0 : Sort _} {T1 : Sort _} {T2 : Sort _} {T3 : Sort _} {T4 : Sort _} {T5 : Sort _} {T6 : Sort _} {T7 : Sort _} {T8 : Sort _} {T9 : Sort _} {P0 : T0 → T1 → T2 → T3 → T4 → T5 → T6 → T7 → T8 → T9 → Prop} {P1 : T0 → T1 → T2 → T3 → T4 → T5 → T6 → T7 → T8 → T9 → Prop} {P2 : T0 → T1 → T2 → T3 → T4 → T5 → T6 → T7 → T8 → T9 → Prop} {P3 : T0 → T1 → T2 → T3 → T4 → T5 → T6 → T7 → T8 → T9 → Prop} {P4 : T0 → T1 → T2 → T3 → T4 → T5 → T6 → T7 → T8 → T9 → Prop} {P5 : T0 → T1 → T2 → T3 → T4 → T5 → T6 → T7 → T8 → T9 → Prop} {P6 : T0 → T1 → T2 → T3 → T4 → T5 → T6 → T7 → T8 → T9 → Prop} {G : Prop} (h : ∃ x0 : T0, ∃ x1 : T1, ∃ x2 : T2, ∃ x3 : T3, ∃ x4 : T4, ∃ x5 : T5, ∃ x6 : T6, ∃ x7 : T7, ∃ x8 : T8, ∃ x9 : T9, (P0 x0 x1 x2 x3 x4 x5 x6 x7 x8 x9) ∧ (P1 x0 x1 x2 x3 x4 x5 x6 x7 x8 x9) ∧ (P2 x0 x1 x2 x3 x4 x5 x6 x7 x8 x9) ∧ (P3 x0 x1 x2 x3 x4 x5 x6 x7 x8 x9) ∧ (P4 x0 x1 x2 x3 x4 x5 x6 x7 x8 x9) ∧ (P5 x0 x1 x2 x3 x4 x5 x6 x7 x8 x9) ∧ P6 x0 x1 x2 x3 x4 x5 x6 x7 x8 x9) (k : ∀ x0, ∀ x1, ∀ x2, ∀ x3, ∀ x4, ∀ x5, ∀ x6, ∀ x7, ∀ x8, ∀ x9, P0 x0 x1 x2 x3 x4 x5 x6 x7 x8 x9 → P1 x0 x1 x2 x3 x4 x5 x6 x7 x8 x9 → P2 x0 x1 x2 x3 x4 x5 x6 x7 x8 x9 → P3 x0 x1 x2 x3 x4 x5 x6 x7 x8 x9 → P4 x0 x1 x2 x3 x4 x5 x6 x7 x8 x9 → P5 x0 x1 x2 x3 x4 x5 x6 x7 x8 x9 → P6 x0 x1 x2 x3 x4 x5 x6 x7 x8 x9 → G) : G := o_EEEE h fun x0 x1 x2 x3 h => o_EEEE h fun x4 x5 x6 x7 h => o_EEAA h fun x8 x9 h0 h1 h => o_AAAA h fun h2 h3 h4 h5 h6 => k x0 x1 x2 x3 x4 x5 x6 x7 x8 x9 h0 h1 h2 h3 h4 h5 h6
theorem o_EEEEEEEEEEAAAAAAA {T0 : Sort _} {T1 : Sort _} {T2 : Sort _} {T3 : Sort _} {T4 : Sort _} {T5 : Sort _} {T6 : Sort _} {T7 : Sort _} {T8 : Sort _} {T9 : Sort _} {P0 : T0 → T1 → T2 → T3 → T4 → T5 → T6 → T7 → T8 → T9 → Prop} {P1 : T0 → T1 → T2 → T3 → T4 → T5 → T6 → T7 → T8 → T9 → Prop} {P2 : T0 → T1 → T2 → T3 → T4 → T5 → T6 → T7 → T8 → T9 → Prop} {P3 : T0 → T1 → T2 → T3 → T4 → T5 → T6 → T7 → T8 → T9 → Prop} {P4 : T0 → T1 → T2 → T3 → T4 → T5 → T6 → T7 → T8 → T9 → Prop} {P5 : T0 → T1 → T2 → T3 → T4 → T5 → T6 → T7 → T8 → T9 → Prop} {P6 : T0 → T1 → T2 → T3 → T4 → T5 → T6 → T7 → T8 → T9 → Prop} {P7 : T0 → T1 → T2 → T3 → T4 → T5 → T6 → T7 → T8 → T9 → Prop} {G : Prop} (h : ∃ x0 : T0, ∃ x1 : T1, ∃ x2 : T2, ∃ x3 : T3, ∃ x4 : T4, ∃ x5 : T5, ∃ x6 : T6, ∃ x7 : T7, ∃ x8 : T8, ∃ x9 : T9, (P0 x0 x1 x2 x3 x4 x5 x6 x7 x8 x9) ∧ (P1 x0 x1 x2 x3 x4 x5 x6 x7 x8 x9) ∧ (P2 x0 x1 x2 x3 x4 x5 x6 x7 x8 x9) ∧ (P3 x0 x1 x2 x3 x4 x5 x6 x7 x8 x9) ∧ (P4 x0 x1 x2 x3 x4 x5 x6 x7 x8 x9) ∧ (P5 x0 x1 x2 x3 x4 x5 x6 x7 x8 x9) ∧ (P6 x0 x1 x2 x3 x4 x5 x6 x7 x8 x9) ∧ P7 x0 x1 x2 x3 x4 x5 x6 x7 x8 x9) (k : ∀ x0, ∀ x1, ∀ x2, ∀ x3, ∀ x4, ∀ x5, ∀ x6, ∀ x7, ∀ x8, ∀ x9, P0 x0 x1 x2 x3 x4 x5 x6 x7 x8 x9 → P1 x0 x1 x2 x3 x4 x5 x6 x7 x8 x9 → P2 x0 x1 x2 x3 x4 x5 x6 x7 x8 x9 → P3 x0 x1 x2 x3 x4 x5 x6 x7 x8 x9 → P4 x0 x1 x2 x3 x4 x5 x6 x7 x8 x9 → P5 x0 x1 x2 x3 x4 x5 x6 x7 x8 x9 → P6 x0 x1 x2 x3 x4 x5 x6 x7 x8 x9 → P7 x0 x1 x2 x3 x4 x5 x6 x7 x8 x9 → G) : G := o_EEEE h fun x0 x1 x2 x3 h => o_EEEE h fun x4 x5 x6 x7 h => o_EEA h fun x8 x9 h0 h => o_AAA h fun h1 h2 h3 h => o_AAA h fun h4 h5 h6 h7 => k x0 x1 x2 x3 x4 x5 x6 x7 x8 x9 h0 h1 h2 h3 h4 h5 h6 h7
theorem i_AA {P0 : Prop} {P1 : Prop} {P2 : Prop} (h0 : P0) (h1 : P1) (h2 : P2) : (P0) ∧ (P1) ∧ P2 := ⟨h0, h1, h2⟩
theorem i_AE {T0 : Sort _} {P0 : Prop} {P1 : T0 → Prop} (h0 : P0) (x0 : T0) (h1 : P1 x0) : (P0) ∧ ∃ x0 : T0, P1 x0 := ⟨h0, x0, h1⟩
theorem i_EA {T0 : Sort _} {P0 : T0 → Prop} {P1 : T0 → Prop} (x0 : T0) (h0 : P0 x0) (h1 : P1 x0) : ∃ x0 : T0, (P0 x0) ∧ P1 x0 := ⟨x0, h0, h1⟩
theorem i_EE {T0 : Sort _} {T1 : Sort _} {P0 : T0 → T1 → Prop} (x0 : T0) (x1 : T1) (h0 : P0 x0 x1) : ∃ x0 : T0, ∃ x1 : T1, P0 x0 x1 := ⟨x0, x1, h0⟩
theorem i_AAA {P0 : Prop} {P1 : Prop} {P2 : Prop} {P3 : Prop} (h0 : P0) (h1 : P1) (h2 : P2) (h3 : P3) : (P0) ∧ (P1) ∧ (P2) ∧ P3 := ⟨h0, h1, h2, h3⟩
theorem i_AEA {T0 : Sort _} {P0 : Prop} {P1 : T0 → Prop} {P2 : T0 → Prop} (h0 : P0) (x0 : T0) (h1 : P1 x0) (h2 : P2 x0) : (P0) ∧ ∃ x0 : T0, (P1 x0) ∧ P2 x0 := ⟨h0, x0, h1, h2⟩
theorem i_AEE {T0 : Sort _} {T1 : Sort _} {P0 : Prop} {P1 : T0 → T1 → Prop} (h0 : P0) (x0 : T0) (x1 : T1) (h1 : P1 x0 x1) : (P0) ∧ ∃ x0 : T0, ∃ x1 : T1, P1 x0 x1 := ⟨h0, x0, x1, h1⟩
theorem i_EAA {T0 : Sort _} {P0 : T0 → Prop} {P1 : T0 → Prop} {P2 : T0 → Prop} (x0 : T0) (h0 : P0 x0) (h1 : P1 x0) (h2 : P2 x0) : ∃ x0 : T0, (P0 x0) ∧ (P1 x0) ∧ P2 x0 := ⟨x0, h0, h1, h2⟩
theorem i_EAE {T0 : Sort _} {T1 : Sort _} {P0 : T0 → Prop} {P1 : T0 → T1 → Prop} (x0 : T0) (h0 : P0 x0) (x1 : T1) (h1 : P1 x0 x1) : ∃ x0 : T0, (P0 x0) ∧ ∃ x1 : T1, P1 x0 x1 := ⟨x0, h0, x1, h1⟩
theorem i_EEA {T0 : Sort _} {T1 : Sort _} {P0 : T0 → T1 → Prop} {P1 : T0 → T1 → Prop} (x0 : T0) (x1 : T1) (h0 : P0 x0 x1) (h1 : P1 x0 x1) : ∃ x0 : T0, ∃ x1 : T1, (P0 x0 x1) ∧ P1 x0 x1 := ⟨x0, x1, h0, h1⟩
theorem i_EEE {T0 : Sort _} {T1 : Sort _} {T2 : Sort _} {P0 : T0 → T1 → T2 → Prop} (x0 : T0) (x1 : T1) (x2 : T2) (h0 : P0 x0 x1 x2) : ∃ x0 : T0, ∃ x1 : T1, ∃ x2 : T2, P0 x0 x1 x2 := ⟨x0, x1, x2, h0⟩
theorem i_AAAA {P0 : Prop} {P1 : Prop} {P2 : Prop} {P3 : Prop} {P4 : Prop} (h0 : P0) (h1 : P1) (h2 : P2) (h3 : P3) (h4 : P4) : (P0) ∧ (P1) ∧ (P2) ∧ (P3) ∧ P4 := ⟨h0, h1, h2, h3, h4⟩
theorem i_AAEA {T0 : Sort _} {P0 : Prop} {P1 : Prop} {P2 : T0 → Prop} {P3 : T0 → Prop} (h0 : P0) (h1 : P1) (x0 : T0) (h2 : P2 x0) (h3 : P3 x0) : (P0) ∧ (P1) ∧ ∃ x0 : T0, (P2 x0) ∧ P3 x0 := ⟨h0, h1, x0, h2, h3⟩
theorem i_AAEE {T0 : Sort _} {T1 : Sort _} {P0 : Prop} {P1 : Prop} {P2 : T0 → T1 → Prop} (h0 : P0) (h1 : P1) (x0 : T0) (x1 : T1) (h2 : P2 x0 x1) : (P0) ∧ (P1) ∧ ∃ x0 : T0, ∃ x1 : T1, P2 x0 x1 := ⟨h0, h1, x0, x1, h2⟩
theorem i_AEAA {T0 : Sort _} {P0 : Prop} {P1 : T0 → Prop} {P2 : T0 → Prop} {P3 : T0 → Prop} (h0 : P0) (x0 : T0) (h1 : P1 x0) (h2 : P2 x0) (h3 : P3 x0) : (P0) ∧ ∃ x0 : T0, (P1 x0) ∧ (P2 x0) ∧ P3 x0 := ⟨h0, x0, h1, h2, h3⟩
theorem i_AEAE {T0 : Sort _} {T1 : Sort _} {P0 : Prop} {P1 : T0 → Prop} {P2 : T0 → T1 → Prop} (h0 : P0) (x0 : T0) (h1 : P1 x0) (x1 : T1) (h2 : P2 x0 x1) : (P0) ∧ ∃ x0 : T0, (P1 x0) ∧ ∃ x1 : T1, P2 x0 x1 := ⟨h0, x0, h1, x1, h2⟩
theorem i_AEEE {T0 : Sort _} {T1 : Sort _} {T2 : Sort _} {P0 : Prop} {P1 : T0 → T1 → T2 → Prop} (h0 : P0) (x0 : T0) (x1 : T1) (x2 : T2) (h1 : P1 x0 x1 x2) : (P0) ∧ ∃ x0 : T0, ∃ x1 : T1, ∃ x2 : T2, P1 x0 x1 x2 := ⟨h0, x0, x1, x2, h1⟩
theorem i_EAAA {T0 : Sort _} {P0 : T0 → Prop} {P1 : T0 → Prop} {P2 : T0 → Prop} {P3 : T0 → Prop} (x0 : T0) (h0 : P0 x0) (h1 : P1 x0) (h2 : P2 x0) (h3 : P3 x0) : ∃ x0 : T0, (P0 x0) ∧ (P1 x0) ∧ (P2 x0) ∧ P3 x0 := ⟨x0, h0, h1, h2, h3⟩
theorem i_EAAE {T0 : Sort _} {T1 : Sort _} {P0 : T0 → Prop} {P1 : T0 → Prop} {P2 : T0 → T1 → Prop} (x0 : T0) (h0 : P0 x0) (h1 : P1 x0) (x1 : T1) (h2 : P2 x0 x1) : ∃ x0 : T0, (P0 x0) ∧ (P1 x0) ∧ ∃ x1 : T1, P2 x0 x1 := ⟨x0, h0, h1, x1, h2⟩
theorem i_EAEA {T0 : Sort _} {T1 : Sort _} {P0 : T0 → Prop} {P1 : T0 → T1 → Prop} {P2 : T0 → T1 → Prop} (x0 : T0) (h0 : P0 x0) (x1 : T1) (h1 : P1 x0 x1) (h2 : P2 x0 x1) : ∃ x0 : T0, (P0 x0) ∧ ∃ x1 : T1, (P1 x0 x1) ∧ P2 x0 x1 := ⟨x0, h0, x1, h1, h2⟩
theorem i_EAEE {T0 : Sort _} {T1 : Sort _} {T2 : Sort _} {P0 : T0 → Prop} {P1 : T0 → T1 → T2 → Prop} (x0 : T0) (h0 : P0 x0) (x1 : T1) (x2 : T2) (h1 : P1 x0 x1 x2) : ∃ x0 : T0, (P0 x0) ∧ ∃ x1 : T1, ∃ x2 : T2, P1 x0 x1 x2 := ⟨x0, h0, x1, x2, h1⟩
theorem i_EEAA {T0 : Sort _} {T1 : Sort _} {P0 : T0 → T1 → Prop} {P1 : T0 → T1 → Prop} {P2 : T0 → T1 → Prop} (x0 : T0) (x1 : T1) (h0 : P0 x0 x1) (h1 : P1 x0 x1) (h2 : P2 x0 x1) : ∃ x0 : T0, ∃ x1 : T1, (P0 x0 x1) ∧ (P1 x0 x1) ∧ P2 x0 x1 := ⟨x0, x1, h0, h1, h2⟩
theorem i_EEEA {T0 : Sort _} {T1 : Sort _} {T2 : Sort _} {P0 : T0 → T1 → T2 → Prop} {P1 : T0 → T1 → T2 → Prop} (x0 : T0) (x1 : T1) (x2 : T2) (h0 : P0 x0 x1 x2) (h1 : P1 x0 x1 x2) : ∃ x0 : T0, ∃ x1 : T1, ∃ x2 : T2, (P0 x0 x1 x2) ∧ P1 x0 x1 x2 := ⟨x0, x1, x2, h0, h1⟩
theorem i_EEEE {T0 : Sort _} {T1 : Sort _} {T2 : Sort _} {T3 : Sort _} {P0 : T0 → T1 → T2 → T3 → Prop} (x0 : T0) (x1 : T1) (x2 : T2) (x3 : T3) (h0 : P0 x0 x1 x2 x3) : ∃ x0 : T0, ∃ x1 : T1, ∃ x2 : T2, ∃ x3 : T3, P0 x0 x1 x2 x3 := ⟨x0, x1, x2, x3, h0⟩
theorem i_AAAAA {P0 : Prop} {P1 : Prop} {P2 : Prop} {P3 : Prop} {P4 : Prop} {P5 : Prop} (h0 : P0) (h1 : P1) (h2 : P2) (h3 : P3) (h4 : P4) (h5 : P5) : (P0) ∧ (P1) ∧ (P2) ∧ (P3) ∧ (P4) ∧ P5 := (i_AAA h0 h1 h2 (i_AA h3 h4 h5))
theorem i_AAAEA {T0 : Sort _} {P0 : Prop} {P1 : Prop} {P2 : Prop} {P3 : T0 → Prop} {P4 : T0 → Prop} (h0 : P0) (h1 : P1) (h2 : P2) (x0 : T0) (h3 : P3 x0) (h4 : P4 x0) : (P0) ∧ (P1) ∧ (P2) ∧ ∃ x0 : T0, (P3 x0) ∧ P4 x0 := (i_AAA h0 h1 h2 (i_EA x0 h3 h4))
theorem i_AEEAA {T0 : Sort _} {T1 : Sort _} {P0 : Prop} {P1 : T0 → T1 → Prop} {P2 : T0 → T1 → Prop} {P3 : T0 → T1 → Prop} (h0 : P0) (x0 : T0) (x1 : T1) (h1 : P1 x0 x1) (h2 : P2 x0 x1) (h3 : P3 x0 x1) : (P0) ∧ ∃ x0 : T0, ∃ x1 : T1, (P1 x0 x1) ∧ (P2 x0 x1) ∧ P3 x0 x1 := (i_AEE h0 x0 x1 (i_AA h1 h2 h3))
theorem i_EAAAA {T0 : Sort _} {P0 : T0 → Prop} {P1 : T0 → Prop} {P2 : T0 → Prop} {P3 : T0 → Prop} {P4 : T0 → Prop} (x0 : T0) (h0 : P0 x0) (h1 : P1 x0) (h2 : P2 x0) (h3 : P3 x0) (h4 : P4 x0) : ∃ x0 : T0, (P0 x0) ∧ (P1 x0) ∧ (P2 x0) ∧ (P3 x0) ∧ P4 x0 := (i_EAA x0 h0 h1 (i_AA h2 h3 h4))
theorem i_EAAEA {T0 : Sort _} {T1 : Sort _} {P0 : T0 → Prop} {P1 : T0 → Prop} {P2 : T0 → T1 → Prop} {P3 : T0 → T1 → Prop} (x0 : T0) (h0 : P0 x0) (h1 : P1 x0) (x1 : T1) (h2 : P2 x0 x1) (h3 : P3 x0 x1) : ∃ x0 : T0, (P0 x0) ∧ (P1 x0) ∧ ∃ x1 : T1, (P2 x0 x1) ∧ P3 x0 x1 := (i_EAA x0 h0 h1 (i_EA x1 h2 h3))
theorem i_EAEAA {T0 : Sort _} {T1 : Sort _} {P0 : T0 → Prop} {P1 : T0 → T1 → Prop} {P2 : T0 → T1 → Prop} {P3 : T0 → T1 → Prop} (x0 : T0) (h0 : P0 x0) (x1 : T1) (h1 : P1 x0 x1) (h2 : P2 x0 x1) (h3 : P3 x0 x1) : ∃ x0 : T0, (P0 x0) ∧ ∃ x1 : T1, (P1 x0 x1) ∧ (P2 x0 x1) ∧ P3 x0 x1 := (i_EAE x0 h0 x1 (i_AA h1 h2 h3))
theorem i_EEAAA {T0 : Sort _} {T1 : Sort _} {P0 : T0 → T1 → Prop} {P1 : T0 → T1 → Prop} {P2 : T0 → T1 → Prop} {P3 : T0 → T1 → Prop} (x0 : T0) (x1 : T1) (h0 : P0 x0 x1) (h1 : P1 x0 x1) (h2 : P2 x0 x1) (h3 : P3 x0 x1) : ∃ x0 : T0, ∃ x1 : T1, (P0 x0 x1) ∧ (P1 x0 x1) ∧ (P2 x0 x1) ∧ P3 x0 x1 := (i_EEA x0 x1 h0 (i_AA h1 h2 h3))
theorem i_EEEAA {T0 : Sort _} {T1 : Sort _} {T2 : Sort _} {P0 : T0 → T1 → T2 → Prop} {P1 : T0 → T1 → T2 → Prop} {P2 : T0 → T1 → T2 → Prop} (x0 : T0) (x1 : T1) (x2 : T2) (h0 : P0 x0 x1 x2) (h1 : P1 x0 x1 x2) (h2 : P2 x0 x1 x2) : ∃ x0 : T0, ∃ x1 : T1, ∃ x2 : T2, (P0 x0 x1 x2) ∧ (P1 x0 x1 x2) ∧ P2 x0 x1 x2 := (i_EEE x0 x1 x2 (i_AA h0 h1 h2))
theorem i_EEEEE {T0 : Sort _} {T1 : Sort _} {T2 : Sort _} {T3 : Sort _} {T4 : Sort _} {P0 : T0 → T1 → T2 → T3 → T4 → Prop} (x0 : T0) (x1 : T1) (x2 : T2) (x3 : T3) (x4 : T4) (h0 : P0 x0 x1 x2 x3 x4) : ∃ x0 : T0, ∃ x1 : T1, ∃ x2 : T2, ∃ x3 : T3, ∃ x4 : T4, P0 x0 x1 x2 x3 x4 := (i_EEE x0 x1 x2 (i_EE x3 x4 h0))
theorem i_EAAEAA {T0 : Sort _} {T1 : Sort _} {P0 : T0 → Prop} {P1 : T0 → Prop} {P2 : T0 → T1 → Prop} {P3 : T0 → T1 → Prop} {P4 : T0 → T1 → Prop} (x0 : T0) (h0 : P0 x0) (h1 : P1 x0) (x1 : T1) (h2 : P2 x0 x1) (h3 : P3 x0 x1) (h4 : P4 x0 x1) : ∃ x0 : T0, (P0 x0) ∧ (P1 x0) ∧ ∃ x1 : T1, (P2 x0 x1) ∧ (P3 x0 x1) ∧ P4 x0 x1 := (i_EAA x0 h0 h1 (i_EAA x1 h2 h3 h4))
theorem i_EAEEAA {T0 : Sort _} {T1 : Sort _} {T2 : Sort _} {P0 : T0 → Prop} {P1 : T0 → T1 → T2 → Prop} {P2 : T0 → T1 → T2 → Prop} {P3 : T0 → T1 → T2 → Prop} (x0 : T0) (h0 : P0 x0) (x1 : T1) (x2 : T2) (h1 : P1 x0 x1 x2) (h2 : P2 x0 x1 x2) (h3 : P3 x0 x1 x2) : ∃ x0 : T0, (P0 x0) ∧ ∃ x1 : T1, ∃ x2 : T2, (P1 x0 x1 x2) ∧ (P2 x0 x1 x2) ∧ P3 x0 x1 x2 := (i_EAE x0 h0 x1 (i_EAA x2 h1 h2 h3))
theorem i_EEAAAA {T0 : Sort _} {T1 : Sort _} {P0 : T0 → T1 → Prop} {P1 : T0 → T1 → Prop} {P2 : T0 → T1 → Prop} {P3 : T0 → T1 → Prop} {P4 : T0 → T1 → Prop} (x0 : T0) (x1 : T1) (h0 : P0 x0 x1) (h1 : P1 x0 x1) (h2 : P2 x0 x1) (h3 : P3 x0 x1) (h4 : P4 x0 x1) : ∃ x0 : T0, ∃ x1 : T1, (P0 x0 x1) ∧ (P1 x0 x1) ∧ (P2 x0 x1) ∧ (P3 x0 x1) ∧ P4 x0 x1 := (i_EEA x0 x1 h0 (i_AAA h1 h2 h3 h4))
theorem i_EEEAAA {T0 : Sort _} {T1 : Sort _} {T2 : Sort _} {P0 : T0 → T1 → T2 → Prop} {P1 : T0 → T1 → T2 → Prop} {P2 : T0 → T1 → T2 → Prop} {P3 : T0 → T1 → T2 → Prop} (x0 : T0) (x1 : T1) (x2 : T2) (h0 : P0 x0 x1 x2) (h1 : P1 x0 x1 x2) (h2 : P2 x0 x1 x2) (h3 : P3 x0 x1 x2) : ∃ x0 : T0, ∃ x1 : T1, ∃ x2 : T2, (P0 x0 x1 x2) ∧ (P1 x0 x1 x2) ∧ (P2 x0 x1 x2) ∧ P3 x0 x1 x2 := (i_EEE x0 x1 x2 (i_AAA h0 h1 h2 h3))
theorem i_EEEEEA {T0 : Sort _} {T1 : Sort _} {T2 : Sort _} {T3 : Sort _} {T4 : Sort _} {P0 : T0 → T1 → T2 → T3 → T4 → Prop} {P1 : T0 → T1 → T2 → T3 → T4 → Prop} (x0 : T0) (x1 : T1) (x2 : T2) (x3 : T3) (x4 : T4) (h0 : P0 x0 x1 x2 x3 x4) (h1 : P1 x0 x1 x2 x3 x4) : ∃ x0 : T0, ∃ x1 : T1, ∃ x2 : T2, ∃ x3 : T3, ∃ x4 : T4, (P0 x0 x1 x2 x3 x4) ∧ P1 x0 x1 x2 x3 x4 := (i_EEE x0 x1 x2 (i_EEA x3 x4 h0 h1))
theorem i_EAAEEAA {T0 : Sort _} {T1 : Sort _} {T2 : Sort _} {P0 : T0 → Prop} {P1 : T0 → Prop} {P2 : T0 → T1 → T2 → Prop} {P3 : T0 → T1 → T2 → Prop} {P4 : T0 → T1 → T2 → Prop} (x0 : T0) (h0 : P0 x0) (h1 : P1 x0) (x1 : T1) (x2 : T2) (h2 : P2 x0 x1 x2) (h3 : P3 x0 x1 x2) (h4 : P4 x0 x1 x2) : ∃ x0 : T0, (P0 x0) ∧ (P1 x0) ∧ ∃ x1 : T1, ∃ x2 : T2, (P2 x0 x1 x2) ∧ (P3 x0 x1 x2) ∧ P4 x0 x1 x2 := (i_EAAE x0 h0 h1 x1 (i_EAA x2 h2 h3 h4))
theorem i_EEAAAAA {T0 : Sort _} {T1 : Sort _} {P0 : T0 → T1 → Prop} {P1 : T0 → T1 → Prop} {P2 : T0 → T1 → Prop} {P3 : T0 → T1 → Prop} {P4 : T0 → T1 → Prop} {P5 : T0 → T1 → Prop} (x0 : T0) (x1 : T1) (h0 : P0 x0 x1) (h1 : P1 x0 x1) (h2 : P2 x0 x1) (h3 : P3 x0 x1) (h4 : P4 x0 x1) (h5 : P5 x0 x1) : ∃ x0 : T0, ∃ x1 : T1, (P0 x0 x1) ∧ (P1 x0 x1) ∧ (P2 x0 x1) ∧ (P3 x0 x1) ∧ (P4 x0 x1) ∧ P5 x0 x1 := (i_EEAA x0 x1 h0 h1 (i_AAA h2 h3 h4 h5))
theorem i_EEEAAAA {T0 : Sort _} {T1 : Sort _} {T2 : Sort _} {P0 : T0 → T1 → T2 → Prop} {P1 : T0 → T1 → T2 → Prop} {P2 : T0 → T1 → T2 → Prop} {P3 : T0 → T1 → T2 → Prop} {P4 : T0 → T1 → T2 → Prop} (x0 : T0) (x1 : T1) (x2 : T2) (h0 : P0 x0 x1 x2) (h1 : P1 x0 x1 x2) (h2 : P2 x0 x1 x2) (h3 : P3 x0 x1 x2) (h4 : P4 x0 x1 x2) : ∃ x0 : T0, ∃ x1 : T1, ∃ x2 : T2, (P0 x0 x1 x2) ∧ (P1 x0 x1 x2) ∧ (P2 x0 x1 x2) ∧ (P3 x0 x1 x2) ∧ P4 x0 x1 x2 := (i_EEEA x0 x1 x2 h0 (i_AAA h1 h2 h3 h4))
theorem i_EEEEAAA {T0 : Sort _} {T1 : Sort _} {T2 : Sort _} {T3 : Sort _} {P0 : T0 → T1 → T2 → T3 → Prop} {P1 : T0 → T1 → T2 → T3 → Prop} {P2 : T0 → T1 → T2 → T3 → Prop} {P3 : T0 → T1 → T2 → T3 → Prop} (x0 : T0) (x1 : T1) (x2 : T2) (x3 : T3) (h0 : P0 x0 x1 x2 x3) (h1 : P1 x0 x1 x2 x3) (h2 : P2 x0 x1 x2 x3) (h3 : P3 x0 x1 x2 x3) : ∃ x0 : T0, ∃ x1 : T1, ∃ x2 : T2, ∃ x3 : T3, (P0 x0 x1 x2 x3) ∧ (P1 x0 x1 x2 x3) ∧ (P2 x0 x1 x2 x3) ∧ P3 x0 x1 x2 x3 := (i_EEEE x0 x1 x2 x3 (i_AAA h0 h1 h2 h3))
theorem i_EAEEEAAA {T0 : Sort _} {T1 : Sort _} {T2 : Sort _} {T3 : Sort _} {P0 : T0 → Prop} {P1 : T0 → T1 → T2 → T3 → Prop} {P2 : T0 → T1 → T2 → T3 → Prop} {P3 : T0 → T1 → T2 → T3 → Prop} {P4 : T0 → T1 → T2 → T3 → Prop} (x0 : T0) (h0 : P0 x0) (x1 : T1) (x2 : T2) (x3 : T3) (h1 : P1 x0 x1 x2 x3) (h2 : P2 x0 x1 x2 x3) (h3 : P3 x0 x1 x2 x3) (h4 : P4 x0 x1 x2 x3) : ∃ x0 : T0, (P0 x0) ∧ ∃ x1 : T1, ∃ x2 : T2, ∃ x3 : T3, (P1 x0 x1 x2 x3) ∧ (P2 x0 x1 x2 x3) ∧ (P3 x0 x1 x2 x3) ∧ P4 x0 x1 x2 x3 := (i_EAEE x0 h0 x1 x2 (i_EAAA x3 h1 h2 h3 h4))
theorem i_EEEAAAAA {T0 : Sort _} {T1 : Sort _} {T2 : Sort _} {P0 : T0 → T1 → T2 → Prop} {P1 : T0 → T1 → T2 → Prop} {P2 : T0 → T1 → T2 → Prop} {P3 : T0 → T1 → T2 → Prop} {P4 : T0 → T1 → T2 → Prop} {P5 : T0 → T1 → T2 → Prop} (x0 : T0) (x1 : T1) (x2 : T2) (h0 : P0 x0 x1 x2) (h1 : P1 x0 x1 x2) (h2 : P2 x0 x1 x2) (h3 : P3 x0 x1 x2) (h4 : P4 x0 x1 x2) (h5 : P5 x0 x1 x2) : ∃ x0 : T0, ∃ x1 : T1, ∃ x2 : T2, (P0 x0 x1 x2) ∧ (P1 x0 x1 x2) ∧ (P2 x0 x1 x2) ∧ (P3 x0 x1 x2) ∧ (P4 x0 x1 x2) ∧ P5 x0 x1 x2 := (i_EEEA x0 x1 x2 h0 (i_AAAA h1 h2 h3 h4 h5))
theorem i_EEEEAAAA {T0 : Sort _} {T1 : Sort _} {T2 : Sort _} {T3 : Sort _} {P0 : T0 → T1 → T2 → T3 → Prop} {P1 : T0 → T1 → T2 → T3 → Prop} {P2 : T0 → T1 → T2 → T3 → Prop} {P3 : T0 → T1 → T2 → T3 → Prop} {P4 : T0 → T1 → T2 → T3 → Prop} (x0 : T0) (x1 : T1) (x2 : T2) (x3 : T3) (h0 : P0 x0 x1 x2 x3) (h1 : P1 x0 x1 x2 x3) (h2 : P2 x0 x1 x2 x3) (h3 : P3 x0 x1 x2 x3) (h4 : P4 x0 x1 x2 x3) : ∃ x0 : T0, ∃ x1 : T1, ∃ x2 : T2, ∃ x3 : T3, (P0 x0 x1 x2 x3) ∧ (P1 x0 x1 x2 x3) ∧ (P2 x0 x1 x2 x3) ∧ (P3 x0 x1 x2 x3) ∧ P4 x0 x1 x2 x3 := (i_EEEE x0 x1 x2 x3 (i_AAAA h0 h1 h2 h3 h4))
theorem i_AAAAAAAAA {P0 : Prop} {P1 : Prop} {P2 : Prop} {P3 : Prop} {P4 : Prop} {P5 : Prop} {P6 : Prop} {P7 : Prop} {P8 : Prop} {P9 : Prop} (h0 : P0) (h1 : P1) (h2 : P2) (h3 : P3) (h4 : P4) (h5 : P5) (h6 : P6) (h7 : P7) (h8 : P8) (h9 : P9) : (P0) ∧ (P1) ∧ (P2) ∧ (P3) ∧ (P4) ∧ (P5) ∧ (P6) ∧ (P7) ∧ (P8) ∧ P9 := (i_AAA h0 h1 h2 (i_AAA h3 h4 h5 (i_AAA h6 h7 h8 h9)))
theorem i_AEEEAAAAA {T0 : Sort _} {T1 : Sort _} {T2 : Sort _} {P0 : Prop} {P1 : T0 → T1 → T2 → Prop} {P2 : T0 → T1 → T2 → Prop} {P3 : T0 → T1 → T2 → Prop} {P4 : T0 → T1 → T2 → Prop} {P5 : T0 → T1 → T2 → Prop} {P6 : T0 → T1 → T2 → Prop} (h0 : P0) (x0 : T0) (x1 : T1) (x2 : T2) (h1 : P1 x0 x1 x2) (h2 : P2 x0 x1 x2) (h3 : P3 x0 x1 x2) (h4 : P4 x0 x1 x2) (h5 : P5 x0 x1 x2) (h6 : P6 x0 x1 x2) : (P0) ∧ ∃ x0 : T0, ∃ x1 : T1, ∃ x2 : T2, (P1 x0 x1 x2) ∧ (P2 x0 x1 x2) ∧ (P3 x0 x1 x2) ∧ (P4 x0 x1 x2) ∧ (P5 x0 x1 x2) ∧ P6 x0 x1 x2 := (i_AEE h0 x0 x1 (i_EAA x2 h1 h2 (i_AAA h3 h4 h5 h6)))
theorem i_AEEEEAAAA {T0 : Sort _} {T1 : Sort _} {T2 : Sort _} {T3 : Sort _} {P0 : Prop} {P1 : T0 → T1 → T2 → T3 → Prop} {P2 : T0 → T1 → T2 → T3 → Prop} {P3 : T0 → T1 → T2 → T3 → Prop} {P4 : T0 → T1 → T2 → T3 → Prop} {P5 : T0 → T1 → T2 → T3 → Prop} (h0 : P0) (x0 : T0) (x1 : T1) (x2 : T2) (x3 : T3) (h1 : P1 x0 x1 x2 x3) (h2 : P2 x0 x1 x2 x3) (h3 : P3 x0 x1 x2 x3) (h4 : P4 x0 x1 x2 x3) (h5 : P5 x0 x1 x2 x3) : (P0) ∧ ∃ x0 : T0, ∃ x1 : T1, ∃ x2 : T2, ∃ x3 : T3, (P1 x0 x1 x2 x3) ∧ (P2 x0 x1 x2 x3) ∧ (P3 x0 x1 x2 x3) ∧ (P4 x0 x1 x2 x3) ∧ P5 x0 x1 x2 x3 := (i_AEE h0 x0 x1 (i_EEA x2 x3 h1 (i_AAA h2 h3 h4 h5)))
theorem i_EEAAAAAAA {T0 : Sort _} {T1 : Sort _} {P0 : T0 → T1 → Prop} {P1 : T0 → T1 → Prop} {P2 : T0 → T1 → Prop} {P3 : T0 → T1 → Prop} {P4 : T0 → T1 → Prop} {P5 : T0 → T1 → Prop} {P6 : T0 → T1 → Prop} {P7 : T0 → T1 → Prop} (x0 : T0) (x1 : T1) (h0 : P0 x0 x1) (h1 : P1 x0 x1) (h2 : P2 x0 x1) (h3 : P3 x0 x1) (h4 : P4 x0 x1) (h5 : P5 x0 x1) (h6 : P6 x0 x1) (h7 : P7 x0 x1) : ∃ x0 : T0, ∃ x1 : T1, (P0 x0 x1) ∧ (P1 x0 x1) ∧ (P2 x0 x1) ∧ (P3 x0 x1) ∧ (P4 x0 x1) ∧ (P5 x0 x1) ∧ (P6 x0 x1) ∧ P7 x0 x1 := (i_EEA x0 x1 h0 (i_AAA h1 h2 h3 (i_AAA h4 h5 h6 h7)))
theorem i_EEEEEAEEA {T0 : Sort _} {T1 : Sort _} {T2 : Sort _} {T3 : Sort _} {T4 : Sort _} {T5 : Sort _} {T6 : Sort _} {P0 : T0 → T1 → T2 → T3 → T4 → Prop} {P1 : T0 → T1 → T2 → T3 → T4 → T5 → T6 → Prop} {P2 : T0 → T1 → T2 → T3 → T4 → T5 → T6 → Prop} (x0 : T0) (x1 : T1) (x2 : T2) (x3 : T3) (x4 : T4) (h0 : P0 x0 x1 x2 x3 x4) (x5 : T5) (x6 : T6) (h1 : P1 x0 x1 x2 x3 x4 x5 x6) (h2 : P2 x0 x1 x2 x3 x4 x5 x6) : ∃ x0 : T0, ∃ x1 : T1, ∃ x2 : T2, ∃ x3 : T3, ∃ x4 : T4, (P0 x0 x1 x2 x3 x4) ∧ ∃ x5 : T5, ∃ x6 : T6, (P1 x0 x1 x2 x3 x4 x5 x6) ∧ P2 x0 x1 x2 x3 x4 x5 x6 := (i_EEE x0 x1 x2 (i_EEA x3 x4 h0 (i_EEA x5 x6 h1 h2)))
theorem i_EEEEEEAAA {T0 : Sort _} {T1 : Sort _} {T2 : Sort _} {T3 : Sort _} {T4 : Sort _} {T5 : Sort _} {P0 : T0 → T1 → T2 → T3 → T4 → T5 → Prop} {P1 : T0 → T1 → T2 → T3 → T4 → T5 → Prop} {P2 : T0 → T1 → T2 → T3 → T4 → T5 → Prop} {P3 : T0 → T1 → T2 → T3 → T4 → T5 → Prop} (x0 : T0) (x1 : T1) (x2 : T2) (x3 : T3) (x4 : T4) (x5 : T5) (h0 : P0 x0 x1 x2 x3 x4 x5) (h1 : P1 x0 x1 x2 x3 x4 x5) (h2 : P2 x0 x1 x2 x3 x4 x5) (h3 : P3 x0 x1 x2 x3 x4 x5) : ∃ x0 : T0, ∃ x1 : T1, ∃ x2 : T2, ∃ x3 : T3, ∃ x4 : T4, ∃ x5 : T5, (P0 x0 x1 x2 x3 x4 x5) ∧ (P1 x0 x1 x2 x3 x4 x5) ∧ (P2 x0 x1 x2 x3 x4 x5) ∧ P3 x0 x1 x2 x3 x4 x5 := (i_EEE x0 x1 x2 (i_EEE x3 x4 x5 (i_AAA h0 h1 h2 h3)))
theorem i_AEEEEAAAAA {T0 : Sort _} {T1 : Sort _} {T2 : Sort _} {T3 : Sort _} {P0 : Prop} {P1 : T0 → T1 → T2 → T3 → Prop} {P2 : T0 → T1 → T2 → T3 → Prop} {P3 : T0 → T1 → T2 → T3 → Prop} {P4 : T0 → T1 → T2 → T3 → Prop} {P5 : T0 → T1 → T2 → T3 → Prop} {P6 : T0 → T1 → T2 → T3 → Prop} (h0 : P0) (x0 : T0) (x1 : T1) (x2 : T2) (x3 : T3) (h1 : P1 x0 x1 x2 x3) (h2 : P2 x0 x1 x2 x3) (h3 : P3 x0 x1 x2 x3) (h4 : P4 x0 x1 x2 x3) (h5 : P5 x0 x1 x2 x3) (h6 : P6 x0 x1 x2 x3) : (P0) ∧ ∃ x0 : T0, ∃ x1 : T1, ∃ x2 : T2, ∃ x3 : T3, (P1 x0 x1 x2 x3) ∧ (P2 x0 x1 x2 x3) ∧ (P3 x0 x1 x2 x3) ∧ (P4 x0 x1 x2 x3) ∧ (P5 x0 x1 x2 x3) ∧ P6 x0 x1 x2 x3 := (i_AEEE h0 x0 x1 x2 (i_EAA x3 h1 h2 (i_AAA h3 h4 h5 h6)))
theorem i_EEEEAAAAAA {T0 : Sort _} {T1 : Sort _} {T2 : Sort _} {T3 : Sort _} {P0 : T0 → T1 → T2 → T3 → Prop} {P1 : T0 → T1 → T2 → T3 → Prop} {P2 : T0 → T1 → T2 → T3 → Prop} {P3 : T0 → T1 → T2 → T3 → Prop} {P4 : T0 → T1 → T2 → T3 → Prop} {P5 : T0 → T1 → T2 → T3 → Prop} {P6 : T0 → T1 → T2 → T3 → Prop} (x0 : T0) (x1 : T1) (x2 : T2) (x3 : T3) (h0 : P0 x0 x1 x2 x3) (h1 : P1 x0 x1 x2 x3) (h2 : P2 x0 x1 x2 x3) (h3 : P3 x0 x1 x2 x3) (h4 : P4 x0 x1 x2 x3) (h5 : P5 x0 x1 x2 x3) (h6 : P6 x0 x1 x2 x3) : ∃ x0 : T0, ∃ x1 : T1, ∃ x2 : T2, ∃ x3 : T3, (P0 x0 x1 x2 x3) ∧ (P1 x0 x1 x2 x3) ∧ (P2 x0 x1 x2 x3) ∧ (P3 x0 x1 x2 x3) ∧ (P4 x0 x1 x2 x3) ∧ (P5 x0 x1 x2 x3) ∧ P6 x0 x1 x2 x3 := (i_EEEE x0 x1 x2 x3 (i_AAA h0 h1 h2 (i_AAA h3 h4 h5 h6)))
theorem i_EEEEAAAAEA {T0 : Sort _} {T1 : Sort _} {T2 : Sort _} {T3 : Sort _} {T4 : Sort _} {P0 : T0 → T1 → T2 → T3 → Prop} {P1 : T0 → T1 → T2 → T3 → Prop} {P2 : T0 → T1 → T2 → T3 → Prop} {P3 : T0 → T1 → T2 → T3 → Prop} {P4 : T0 → T1 → T2 → T3 → T4 → Prop} {P5 : T0 → T1 → T2 → T3 → T4 → Prop} (x0 : T0) (x1 : T1) (x2 : T2) (x3 : T3) (h0 : P0 x0 x1 x2 x3) (h1 : P1 x0 x1 x2 x3) (h2 : P2 x0 x1 x2 x3) (h3 : P3 x0 x1 x2 x3) (x4 : T4) (h4 : P4 x0 x1 x2 x3 x4) (h5 : P5 x0 x1 x2 x3 x4) : ∃ x0 : T0, ∃ x1 : T1, ∃ x2 : T2, ∃ x3 : T3, (P0 x0 x1 x2 x3) ∧ (P1 x0 x1 x2 x3) ∧ (P2 x0 x1 x2 x3) ∧ (P3 x0 x1 x2 x3) ∧ ∃ x4 : T4, (P4 x0 x1 x2 x3 x4) ∧ P5 x0 x1 x2 x3 x4 := (i_EEEE x0 x1 x2 x3 (i_AAA h0 h1 h2 (i_AEA h3 x4 h4 h5)))
theorem i_EEEEEAAAAA {T0 : Sort _} {T1 : Sort _} {T2 : Sort _} {T3 : Sort _} {T4 : Sort _} {P0 : T0 → T1 → T2 → T3 → T4 → Prop} {P1 : T0 → T1 → T2 → T3 → T4 → Prop} {P2 : T0 → T1 → T2 → T3 → T4 → Prop} {P3 : T0 → T1 → T2 → T3 → T4 → Prop} {P4 : T0 → T1 → T2 → T3 → T4 → Prop} {P5 : T0 → T1 → T2 → T3 → T4 → Prop} (x0 : T0) (x1 : T1) (x2 : T2) (x3 : T3) (x4 : T4) (h0 : P0 x0 x1 x2 x3 x4) (h1 : P1 x0 x1 x2 x3 x4) (h2 : P2 x0 x1 x2 x3 x4) (h3 : P3 x0 x1 x2 x3 x4) (h4 : P4 x0 x1 x2 x3 x4) (h5 : P5 x0 x1 x2 x3 x4) : ∃ x0 : T0, ∃ x1 : T1, ∃ x2 : T2, ∃ x3 : T3, ∃ x4 : T4, (P0 x0 x1 x2 x3 x4) ∧ (P1 x0 x1 x2 x3 x4) ∧ (P2 x0 x1 x2 x3 x4) ∧ (P3 x0 x1 x2 x3 x4) ∧ (P4 x0 x1 x2 x3 x4) ∧ P5 x0 x1 x2 x3 x4 := (i_EEEE x0 x1 x2 x3 (i_EAA x4 h0 h1 (i_AAA h2 h3 h4 h5)))
theorem i_AEAEEEEAAAA {T0 : Sort _} {T1 : Sort _} {T2 : Sort _} {T3 : Sort _} {T4 : Sort _} {P0 : Prop} {P1 : T0 → Prop} {P2 : T0 → T1 → T2 → T3 → T4 → Prop} {P3 : T0 → T1 → T2 → T3 → T4 → Prop} {P4 : T0 → T1 → T2 → T3 → T4 → Prop} {P5 : T0 → T1 → T2 → T3 → T4 → Prop} {P6 : T0 → T1 → T2 → T3 → T4 → Prop} (h0 : P0) (x0 : T0) (h1 : P1 x0) (x1 : T1) (x2 : T2) (x3 : T3) (x4 : T4) (h2 : P2 x0 x1 x2 x3 x4) (h3 : P3 x0 x1 x2 x3 x4) (h4 : P4 x0 x1 x2 x3 x4) (h5 : P5 x0 x1 x2 x3 x4) (h6 : P6 x0 x1 x2 x3 x4) : (P0) ∧ ∃ x0 : T0, (P1 x0) ∧ ∃ x1 : T1, ∃ x2 : T2, ∃ x3 : T3, ∃ x4 : T4, (P2 x0 x1 x2 x3 x4) ∧ (P3 x0 x1 x2 x3 x4) ∧ (P4 x0 x1 x2 x3 x4) ∧ (P5 x0 x1 x2 x3 x4) ∧ P6 x0 x1 x2 x3 x4 := (i_AEAE h0 x0 h1 x1 (i_EEEA x2 x3 x4 h2 (i_AAA h3 h4 h5 h6)))
theorem i_EAAEEEAAAAA {T0 : Sort _} {T1 : Sort _} {T2 : Sort _} {T3 : Sort _} {P0 : T0 → Prop} {P1 : T0 → Prop} {P2 : T0 → T1 → T2 → T3 → Prop} {P3 : T0 → T1 → T2 → T3 → Prop} {P4 : T0 → T1 → T2 → T3 → Prop} {P5 : T0 → T1 → T2 → T3 → Prop} {P6 : T0 → T1 → T2 → T3 → Prop} {P7 : T0 → T1 → T2 → T3 → Prop} (x0 : T0) (h0 : P0 x0) (h1 : P1 x0) (x1 : T1) (x2 : T2) (x3 : T3) (h2 : P2 x0 x1 x2 x3) (h3 : P3 x0 x1 x2 x3) (h4 : P4 x0 x1 x2 x3) (h5 : P5 x0 x1 x2 x3) (h6 : P6 x0 x1 x2 x3) (h7 : P7 x0 x1 x2 x3) : ∃ x0 : T0, (P0 x0) ∧ (P1 x0) ∧ ∃ x1 : T1, ∃ x2 : T2, ∃ x3 : T3, (P2 x0 x1 x2 x3) ∧ (P3 x0 x1 x2 x3) ∧ (P4 x0 x1 x2 x3) ∧ (P5 x0 x1 x2 x3) ∧ (P6 x0 x1 x2 x3) ∧ P7 x0 x1 x2 x3 := (i_EAAE x0 h0 h1 x1 (i_EEAA x2 x3 h2 h3 (i_AAA h4 h5 h6 h7)))
theorem i_EEEEEAAAAAA {T0 : Sort _} {T1 : Sort _} {T2 : Sort _} {T3 : Sort _} {T4 : Sort _} {P0 : T0 → T1 → T2 → T3 → T4 → Prop} {P1 : T0 → T1 → T2 → T3 → T4 → Prop} {P2 : T0 → T1 → T2 → T3 → T4 → Prop} {P3 : T0 → T1 → T2 → T3 → T4 → Prop} {P4 : T0 → T1 → T2 → T3 → T4 → Prop} {P5 : T0 → T1 → T2 → T3 → T4 → Prop} {P6 : T0 → T1 → T2 → T3 → T4 → Prop} (x0 : T0) (x1 : T1) (x2 : T2) (x3 : T3) (x4 : T4) (h0 : P0 x0 x1 x2 x3 x4) (h1 : P1 x0 x1 x2 x3 x4) (h2 : P2 x0 x1 x2 x3 x4) (h3 : P3 x0 x1 x2 x3 x4) (h4 : P4 x0 x1 x2 x3 x4) (h5 : P5 x0 x1 x2 x3 x4) (h6 : P6 x0 x1 x2 x3 x4) : ∃ x0 : T0, ∃ x1 : T1, ∃ x2 : T2, ∃ x3 : T3, ∃ x4 : T4, (P0 x0 x1 x2 x3 x4) ∧ (P1 x0 x1 x2 x3 x4) ∧ (P2 x0 x1 x2 x3 x4) ∧ (P3 x0 x1 x2 x3 x4) ∧ (P4 x0 x1 x2 x3 x4) ∧ (P5 x0 x1 x2 x3 x4) ∧ P6 x0 x1 x2 x3 x4 := (i_EEEE x0 x1 x2 x3 (i_EAAA x4 h0 h1 h2 (i_AAA h3 h4 h5 h6)))
theorem i_EEEEEEEAAAA {T0 : Sort _} {T1 : Sort _} {T2 : Sort _} {T3 : Sort _} {T4 : Sort _} {T5 : Sort _} {T6 : Sort _} {P0 : T0 → T1 → T2 → T3 → T4 → T5 → T6 → Prop} {P1 : T0 → T1 → T2 → T3 → T4 → T5 → T6 → Prop} {P2 : T0 → T1 → T2 → T3 → T4 → T5 → T6 → Prop} {P3 : T0 → T1 → T2 → T3 → T4 → T5 → T6 → Prop} {P4 : T0 → T1 → T2 → T3 → T4 → T5 → T6 → Prop} (x0 : T0) (x1 : T1) (x2 : T2) (x3 : T3) (x4 : T4) (x5 : T5) (x6 : T6) (h0 : P0 x0 x1 x2 x3 x4 x5 x6) (h1 : P1 x0 x1 x2 x3 x4 x5 x6) (h2 : P2 x0 x1 x2 x3 x4 x5 x6) (h3 : P3 x0 x1 x2 x3 x4 x5 x6) (h4 : P4 x0 x1 x2 x3 x4 x5 x6) : ∃ x0 : T0, ∃ x1 : T1, ∃ x2 : T2, ∃ x3 : T3, ∃ x4 : T4, ∃ x5 : T5, ∃ x6 : T6, (P0 x0 x1 x2 x3 x4 x5 x6) ∧ (P1 x0 x1 x2 x3 x4 x5 x6) ∧ (P2 x0 x1 x2 x3 x4 x5 x6) ∧ (P3 x0 x1 x2 x3 x4 x5 x6) ∧ P4 x0 x1 x2 x3 x4 x5 x6 := (i_EEEE x0 x1 x2 x3 (i_EEEA x4 x5 x6 h0 (i_AAA h1 h2 h3 h4)))
theorem i_EEEEEEAAAAAA {T0 : Sort _} {T1 : Sort _} {T2 : Sort _} {T3 : Sort _} {T4 : Sort _} {T5 : Sort _} {P0 : T0 → T1 → T2 → T3 → T4 → T5 → Prop} {P1 : T0 → T1 → T2 → T3 → T4 → T5 → Prop} {P2 : T0 → T1 → T2 → T3 → T4 → T5 → Prop} {P3 : T0 → T1 → T2 → T3 → T4 → T5 → Prop} {P4 : T0 → T1 → T2 → T3 → T4 → T5 → Prop} {P5 : T0 → T1 → T2 → T3 → T4 → T5 → Prop} {P6 : T0 → T1 → T2 → T3 → T4 → T5 → Prop} (x0 : T0) (x1 : T1) (x2 : T2) (x3 : T3) (x4 : T4) (x5 : T5) (h0 : P0 x0 x1 x2 x3 x4 x5) (h1 : P1 x0 x1 x2 x3 x4 x5) (h2 : P2 x0 x1 x2 x3 x4 x5) (h3 : P3 x0 x1 x2 x3 x4 x5) (h4 : P4 x0 x1 x2 x3 x4 x5) (h5 : P5 x0 x1 x2 x3 x4 x5) (h6 : P6 x0 x1 x2 x3 x4 x5) : ∃ x0 : T0, ∃ x1 : T1, ∃ x2 : T2, ∃ x3 : T3, ∃ x4 : T4, ∃ x5 : T5, (P0 x0 x1 x2 x3 x4 x5) ∧ (P1 x0 x1 x2 x3 x4 x5) ∧ (P2 x0 x1 x2 x3 x4 x5) ∧ (P3 x0 x1 x2 x3 x4 x5) ∧ (P4 x0 x1 x2 x3 x4 x5) ∧ (P5 x0 x1 x2 x3 x4 x5) ∧ P6 x0 x1 x2 x3 x4 x5 := (i_EEEE x0 x1 x2 x3 (i_EEAA x4 x5 h0 h1 (i_AAAA h2 h3 h4 h5 h6)))
theorem i_EEEEEEEAAAAA {T0 : Sort _} {T1 : Sort _} {T2 : Sort _} {T3 : Sort _} {T4 : Sort _} {T5 : Sort _} {T6 : Sort _} {P0 : T0 → T1 → T2 → T3 → T4 → T5 → T6 → Prop} {P1 : T0 → T1 → T2 → T3 → T4 → T5 → T6 → Prop} {P2 : T0 → T1 → T2 → T3 → T4 → T5 → T6 → Prop} {P3 : T0 → T1 → T2 → T3 → T4 → T5 → T6 → Prop} {P4 : T0 → T1 → T2 → T3 → T4 → T5 → T6 → Prop} {P5 : T0 → T1 → T2 → T3 → T4 → T5 → T6 → Prop} (x0 : T0) (x1 : T1) (x2 : T2) (x3 : T3) (x4 : T4) (x5 : T5) (x6 : T6) (h0 : P0 x0 x1 x2 x3 x4 x5 x6) (h1 : P1 x0 x1 x2 x3 x4 x5 x6) (h2 : P2 x0 x1 x2 x3 x4 x5 x6) (h3 : P3 x0 x1 x2 x3 x4 x5 x6) (h4 : P4 x0 x1 x2 x3 x4 x5 x6) (h5 : P5 x0 x1 x2 x3 x4 x5 x6) : ∃ x0 : T0, ∃ x1 : T1, ∃ x2 : T2, ∃ x3 : T3, ∃ x4 : T4, ∃ x5 : T5, ∃ x6 : T6, (P0 x0 x1 x2 x3 x4 x5 x6) ∧ (P1 x0 x1 x2 x3 x4 x5 x6) ∧ (P2 x0 x1 x2 x3 x4 x5 x6) ∧ (P3 x0 x1 x2 x3 x4 x5 x6) ∧ (P4 x0 x1 x2 x3 x4 x5 x6) ∧ P5 x0 x1 x2 x3 x4 x5 x6 := (i_EEEE x0 x1 x2 x3 (i_EEEA x4 x5 x6 h0 (i_AAAA h1 h2 h3 h4 h5)))
theorem i_EEEEEEEEAAAA {T0 : Sort _} {T1 : Sort _} {T2 : Sort _} {T3 : Sort _} {T4 : Sort _} {T5 : Sort _} {T6 : Sort _} {T7 : Sort _} {P0 : T0 → T1 → T2 → T3 → T4 → T5 → T6 → T7 → Prop} {P1 : T0 → T1 → T2 → T3 → T4 → T5 → T6 → T7 → Prop} {P2 : T0 → T1 → T2 → T3 → T4 → T5 → T6 → T7 → Prop} {P3 : T0 → T1 → T2 → T3 → T4 → T5 → T6 → T7 → Prop} {P4 : T0 → T1 → T2 → T3 → T4 → T5 → T6 → T7 → Prop} (x0 : T0) (x1 : T1) (x2 : T2) (x3 : T3) (x4 : T4) (x5 : T5) (x6 : T6) (x7 : T7) (h0 : P0 x0 x1 x2 x3 x4 x5 x6 x7) (h1 : P1 x0 x1 x2 x3 x4 x5 x6 x7) (h2 : P2 x0 x1 x2 x3 x4 x5 x6 x7) (h3 : P3 x0 x1 x2 x3 x4 x5 x6 x7) (h4 : P4 x0 x1 x2 x3 x4 x5 x6 x7) : ∃ x0 : T0, ∃ x1 : T1, ∃ x2 : T2, ∃ x3 : T3, ∃ x4 : T4, ∃ x5 : T5, ∃ x6 : T6, ∃ x7 : T7, (P0 x0 x1 x2 x3 x4 x5 x6 x7) ∧ (P1 x0 x1 x2 x3 x4 x5 x6 x7) ∧ (P2 x0 x1 x2 x3 x4 x5 x6 x7) ∧ (P3 x0 x1 x2 x3 x4 x5 x6 x7) ∧ P4 x0 x1 x2 x3 x4 x5 x6 x7 := (i_EEEE x0 x1 x2 x3 (i_EEEE x4 x5 x6 x7 (i_AAAA h0 h1 h2 h3 h4)))
theorem i_AEAEEEEEAAAAA {T0 : Sort _} {T1 : Sort _} {T2 : Sort _} {T3 : Sort _} {T4 : Sort _} {T5 : Sort _} {P0 : Prop} {P1 : T0 → Prop} {P2 : T0 → T1 → T2 → T3 → T4 → T5 → Prop} {P3 : T0 → T1 → T2 → T3 → T4 → T5 → Prop} {P4 : T0 → T1 → T2 → T3 → T4 → T5 → Prop} {P5 : T0 → T1 → T2 → T3 → T4 → T5 → Prop} {P6 : T0 → T1 → T2 → T3 → T4 → T5 → Prop} {P7 : T0 → T1 → T2 → T3 → T4 → T5 → Prop} (h0 : P0) (x0 : T0) (h1 : P1 x0) (x1 : T1) (x2 : T2) (x3 : T3) (x4 : T4) (x5 : T5) (h2 : P2 x0 x1 x2 x3 x4 x5) (h3 : P3 x0 x1 x2 x3 x4 x5) (h4 : P4 x0 x1 x2 x3 x4 x5) (h5 : P5 x0 x1 x2 x3 x4 x5) (h6 : P6 x0 x1 x2 x3 x4 x5) (h7 : P7 x0 x1 x2 x3 x4 x5) : (P0) ∧ ∃ x0 : T0, (P1 x0) ∧ ∃ x1 : T1, ∃ x2 : T2, ∃ x3 : T3, ∃ x4 : T4, ∃ x5 : T5, (P2 x0 x1 x2 x3 x4 x5) ∧ (P3 x0 x1 x2 x3 x4 x5) ∧ (P4 x0 x1 x2 x3 x4 x5) ∧ (P5 x0 x1 x2 x3 x4 x5) ∧ (P6 x0 x1 x2 x3 x4 x5) ∧ P7 x0 x1 x2 x3 x4 x5 := (i_AEAE h0 x0 h1 x1 (i_EEE x2 x3 x4 (i_EAA x5 h2 h3 (i_AAA h4 h5 h6 h7))))
theorem i_EEEEEEAAAAAAAA {T0 : Sort _} {T1 : Sort _} {T2 : Sort _} {T3 : Sort _} {T4 : Sort _} {T5 : Sort _} {P0 : T0 → T1 → T2 → T3 → T4 → T5 → Prop} {P1 : T0 → T1 → T2 → T3 → T4 → T5 → Prop} {P2 : T0 → T1 → T2 → T3 → T4 → T5 → Prop} {P3 : T0 → T1 → T2 → T3 → T4 → T5 → Prop} {P4 : T0 → T1 → T2 → T3 → T4 → T5 → Prop} {P5 : T0 → T1 → T2 → T3 → T4 → T5 → Prop} {P6 : T0 → T1 → T2 → T3 → T4 → T5 → Prop} {P7 : T0 → T1 → T2 → T3 → T4 → T5 → Prop} {P8 : T0 → T1 → T2 → T3 → T4 → T5 → Prop} (x0 : T0) (x1 : T1) (x2 : T2) (x3 : T3) (x4 : T4) (x5 : T5) (h0 : P0 x0 x1 x2 x3 x4 x5) (h1 : P1 x0 x1 x2 x3 x4 x5) (h2 : P2 x0 x1 x2 x3 x4 x5) (h3 : P3 x0 x1 x2 x3 x4 x5) (h4 : P4 x0 x1 x2 x3 x4 x5) (h5 : P5 x0 x1 x2 x3 x4 x5) (h6 : P6 x0 x1 x2 x3 x4 x5) (h7 : P7 x0 x1 x2 x3 x4 x5) (h8 : P8 x0 x1 x2 x3 x4 x5) : ∃ x0 : T0, ∃ x1 : T1, ∃ x2 : T2, ∃ x3 : T3, ∃ x4 : T4, ∃ x5 : T5, (P0 x0 x1 x2 x3 x4 x5) ∧ (P1 x0 x1 x2 x3 x4 x5) ∧ (P2 x0 x1 x2 x3 x4 x5) ∧ (P3 x0 x1 x2 x3 x4 x5) ∧ (P4 x0 x1 x2 x3 x4 x5) ∧ (P5 x0 x1 x2 x3 x4 x5) ∧ (P6 x0 x1 x2 x3 x4 x5) ∧ (P7 x0 x1 x2 x3 x4 x5) ∧ P8 x0 x1 x2 x3 x4 x5 := (i_EEEE x0 x1 x2 x3 (i_EEAA x4 x5 h0 h1 (i_AAA h2 h3 h4 (i_AAA h5 h6 h7 h8))))
theorem i_EEEEEEEAAAAAAA {T0 : Sort _} {T1 : Sort _} {T2 : Sort _} {T3 : Sort _} {T4 : Sort _} {T5 : Sort _} {T6 : Sort _} {P0 : T0 → T1 → T2 → T3 → T4 → T5 → T6 → Prop} {P1 : T0 → T1 → T2 → T3 → T4 → T5 → T6 → Prop} {P2 : T0 → T1 → T2 → T3 → T4 → T5 → T6 → Prop} {P3 : T0 → T1 → T2 → T3 → T4 → T5 → T6 → Prop} {P4 : T0 → T1 → T2 → T3 → T4 → T5 → T6 → Prop} {P5 : T0 → T1 → T2 → T3 → T4 → T5 → T6 → Prop} {P6 : T0 → T1 → T2 → T3 → T4 → T5 → T6 → Prop} {P7 : T0 → T1 → T2 → T3 → T4 → T5 → T6 → Prop} (x0 : T0) (x1 : T1) (x2 : T2) (x3 : T3) (x4 : T4) (x5 : T5) (x6 : T6) (h0 : P0 x0 x1 x2 x3 x4 x5 x6) (h1 : P1 x0 x1 x2 x3 x4 x5 x6) (h2 : P2 x0 x1 x2 x3 x4 x5 x6) (h3 : P3 x0 x1 x2 x3 x4 x5 x6) (h4 : P4 x0 x1 x2 x3 x4 x5 x6) (h5 : P5 x0 x1 x2 x3 x4 x5 x6) (h6 : P6 x0 x1 x2 x3 x4 x5 x6) (h7 : P7 x0 x1 x2 x3 x4 x5 x6) : ∃ x0 : T0, ∃ x1 : T1, ∃ x2 : T2, ∃ x3 : T3, ∃ x4 : T4, ∃ x5 : T5, ∃ x6 : T6, (P0 x0 x1 x2 x3 x4 x5 x6) ∧ (P1 x0 x1 x2 x3 x4 x5 x6) ∧ (P2 x0 x1 x2 x3 x4 x5 x6) ∧ (P3 x0 x1 x2 x3 x4 x5 x6) ∧ (P4 x0 x1 x2 x3 x4 x5 x6) ∧ (P5 x0 x1 x2 x3 x4 x5 x6) ∧ (P6 x0 x1 x2 x3 x4 x5 x6) ∧ P7 x0 x1 x2 x3 x4 x5 x6 := (i_EEEE x0 x1 x2 x3 (i_EEEA x4 x5 x6 h0 (i_AAA h1 h2 h3 (i_AAA h4 h5 h6 h7))))
theorem i_AAEEEEEEAAAAAAAA {T0 : Sort _} {T1 : Sort _} {T2 : Sort _} {T3 : Sort _} {T4 : Sort _} {T5 : Sort _} {P0 : Prop} {P1 : Prop} {P2 : T0 → T1 → T2 → T3 → T4 → T5 → Prop} {P3 : T0 → T1 → T2 → T3 → T4 → T5 → Prop} {P4 : T0 → T1 → T2 → T3 → T4 → T5 → Prop} {P5 : T0 → T1 → T2 → T3 → T4 → T5 → Prop} {P6 : T0 → T1 → T2 → T3 → T4 → T5 → Prop} {P7 : T0 → T1 → T2 → T3 → T4 → T5 → Prop} {P8 : T0 → T1 → T2 → T3 → T4 → T5 → Prop} {P9 : T0 → T1 → T2 → T3 → T4 → T5 → Prop} {P10 : T0 → T1 → T2 → T3 → T4 → T5 → Prop} (h0 : P0) (h1 : P1) (x0 : T0) (x1 : T1) (x2 : T2) (x3 : T3) (x4 : T4) (x5 : T5) (h2 : P2 x0 x1 x2 x3 x4 x5) (h3 : P3 x0 x1 x2 x3 x4 x5) (h4 : P4 x0 x1 x2 x3 x4 x5) (h5 : P5 x0 x1 x2 x3 x4 x5) (h6 : P6 x0 x1 x2 x3 x4 x5) (h7 : P7 x0 x1 x2 x3 x4 x5) (h8 : P8 x0 x1 x2 x3 x4 x5) (h9 : P9 x0 x1 x2 x3 x4 x5) (h10 : P10 x0 x1 x2 x3 x4 x5) : (P0) ∧ (P1) ∧ ∃ x0 : T0, ∃ x1 : T1, ∃ x2 : T2, ∃ x3 : T3, ∃ x4 : T4, ∃ x5 : T5, (P2 x0 x1 x2 x3 x4 x5) ∧ (P3 x0 x1 x2 x3 x4 x5) ∧ (P4 x0 x1 x2 x3 x4 x5) ∧ (P5 x0 x1 x2 x3 x4 x5) ∧ (P6 x0 x1 x2 x3 x4 x5) ∧ (P7 x0 x1 x2 x3 x4 x5) ∧ (P8 x0 x1 x2 x3 x4 x5) ∧ (P9 x0 x1 x2 x3 x4 x5) ∧ P10 x0 x1 x2 x3 x4 x5 := (i_AAEE h0 h1 x0 x1 (i_EEEE x2 x3 x4 x5 (i_AAAA h2 h3 h4 h5 (i_AAAA h6 h7 h8 h9 h10))))
theorem i_AEEEEAAAEEEEAAAA {T0 : Sort _} {T1 : Sort _} {T2 : Sort _} {T3 : Sort _} {T4 : Sort _} {T5 : Sort _} {T6 : Sort _} {T7 : Sort _} {P0 : Prop} {P1 : T0 → T1 → T2 → T3 → Prop} {P2 : T0 → T1 → T2 → T3 → Prop} {P3 : T0 → T1 → T2 → T3 → Prop} {P4 : T0 → T1 → T2 → T3 → T4 → T5 → T6 → T7 → Prop} {P5 : T0 → T1 → T2 → T3 → T4 → T5 → T6 → T7 → Prop} {P6 : T0 → T1 → T2 → T3 → T4 → T5 → T6 → T7 → Prop} {P7 : T0 → T1 → T2 → T3 → T4 → T5 → T6 → T7 → Prop} {P8 : T0 → T1 → T2 → T3 → T4 → T5 → T6 → T7 → Prop} (h0 : P0) (x0 : T0) (x1 : T1) (x2 : T2) (x3 : T3) (h1 : P1 x0 x1 x2 x3) (h2 : P2 x0 x1 x2 x3) (h3 : P3 x0 x1 x2 x3) (x4 : T4) (x5 : T5) (x6 : T6) (x7 : T7) (h4 : P4 x0 x1 x2 x3 x4 x5 x6 x7) (h5 : P5 x0 x1 x2 x3 x4 x5 x6 x7) (h6 : P6 x0 x1 x2 x3 x4 x5 x6 x7) (h7 : P7 x0 x1 x2 x3 x4 x5 x6 x7) (h8 : P8 x0 x1 x2 x3 x4 x5 x6 x7) : (P0) ∧ ∃ x0 : T0, ∃ x1 : T1, ∃ x2 : T2, ∃ x3 : T3, (P1 x0 x1 x2 x3) ∧ (P2 x0 x1 x2 x3) ∧ (P3 x0 x1 x2 x3) ∧ ∃ x4 : T4, ∃ x5 : T5, ∃ x6 : T6, ∃ x7 : T7, (P4 x0 x1 x2 x3 x4 x5 x6 x7) ∧ (P5 x0 x1 x2 x3 x4 x5 x6 x7) ∧ (P6 x0 x1 x2 x3 x4 x5 x6 x7) ∧ (P7 x0 x1 x2 x3 x4 x5 x6 x7) ∧ P8 x0 x1 x2 x3 x4 x5 x6 x7 := (i_AEEE h0 x0 x1 x2 (i_EAAA x3 h1 h2 h3 (i_EEEE x4 x5 x6 x7 (i_AAAA h4 h5 h6 h7 h8))))
theorem i_EEEEEEEEEEAAAAAAA {T0 : Sort _} {T1 : Sort _} {T2 : Sort _} {T3 : Sort _} {T4 : Sort _} {T5 : Sort _} {T6 : Sort _} {T7 : Sort _} {T8 : Sort _} {T9 : Sort _} {P0 : T0 → T1 → T2 → T3 → T4 → T5 → T6 → T7 → T8 → T9 → Prop} {P1 : T0 → T1 → T2 → T3 → T4 → T5 → T6 → T7 → T8 → T9 → Prop} {P2 : T0 → T1 → T2 → T3 → T4 → T5 → T6 → T7 → T8 → T9 → Prop} {P3 : T0 → T1 → T2 → T3 → T4 → T5 → T6 → T7 → T8 → T9 → Prop} {P4 : T0 → T1 → T2 → T3 → T4 → T5 → T6 → T7 → T8 → T9 → Prop} {P5 : T0 → T1 → T2 → T3 → T4 → T5 → T6 → T7 → T8 → T9 → Prop} {P6 : T0 → T1 → T2 → T3 → T4 → T5 → T6 → T7 → T8 → T9 → Prop} {P7 : T0 → T1 → T2 → T3 → T4 → T5 → T6 → T7 → T8 → T9 → Prop} (x0 : T0) (x1 : T1) (x2 : T2) (x3 : T3) (x4 : T4) (x5 : T5) (x6 : T6) (x7 : T7) (x8 : T8) (x9 : T9) (h0 : P0 x0 x1 x2 x3 x4 x5 x6 x7 x8 x9) (h1 : P1 x0 x1 x2 x3 x4 x5 x6 x7 x8 x9) (h2 : P2 x0 x1 x2 x3 x4 x5 x6 x7 x8 x9) (h3 : P3 x0 x1 x2 x3 x4 x5 x6 x7 x8 x9) (h4 : P4 x0 x1 x2 x3 x4 x5 x6 x7 x8 x9) (h5 : P5 x0 x1 x2 x3 x4 x5 x6 x7 x8 x9) (h6 : P6 x0 x1 x2 x3 x4 x5 x6 x7 x8 x9) (h7 : P7 x0 x1 x2 x3 x4 x5 x6 x7 x8 x9) : ∃ x0 : T0, ∃ x1 : T1, ∃ x2 : T2, ∃ x3 : T3, ∃ x4 : T4, ∃ x5 : T5, ∃ x6 : T6, ∃ x7 : T7, ∃ x8 : T8, ∃ x9 : T9, (P0 x0 x1 x2 x3 x4 x5 x6 x7 x8 x9) ∧ (P1 x0 x1 x2 x3 x4 x5 x6 x7 x8 x9) ∧ (P2 x0 x1 x2 x3 x4 x5 x6 x7 x8 x9) ∧ (P3 x0 x1 x2 x3 x4 x5 x6 x7 x8 x9) ∧ (P4 x0 x1 x2 x3 x4 x5 x6 x7 x8 x9) ∧ (P5 x0 x1 x2 x3 x4 x5 x6 x7 x8 x9) ∧ (P6 x0 x1 x2 x3 x4 x5 x6 x7 x8 x9) ∧ P7 x0 x1 x2 x3 x4 x5 x6 x7 x8 x9 := (i_EEEE x0 x1 x2 x3 (i_EEEE x4 x5 x6 x7 (i_EEA x8 x9 h0 (i_AAA h1 h2 h3 (i_AAA h4 h5 h6 h7)))))
end Mine
local macro_rules | `(tactic| wide_open using $h) => `(tactic| first | exact Mine.x_ns $h | exact Mine.x_sn $h | exact Mine.x_ft $h | exact Mine.x_tf $h | (have e9 := Option.some.inj $h; clear $(⟨h.raw⟩):ident; subst e9) | rcases $h:term with ⟨⟩)
local macro_rules | `(tactic| wide_line using $t) => `(tactic| first | refine (Eq.symm $t) ▸ ?_ | rewrite [$t:term])
local macro_rules | `(tactic| wide_open with $t) => `(tactic| (wide_line using $t; try with_reducible rfl))
local macro_rules | `(tactic| wide_line with $a using $h) => `(tactic| first | exact Mine.x_ns (Eq.trans (Eq.symm $a) $h) | exact Mine.x_sn (Eq.trans (Eq.symm $a) $h) | (have e9 := Option.some.inj (Eq.trans (Eq.symm $a) $h); clear $(⟨h.raw⟩):ident; subst e9) | (rw [$a:term] at $(⟨h.raw⟩):ident; wide_open using $h))
section
open PySem PySem.W PySem.Calls PyProof.Rows
namespace Mine
noncomputable def er : Value → Value
  | .int i _ => .int i 0
  | .float b _ => .float b 0
  | .str s _ => .str s 0
  | .bytes b _ => .bytes b 0
  | v => v
theorem er_int {v : Value} {i : Int} (h : er v = .int i 0) : ∃ t, v = .int i t := by
  cases v <;> simp_all [er]
theorem er_str {v : Value} {x : Str} (h : er v = .str x 0) : ∃ t, v = .str x t := by
  cases v <;> simp_all [er]
theorem er_ref {v : Value} {a : Addr} (h : er v = .ref a) : v = .ref a := by
  cases v <;> simp_all [er]
theorem er_bool {v : Value} {b : Bool} (h : er v = .bool b) : v = .bool b := by
  cases v <;> simp_all [er]
theorem er_none {v : Value} (h : er v = .none) : v = .none := by
  cases v <;> simp_all [er]
theorem er_builtin {v : Value} {i : String} (h : er v = .builtin i) : v = .builtin i := by
  cases v <;> simp_all [er]
theorem er_type {v : Value} {i : String} (h : er v = .type i) : v = .type i := by
  cases v <;> simp_all [er]
@[simp] theorem er_er (v : Value) : er (er v) = er v := by cases v <;> rfl
noncomputable abbrev Names := List Str
inductive IterK where
  | list (l : Addr) (i : Nat)
  | tup (l : Addr) (i : Nat)
  | range (x left : Int)
  | dict (d : Addr) (i n ep : Nat)
inductive GO where
  | range (a b : Int)
  | iter (k : IterK)
  | list (xs : List Value)
  | tup (xs : List Value)
  | dict (es : List (Int × Value)) (ep : Nat)
  | inst (C : Addr) (fs : List (Nat × Value))
  | cell (v : Option Value)
  | frame (ns : List Str) (vs : List (Option Value))
  | raw (o : Obj)
noncomputable abbrev GH := Addr → Option GO
noncomputable def GH.set (G : GH) (a : Addr) (o : GO) : GH := fun b => if b = a then some o else G b
noncomputable def GH.del (G : GH) (a : Addr) : GH := fun b => if b = a then none else G b
noncomputable def GH.un (H G : GH) : GH := fun a => match G a with | some g => some g | none => H a
noncomputable def Disj (H G : GH) : Prop := ∀ a, (G a).isSome = true → H a = none
@[simp] theorem GH.set_self (G : GH) (a : Addr) (o : GO) : (G.set a o) a = some o := by simp [GH.set]
theorem GH.set_ne (G : GH) {a b : Addr} (o : GO) (h : b ≠ a) : (G.set a o) b = G b := by simp [GH.set, h]
theorem GH.set_set (G : GH) (a : Addr) (o o' : GO) : (G.set a o).set a o' = G.set a o' := by
  funext b; simp only [GH.set]; split <;> rfl
theorem GH.set_comm (G : GH) {a b : Addr} (o o' : GO) (h : a ≠ b) : (G.set a o).set b o' = (G.set b o').set a o := by
  funext c; simp only [GH.set]
  by_cases h1 : c = b
  · subst h1; simp [Ne.symm h]
  · simp [h1]
set_option tactic.hygienic true in
theorem GH.set_same (G : GH) {a : Addr} {o : GO} (h : G a = some o) : G.set a o = G := by
  funext b; simp only [GH.set]; split
  · rename_i e; (wide_line using e; wide_open with h)
  · rfl
theorem GH.un_right {H G : GH} {a : Addr} {g : GO} (h : G a = some g) : GH.un H G a = some g := by simp [GH.un, h]
theorem GH.un_left {H G : GH} {a : Addr} (h : G a = none) : GH.un H G a = H a := by simp [GH.un, h]
theorem GH.un_set (H G : GH) (a : Addr) (o : GO) : GH.un H (G.set a o) = (GH.un H G).set a o := by
  funext b; simp only [GH.un, GH.set]
  by_cases hb : b = a
  · simp [hb]
  · simp [hb]
theorem GH.set_un {H G : GH} {a : Addr} (o : GO) (h : G a = none) : GH.un (H.set a o) G = (GH.un H G).set a o := by
  funext b; simp only [GH.un, GH.set]
  by_cases hb : b = a
  · subst hb; simp [h]
  · simp [hb]
theorem Disj.left {H G : GH} (D : Disj H G) {a : Addr} {o : GO} (h : H a = some o) : G a = none := by
  cases q : G a with
  | none => rfl
  | some g => have := D a (by wide_open with q; rfl); wide_line with h using this
theorem Disj.right {H G : GH} (D : Disj H G) {a : Addr} {o : GO} (h : G a = some o) : H a = none := D a (by wide_open with h; rfl)
theorem Disj.setG {H G : GH} (D : Disj H G) {a : Addr} {o : GO} (h : H a = none) : Disj H (G.set a o) := by
  intro b hb
  by_cases e : b = a
  · wide_open with e; exact h
  · rw [GH.set_ne _ _ e] at hb; exact D b hb
theorem Disj.setH {H G : GH} (D : Disj H G) {a : Addr} {o : GO} (h : G a = none) : Disj (H.set a o) G := by
  intro b hb
  by_cases e : b = a
  · subst e; wide_line with h using hb
  · wide_open with GH.set_ne _ _ e; exact D b hb
noncomputable def instMap (AT : Names) (fs : List (Nat × Value)) (x : Str) : Option Value := (AT.idxOf? x).bind fun i => fs.lookup i
section
variable (prog : Program) (w : World) (AT : Names)
noncomputable def IterK.At (h : Heap) (a : Addr) : IterK → Prop
  | .list l i => h.IsListIter a l i
  | .tup l i => h.IsTupleIter a l i
  | .range x left => IsRangeIter h a x left 1
  | .dict d i n ep => h.IsKeyIter a d i n ep
theorem IterK.At.get {h : Heap} {a : Addr} {k : IterK} (x : k.At h a) : ∃ o, h.get? a = some o := by
  cases k with
  | list l i => refine o_EA x fun o e z9 => ?_; try clear x; exact ⟨o, e⟩
  | tup l i => refine o_EA x fun o e z9 => ?_; try clear x; exact ⟨o, e⟩
  | range u v => exact ⟨_, x⟩
  | dict d i n ep => refine o_EA x fun o e z9 => ?_; try clear x; exact ⟨o, e⟩
theorem IterK.At.move {h h' : Heap} {a : Addr} {k : IterK} (x : k.At h a) (kk : ∀ o, h.get? a = some o → h'.get? a = some o) : k.At h' a := by
  cases k with
  | list l i => refine o_EA x fun o e r => ?_; try clear x; exact (i_EA o (kk _ e) r)
  | tup l i => refine o_EA x fun o e r => ?_; try clear x; exact (i_EA o (kk _ e) r)
  | range u v => exact kk _ x
  | dict d i n ep => refine o_EA x fun o e r => ?_; try clear x; exact (i_EA o (kk _ e) r)
noncomputable def Own (h : Heap) (d : Addr → Addr) (a : Addr) : GO → Prop
  | .list xs => ∃ vs, h.PlainList a vs ∧ vs.toList.map er = xs ∧ vs.size ≤ sizeLine
  | .tup xs => ∃ vs n, h.get? a = some { cls := .type "tuple", data := .seq vs n } ∧ vs.toList.map er = xs ∧ vs.size ≤ sizeLine
  | .dict es ep => ∃ kvs, h.DictAt (intKind prog w) a kvs ep ∧ kvs.map (fun p => (p.1, er p.2)) = es ∧ kvs.length ≤ sizeLine ∧ a ≠ sysModules
  | .inst C fs => h.get? a = some (instObj C (d a)) ∧ h.DictLe (d a) fs.length ∧ ∃ m, h.Ns (d a) m ∧ ∀ x, (m x).map er = instMap AT fs x
  | .cell v => ∃ v', h.IsCell a v' ∧ v'.map er = v
  | .frame ns vs => ∃ m, h.Ns a m ∧ ∀ x i v, ns.idxOf? x = some i → (vs[i]?).join = some v → (m x).map er = some v
  | .raw o => h.get? a = some o
  | .range x y => ∃ t u v, IsRange h a x y 1 t u v
  | .iter k => k.At h a
noncomputable def GO.isInst : GO → Bool
  | .inst _ _ => true
  | _ => false
theorem Own.get {h : Heap} {d : Addr → Addr} {a : Addr} {g : GO} (x : Own prog w AT h d a g) : ∃ o, h.get? a = some o := by
  cases g with
  | list xs => refine o_EA x fun vs n92 z9 => ?_; try clear x; obtain ⟨n, e⟩ := n92; exact ⟨_, e⟩
  | tup xs => refine o_EEA x fun vs n e z9 => ?_; try clear x; exact ⟨_, e⟩
  | dict es ep => refine o_EA x fun kvs n92 z9 => ?_; try clear x; obtain ⟨o, es', e, _⟩ := n92; exact ⟨_, e⟩
  | inst C fs => exact ⟨_, x.1⟩
  | cell v => refine o_EA x fun v' n92 z9 => ?_; try clear x; obtain ⟨o, e, _⟩ := n92; exact ⟨_, e⟩
  | frame ns vs => refine o_EA x fun m n92 z9 => ?_; try clear x; obtain ⟨o, es, ep, e, _⟩ := n92; exact ⟨_, e⟩
  | raw o => exact ⟨_, x⟩
  | range u v => refine o_EEE x fun z9 z9 z9 e => ?_; try clear x; exact ⟨_, e⟩
  | iter k => exact IterK.At.get x
theorem Own.move {h h' : Heap} {d d' : Addr → Addr} {a : Addr} {g : GO} (x : Own prog w AT h d a g) (k : ∀ o, h.get? a = some o → h'.get? a = some o)
    (hd : g.isInst = true → d' a = d a) (kd : g.isInst = true → ∀ o, h.get? (d a) = some o → h'.get? (d a) = some o) : Own prog w AT h' d' a g := by
  cases g with
  | list xs => refine o_EA x fun vs n92 r => ?_; try clear x; obtain ⟨n, e⟩ := n92; exact (i_EA vs ⟨n, k _ e⟩ r)
  | tup xs => refine o_EEA x fun vs n e r => ?_; try clear x; exact (i_EEA vs n (k _ e) r)
  | dict es ep => refine o_EA x fun kvs n92 r => ?_; try clear x; obtain ⟨o, es', e, q⟩ := n92; exact (i_EA kvs (i_EEA o es' (k _ e) q) r)
  | inst C fs =>
    refine o_AAEA x fun e z m n94 r => ?_; try clear x; obtain ⟨o, es, ep, e2, q⟩ := n94
    refine (i_AAEA (by wide_open with hd rfl; exact k _ e) ?_ m ?_ r)
    · wide_open with hd rfl
      exact z.of_same e2 (kd rfl _ e2)
    · wide_open with hd rfl
      exact (i_EEEA o es ep (kd rfl _ e2) q)
  | cell v => refine o_EA x fun v' n92 r => ?_; try clear x; obtain ⟨o, e, q⟩ := n92; exact (i_EA v' (i_EA o (k _ e) q) r)
  | frame ns vs => refine o_EA x fun m n92 r => ?_; try clear x; obtain ⟨o, es, ep, e, q⟩ := n92; exact (i_EA m (i_EEEA o es ep (k _ e) q) r)
  | raw o => exact k _ x
  | range u v => refine o_EEE x fun t1 t2 t3 e => ?_; try clear x; exact (i_EEE t1 t2 t3 (k _ e))
  | iter kk => exact IterK.At.move x k
structure ReprD (B : Heap) (os₀ : OsState) (U : GH) (s : Shared) (d : Addr → Addr) : Prop where
  keep : ∀ b o, B.get? b = some o → s.heap.get? b = some o
  own : ∀ a g, U a = some g → B.get? a = none ∧ Own prog w AT s.heap d a g
  ins : ∀ a C fs, U a = some (.inst C fs) → B.get? (d a) = none ∧ U (d a) = none ∧ ∀ b C' fs', U b = some (.inst C' fs') → d b = d a → b = a
  gens : s.gens = #[]
  os : s.os = os₀
noncomputable def Repr (B : Heap) (os₀ : OsState) (U : GH) (s : Shared) : Prop := ∃ d, ReprD prog w AT B os₀ U s d
end
section
variable {prog : Program} {w : World} {AT : Names} {B : Heap} {os₀ : OsState} {U : GH} {s : Shared}
theorem Repr.irr (R : Repr prog w AT B os₀ U s) {s' : Shared} (h1 : s'.heap = s.heap) (h2 : s'.gens = s.gens) (h3 : s'.os = s.os) : Repr prog w AT B os₀ U s' := by
  obtain ⟨d, k, o, i, g, os⟩ := R
  exact ⟨d, by wide_open with h1; exact k, by wide_open with h1; exact o, i, by wide_open with h2; exact g, by wide_open with h3; exact os⟩
theorem Repr.keep (R : Repr prog w AT B os₀ U s) : ∀ b o, B.get? b = some o → s.heap.get? b = some o := let ⟨_, r⟩ := R; r.keep
theorem Repr.gens (R : Repr prog w AT B os₀ U s) : s.gens = #[] := let ⟨_, r⟩ := R; r.gens
theorem Repr.os (R : Repr prog w AT B os₀ U s) : s.os = os₀ := let ⟨_, r⟩ := R; r.os
theorem Repr.drop (R : Repr prog w AT B os₀ U s) {U' : GH} (h : ∀ a g, U' a = some g → U a = some g) : Repr prog w AT B os₀ U' s := by
  obtain ⟨d, k, o, i, g, os⟩ := R
  refine ⟨d, k, fun a g e => o a g (h _ _ e), fun a C fs e => ?_, g, os⟩
  refine o_AA (i a C fs (h _ _ e)) fun i1 i2 i3 => ?_
  refine (i_AA i1 ?_ (fun b C' fs' e' => i3 b C' fs' (h _ _ e')))
  cases q : U' (d a) with
  | none => rfl
  | some g' => wide_line with h _ _ q using i2
theorem lqN {a b n : Nat} (h : a ≤ b) : min a n + (n - b) ≤ n := by omega
theorem lqA {a b n N : Nat} (h : a ≤ b) (k : n ≤ N) : min a n + (n - b) ≤ N := Nat.le_trans (lqN h) k
theorem lqB {a n m N : Nat} (k : n + m ≤ N) : min a n + m + (n - a) ≤ N := by omega
theorem lqD {a n m N : Nat} (k : n + m ≤ N) : min a n + m ≤ N := by omega
theorem mid1 {l h : Nat} (k : l < h) : (l + h) / 2 - l < h - l := Nat.sub_lt_sub_right ((Nat.le_div_iff_mul_le (by decide)).mpr (by omega)) (Nat.div_lt_of_lt_mul (by omega))
theorem mid2 {l h : Nat} (k : l < h) : h - ((l + h) / 2 + 1) < h - l := Nat.sub_lt_sub_left k (Nat.lt_succ_of_le ((Nat.le_div_iff_mul_le (by decide)).mpr (by omega)))
theorem lt_of_get {h : Heap} {a : Addr} {o : Obj} (e : h.get? a = some o) : a < h.objs.size := Heap.lt_size e
theorem Repr.lt (R : Repr prog w AT B os₀ U s) {a : Addr} {g : GO} (e : U a = some g) : a < s.heap.objs.size := by
  obtain ⟨d, r⟩ := R
  obtain ⟨o, ho⟩ := (r.own a g e).2.get
  exact lt_of_get ho
theorem Repr.fresh (R : Repr prog w AT B os₀ U s) : U s.heap.objs.size = none := by
  cases q : U s.heap.objs.size with
  | none => rfl
  | some g => exact absurd (R.lt q) (Nat.lt_irrefl _)
theorem Repr.freshB (R : Repr prog w AT B os₀ U s) {a : Addr} (ha : s.heap.objs.size ≤ a) : B.get? a = none := by
  cases q : B.get? a with
  | none => rfl
  | some o => exact absurd (lt_of_get (R.keep _ _ q)) (Nat.not_lt.mpr ha)
theorem Repr.ext (R : Repr prog w AT B os₀ U s) {a : Addr} {g g' : GO} {h' : Heap} {tk : Nat} {dr : Drawn} (e : U a = some g) (_hi : g.isInst = false) (hi' : g'.isInst = false) (hx : Heap.ExtBut a s.heap h')
    (ho : ∀ d, Own prog w AT s.heap d a g → Own prog w AT h' d a g') : Repr prog w AT B os₀ (U.set a g') ⟨h', s.gens, dr, tk, s.os⟩ := by
  obtain ⟨d, k, o, i, gn, os⟩ := R
  have hB : ∀ b, B.get? b = none ∨ b ≠ a := fun b => by
    by_cases hb : b = a
    · left; wide_open with hb; exact (o a g e).1
    · exact .inr hb
  refine ⟨d, fun b ob eb => ?_, fun b gb eb => ?_, fun b C fs eb => ?_, gn, os⟩
  · rcases hB b with h1 | h1
    · wide_line with h1 using eb
    · exact hx b ob h1 (k _ _ eb)
  · by_cases hb : b = a
    · subst hb
      wide_line with GH.set_self using eb
      exact ⟨(o b g e).1, ho d (o b g e).2⟩
    · rw [GH.set_ne _ _ hb] at eb
      refine ⟨(o b gb eb).1, (o b gb eb).2.move _ _ _ (fun ob h1 => hx b ob hb h1) (fun z9 => rfl) fun hg ob h1 => hx _ ob ?_ h1⟩
      intro q
      cases gb with
      | inst C fs => have := (i b C fs eb).2.1; rw [q, e] at this; wide_open using this
      | _ => wide_open using hg
  · have hb : b ≠ a := by
      rintro rfl
      wide_line with GH.set_self using eb; wide_open using hi'
    rw [GH.set_ne _ _ hb] at eb
    refine o_AA (i b C fs eb) fun i1 i2 i3 => ?_
    have hda : d b ≠ a := by intro q; rw [q, e] at i2; wide_open using i2
    refine (i_AA i1 (by wide_open with GH.set_ne _ _ hda; exact i2) (fun c C' fs' ec hc => ?_))
    have hc' : c ≠ a := by
      rintro rfl
      wide_line with GH.set_self using ec; wide_open using hi'
    rw [GH.set_ne _ _ hc'] at ec
    exact i3 c C' fs' ec hc
theorem Repr.push (R : Repr prog w AT B os₀ U s) (o : Obj) (hf : o.isFreed = false) {tk : Nat} {dr : Drawn} : Repr prog w AT B os₀ (U.set s.heap.objs.size (.raw o)) ⟨s.heap.push o, s.gens, dr, tk, s.os⟩ := by
  have fr := R.fresh
  have frB := R.freshB (Nat.le_refl _)
  have lt := fun {a g} (e : U a = some g) => R.lt e
  obtain ⟨d, k, ow, i, gn, os⟩ := R
  have kk : ∀ b ob, s.heap.get? b = some ob → (s.heap.push o).get? b = some ob := fun b ob e => Heap.get?_push_of_some _ e
  refine ⟨d, fun b ob eb => kk _ _ (k _ _ eb), fun b gb eb => ?_, fun b C fs eb => ?_, gn, os⟩
  · by_cases hb : b = s.heap.objs.size
    · subst hb
      wide_line with GH.set_self using eb
      exact ⟨frB, Heap.get?_push_size _ hf⟩
    · rw [GH.set_ne _ _ hb] at eb
      exact ⟨(ow b gb eb).1, (ow b gb eb).2.move _ _ _ (kk b) (fun z9 => rfl) fun z9 => kk _⟩
  · have hb : b ≠ s.heap.objs.size := by rintro rfl; wide_line with GH.set_self using eb
    rw [GH.set_ne _ _ hb] at eb
    refine o_AA (i b C fs eb) fun i1 i2 i3 => ?_
    have hd : d b ≠ s.heap.objs.size := by
      refine o_AAEA ((ow b _ eb).2) fun z9 z9 m n94 z9 => ?_; obtain ⟨od, _, _, ed, _⟩ := n94
      exact Nat.ne_of_lt (lt_of_get ed)
    refine (i_AA i1 (by wide_open with GH.set_ne _ _ hd; exact i2) (fun c C' fs' ec hc => ?_))
    have hc' : c ≠ s.heap.objs.size := by rintro rfl; wide_line with GH.set_self using ec
    rw [GH.set_ne _ _ hc'] at ec
    exact i3 c C' fs' ec hc
theorem Repr.pushInst (R : Repr prog w AT B os₀ U s) (C : Addr) {tk : Nat} {dr : Drawn} : Repr prog w AT B os₀ (U.set (s.heap.objs.size + 1) (.inst C [])) ⟨(s.heap.push emptyDict).push (instObj C s.heap.objs.size), s.gens, dr, tk, s.os⟩ := by
  have fr := R.fresh
  have frB := R.freshB (Nat.le_refl _)
  have frB1 := R.freshB (Nat.le_succ _)
  have lt := fun {a g} (e : U a = some g) => R.lt e
  obtain ⟨d, k, ow, i, gn, os⟩ := R
  have kk : ∀ b ob, s.heap.get? b = some ob → ((s.heap.push emptyDict).push (instObj C s.heap.objs.size)).get? b = some ob := fun b ob e => Heap.get?_push_of_some _ (Heap.get?_push_of_some _ e)
  have hx : ((s.heap.push emptyDict).push (instObj C s.heap.objs.size)).get? (s.heap.objs.size + 1) = some (instObj C s.heap.objs.size) := by
    have := Heap.get?_push_size (s.heap.push emptyDict) (o := instObj C s.heap.objs.size) rfl
    rwa [Heap.size_push] at this
  have hdx : ((s.heap.push emptyDict).push (instObj C s.heap.objs.size)).Ns s.heap.objs.size fun z9 => none := (Heap.Ns.new s.heap (.type "dict")).push _
  refine ⟨fun a => if a = s.heap.objs.size + 1 then s.heap.objs.size else d a, fun b ob eb => kk _ _ (k _ _ eb), fun b gb eb => ?_, fun b C' fs eb => ?_, gn, os⟩
  · by_cases hb : b = s.heap.objs.size + 1
    · subst hb
      wide_line with GH.set_self using eb
      refine (i_AAAEA frB1 ?_ ?_ (fun z9 => none) ?_ (fun x => ?_))
      · simp only [if_true]; exact hx
      · simp only [if_true]
        exact (Heap.DictLe.new s.heap).of_same (Heap.get?_push_size _ rfl) (Heap.get?_push_of_some _ (Heap.get?_push_size _ rfl))
      · simp only [if_true]; exact hdx
      · unfold instMap; cases AT.idxOf? x <;> rfl
    · rw [GH.set_ne _ _ hb] at eb
      exact ⟨(ow b gb eb).1, (ow b gb eb).2.move _ _ _ (kk b) (fun z9 => by simp [hb]) fun z9 => kk _⟩
  · by_cases hb : b = s.heap.objs.size + 1
    · subst hb
      wide_line with GH.set_self using eb
      simp only [if_true]
      refine (i_AA frB (by wide_open with GH.set_ne _ _ (Nat.ne_of_lt (Nat.lt_succ_self _)); exact fr) (fun c C' fs' ec hc => ?_))
      by_cases hc' : c = s.heap.objs.size + 1
      · exact hc'
      · rw [GH.set_ne _ _ hc'] at ec
        simp only [hc', if_false] at hc
        refine o_AAEA ((ow c _ ec).2) fun z9 z9 m n94 z9 => ?_; obtain ⟨od, _, _, ed, _⟩ := n94
        have hq : d c < s.heap.objs.size := lt_of_get ed
        rw [hc] at hq
        exact absurd hq (Nat.lt_irrefl _)
    · rw [GH.set_ne _ _ hb] at eb
      simp only [hb, if_false]
      refine o_AA (i b C' fs eb) fun i1 i2 i3 => ?_
      refine o_AAEA ((ow b _ eb).2) fun z9 z9 m n94 z9 => ?_; obtain ⟨od, _, _, ed, _⟩ := n94
      have hlt : d b < s.heap.objs.size := lt_of_get ed
      refine (i_AA i1 (by wide_open with GH.set_ne _ _ (Nat.ne_of_lt (Nat.lt_succ_of_lt hlt)); exact i2) (fun c C'' fs' ec hc => ?_))
      by_cases hc' : c = s.heap.objs.size + 1
      · subst hc'
        simp only [if_true] at hc
        rw [← hc] at hlt
        exact absurd hlt (Nat.lt_irrefl _)
      · rw [GH.set_ne _ _ hc'] at ec
        simp only [hc', if_false] at hc
        exact i3 c _ fs' ec hc
noncomputable def setF : List (Nat × Value) → Nat → Value → List (Nat × Value)
  | [], i, v => [(i, v)]
  | (j, w) :: r, i, v => if j = i then (i, v) :: r else (j, w) :: setF r i v
theorem setF_lookup (fs : List (Nat × Value)) (i : Nat) (v : Value) (j : Nat) : (setF fs i v).lookup j = if j = i then some v else fs.lookup j := by
  induction fs with
  | nil =>
    simp only [setF, List.lookup]
    by_cases h : j = i
    · subst h; simp
    · have : (j == i) = false := by simpa using h
      simp [this, h]
  | cons p r ih =>
    obtain ⟨k, x⟩ := p
    simp only [setF]
    by_cases hk : k = i
    · subst hk
      simp only [if_true, List.lookup_cons]
      by_cases h : j = k
      · subst h; simp
      · have : (j == k) = false := by simpa using h
        simp [this, h]
    · simp only [hk, if_false, List.lookup_cons, ih]
      by_cases h : j = i
      · subst h
        have : (j == k) = false := by simpa using Ne.symm hk
        simp [this]
      · simp [h]
theorem setF_length (fs : List (Nat × Value)) (i : Nat) (v : Value) : (setF fs i v).length = if (fs.lookup i).isSome then fs.length else fs.length + 1 := by
  induction fs with
  | nil => rfl
  | cons p r ih =>
    obtain ⟨k, x⟩ := p
    simp only [setF, List.lookup_cons]
    by_cases hk : k = i
    · subst hk; simp
    · have : (i == k) = false := by simpa using Ne.symm hk
      simp only [hk, if_false, this, List.length_cons, ih]
      split <;> rfl
theorem wpAny_nsSet_sz {M : Model} {A : Around} {E : Value → Shared → Prop} {s : Shared} {a : Addr} {m : Str → Option Value} {name : Str} {v : Value} {k : Nat} {Q : Unit → Shared → Prop} (hn : s.heap.Ns a m) (hz : s.heap.DictLe a k)
    (h : ∀ h', h'.Ns a (fun x => if x = name then some v else m x) → h'.DictLe a (if (m name).isSome then k else k + 1) → Heap.SameBut a s.heap h' → Q () { s with heap := h', toks := s.toks + 1 }) :
    wpAny M A (nsSet a name v) Q E s := by
  have hn0 := hn
  refine o_EEEAAA hn fun o es ep ho hd hk hm => ?_; try clear hn
  have hsz := hz o es ep ho hd
  unfold nsSet
  refine wpAny_bind (wpAny_bind (wpAny_askSetting (wpAny_pure (wpAny_bind (wpAny_mkText (wpAny_bind (wpAny_loadPart ho ?_)))))))
  have hany : es.any (·.refKey) = false := by
    wide_open with Array.any_eq_false'; intro e he; refine o_EE (hk e he) fun n t h => ?_; simp [DictEntry.refKey, h]
  simp only [hd, aRefKeyMayBeTheName_eq, aRefKeyMayBeTheNameByArray, hany, Bool.and_false, Bool.false_eq_true, if_false]
  refine wpAny_updatePart ho (h _ ?_ ?_ (Heap.SameBut.update ..))
  · obtain ⟨c, d, dt, sl⟩ := o
    subst hd
    cases hi : es.findIdx? (·.key.isStr name) with
    | some i =>
      refine (i_EEEAAA _ _ ep (Heap.get?_update_self _ ho (by simp only [Obj.putName_eq, Obj.putNameByArray, hi]; rfl)) (by simp only [Obj.putName_eq, Obj.putNameByArray, hi]; rfl) (hk.modify _ _) (fun x => ?_))
      refine (?_ : _ = if x = name then some v else m x)
      ((first | refine hm ▸ ?_ | rewrite [← hm]); try with_reducible rfl); exact findBy_modify (fun n v => v.isStr n) Value.isStr_inj es name x v i hi
    | none =>
      refine (i_EEEAAA _ _ (ep + 1) (Heap.get?_update_self _ ho (by simp only [Obj.putName_eq, Obj.putNameByArray, hi]; rfl)) (by simp only [Obj.putName_eq, Obj.putNameByArray, hi]; rfl) (hk.push _ _ _ _) (fun x => ?_))
      refine (?_ : _ = if x = name then some v else m x)
      ((first | refine hm ▸ ?_ | rewrite [← hm]); try with_reducible rfl)
      exact findBy_push (fun n v => v.isStr n) es name x _ _ v (fun y => by
        refine (?_ : (name == y) = decide (y = name))
        by_cases h : y = name
        · subst h; simp
        · have : ¬ name = y := fun e => h e.symm
          simp [h, this]) hi
  · obtain ⟨c, d, dt, sl⟩ := o
    subst hd
    intro o' es' ep' ho' hd'
    have hmn : (m name).isSome = (es.findIdx? (·.key.isStr name)).isSome := by
      ((first | refine hm ▸ ?_ | rewrite [← hm]); try with_reducible rfl)
      unfold nsFind
      wide_open with findBy_of_findIdx?
      cases hi : es.findIdx? (fun e => e.key.isStr name) with
      | none => rfl
      | some i =>
        have hlt : i < es.size := (Array.findIdx?_eq_some_iff_getElem.mp hi).1
        simp [hlt]
    cases hi : es.findIdx? (·.key.isStr name) with
    | some i =>
      rw [Heap.get?_update_self _ ho (by simp only [Obj.putName_eq, Obj.putNameByArray, hi]; rfl)] at ho'
      wide_open using ho'
      simp only [Obj.putName_eq, Obj.putNameByArray, hi] at hd'
      wide_open using hd'
      (wide_line using hmn; wide_open with hi)
      simpa using hsz
    | none =>
      rw [Heap.get?_update_self _ ho (by simp only [Obj.putName_eq, Obj.putNameByArray, hi]; rfl)] at ho'
      wide_open using ho'
      simp only [Obj.putName_eq, Obj.putNameByArray, hi] at hd'
      wide_open using hd'
      (wide_line using hmn; wide_open with hi)
      simpa using hsz
theorem idxOf?_inj {l : List Str} {x y : Str} {i : Nat} (hx : l.idxOf? x = some i) (hy : l.idxOf? y = some i) : x = y := by
  have h1 := List.findIdx?_eq_some_iff_getElem.mp hx
  have h2 := List.findIdx?_eq_some_iff_getElem.mp hy
  refine o_EA h1 fun h1a h1b z9 => ?_; try clear h1
  refine o_EA h2 fun h2a h2b z9 => ?_; try clear h2
  have e1 := beq_iff_eq.mp h1b
  have e2 := beq_iff_eq.mp h2b
  ((first | refine e1 ▸ ?_ | rewrite [← e1]); (first | refine e2 ▸ ?_ | rewrite [← e2]); try with_reducible rfl)
theorem instMap_set {AT : Names} {fs : List (Nat × Value)} {x : Str} {i : Nat} (hx : AT.idxOf? x = some i) (v : Value) (y : Str) :
    instMap AT (setF fs i v) y = if y = x then some v else instMap AT fs y := by
  unfold instMap
  by_cases h : y = x
  · subst h; wide_open with hx; simp [setF_lookup]
  · simp only [h, if_false]
    cases q : AT.idxOf? y with
    | none => rfl
    | some j =>
      have : j ≠ i := by rintro rfl; exact h (idxOf?_inj q hx)
      simp [setF_lookup, this]
theorem Repr.setA (R : Repr prog w AT B os₀ U s) {a C : Addr} {fs : List (Nat × Value)} (e : U a = some (.inst C fs)) :
    ∃ dx m, s.heap.get? a = some (instObj C dx) ∧ s.heap.Ns dx m ∧ s.heap.DictLe dx fs.length ∧ (∀ x, (m x).map er = instMap AT fs x) ∧ B.get? dx = none ∧
    ∀ x i v h' tk dr, AT.idxOf? x = some i → h'.Ns dx (fun y => if y = x then some v else m y) → h'.DictLe dx (setF fs i (er v)).length → Heap.SameBut dx s.heap h' → Repr prog w AT B os₀ (U.set a (.inst C (setF fs i (er v)))) ⟨h', s.gens, dr, tk, s.os⟩ := by
  obtain ⟨d, k, o, i, gn, os⟩ := R
  refine o_AAEA ((o a _ e).2) fun h1 hz m h2 h3 => ?_
  have i0 := i a C fs e
  refine (i_EEAAAAA (d a) m h1 h2 hz h3 i0.1 (fun x j v h' tk dr hx hn hz' hs => ?_))
  have ne : ∀ {b g}, U b = some g → b ≠ d a := fun {b g} eb q => by rw [q, i0.2.1] at eb; wide_open using eb
  have kB : ∀ b ob, B.get? b = some ob → h'.get? b = some ob := fun b ob eb => by
    have hb : b ≠ d a := by intro q; rw [q, i0.1] at eb; wide_open using eb
    wide_open with hs.2 b hb; exact k _ _ eb
  refine ⟨d, kB, fun b gb eb => ?_, fun b C' fs' eb => ?_, gn, os⟩
  · by_cases hb : b = a
    · subst hb
      wide_line with GH.set_self using eb
      refine (i_AAAEA ((o b _ e).1) (by wide_open with hs.2 b (ne e); exact h1) hz' _ hn (fun y => ?_))
      wide_open with instMap_set hx
      split
      · rfl
      · exact h3 y
    · rw [GH.set_ne _ _ hb] at eb
      refine ⟨(o b gb eb).1, (o b gb eb).2.move _ _ _ (fun ob h4 => by wide_open with hs.2 b (ne eb); exact h4) (fun z9 => rfl) fun hg ob h4 => ?_⟩
      cases gb with
      | inst C' fs' =>
        have : d b ≠ d a := fun q => hb (i0.2.2 b C' fs' eb q)
        wide_open with hs.2 _ this; exact h4
      | _ => wide_open using hg
  · have hda : ∀ {c : Addr}, U c = none → c ≠ a := fun {c} hc q => by rw [q, e] at hc; wide_open using hc
    have at' : ∀ {b C' fs'}, (U.set a (.inst C (setF fs j (er v)))) b = some (.inst C' fs') → ∃ C'' fs'', U b = some (.inst C'' fs'') := fun {b C' fs'} eb => by
      by_cases hb : b = a
      · subst hb; exact (i_EE _ _ e)
      · rw [GH.set_ne _ _ hb] at eb; exact (i_EE _ _ eb)
    refine o_EE (at' eb) fun C1 f1 e1 => ?_
    refine o_AA (i b C1 f1 e1) fun i1 i2 i3 => ?_
    refine (i_AA i1 (by wide_open with GH.set_ne _ _ (hda i2); exact i2) (fun c C' fs' ec hc => ?_))
    refine o_EE (at' ec) fun C2 f2 e2 => ?_
    exact i3 c _ _ e2 hc
end
end Mine
end
set_option genInjectivity false
section
open PySem PySem.W PySem.Calls PyProof.Rows
namespace Mine
inductive CP where
  | loc (i : Nat)
  | cel (i : Nat)
  deriving DecidableEq
inductive CT where
  | one (p : CP)
  | many (ps : List CP)
mutual
inductive CE where
  | val (v : Value)
  | var (p : CP)
  | bin (op : Operator) (a b : CE)
  | neg (a : CE)
  | ofB (b : CB)
  | and (a b : CE)
  | or (a b : CE)
  | ite (t : CB) (a b : CE)
  | call (f : CE) (as : List CE)
  | meth (o : CE) (i : Nat) (as : List CE)
  | attr (o : CE) (i : Nat)
  | sub (o i : CE)
  | slice (o l u s : CE)
  | list (es : List CE)
  | tup (es : List CE)
  | dict (ks : List Int) (vs : List CE)
  | comp (elt : CE) (t : CT) (it : CE) (cond : CB) (nl : Nat) (caps : List Nat)
  | compC (elt : CE) (t : CT) (it : CE) (cond : CB) (nl nc : Nat) (caps : List Nat)
inductive CB where
  | tr (e : CE)
  | tt
  | not (b : CB)
  | and (a b : CB)
  | or (a b : CB)
  | ite (t a b : CB)
  | cmp (op : CmpOp) (a b : CE)
  | cmp2 (o1 o2 : CmpOp) (a b c : CE)
end
inductive CS where
  | expr (e : CE)
  | ret (e : CE)
  | set (t : CT) (e : CE)
  | seta (o : CE) (i : Nat) (e : CE)
  | seti (o i e : CE)
  | ite (t : CB) (a b : List CS)
  | while (t : CB) (b : List CS)
  | for (t : CT) (it : CE) (b : List CS)
  | cont
  | fdef (p : CP) (st : Stmt)
inductive Fl where
  | next | cont | ret (v : Value)
structure ClsSpec where
  init : Addr
  attrs : List Nat
  meths : List (Nat × Addr)
noncomputable abbrev Mm := List (Option Value)
noncomputable abbrev KV := Value → GH → Prop
structure Wd where
  prog : Program
  w : World
  AT : Names
  B : Heap
  os : OsState
  K : Frag
  cls : List (Addr × ClsSpec)
  fns : List Addr
  globs : List (Str × Value)
noncomputable abbrev Wd.R (W : Wd) (U : GH) (s : Shared) : Prop := Repr W.prog W.w W.AT W.B W.os U s
noncomputable abbrev Wd.M (W : Wd) : Model := model W.prog W.w
noncomputable def Room (A : Around) (n : Nat) : Prop := A.handled = none ∧ A.depth + 3 * n < recursionLimit ∧ A.units + 16 * n < 9700
noncomputable def Tr (W : Wd) (A : Around) {α : Type} (t : Sem α) (P : GH → Prop) (G : GH) (Q : α → GH → Prop) : Prop :=
  ∀ H s, P H → Disj H G → W.R (H.un G) s → wpAny W.M A t (fun v s' => ∃ G', Disj H G' ∧ W.R (H.un G') s' ∧ Q v G') (fun z9 z9 => False) s
noncomputable def CallT (W : Wd) (n : Nat) (f : Value) (args : List Value) (G : GH) (K : KV) : Prop :=
  ∀ A fv vs, Room A n → er fv = f → vs.map er = args → Tr W A (call fv vs) (fun z9 => True) G fun v G' => K (er v) G'
noncomputable def Sub (G' G : GH) : Prop := ∀ a g, G' a = some g → G a = some g
noncomputable def small (n : Nat) : Prop := n ≤ 4000000
noncomputable def binG (W : Wd) (n : Nat) (op : Operator) (a b : Value) (G : GH) (K : KV) : Prop :=
  ∀ A va vb, Room A n → er va = a → er vb = b → Tr W A (binaryOp op va vb) (fun z9 => True) G fun v G' => K (er v) G'
noncomputable def cmpG (W : Wd) (n : Nat) (op : CmpOp) (a b : Value) (G : GH) (K : Bool → GH → Prop) : Prop :=
  ∀ A va vb, Room A n → er va = a → er vb = b → Tr W A (compareOp op va vb) (fun z9 => True) G fun v G' => ∃ b, v = .bool b ∧ K b G'
noncomputable def truthG (a : Value) (G : GH) (K : Bool → GH → Prop) : Prop := match a with
  | .bool b => K b G
  | .int i _ => K (i != 0) G
  | .none => K false G
  | _ => False
noncomputable def negG (a : Value) (G : GH) (K : KV) : Prop := match a with
  | .int i _ => K (.int (-i) 0) G
  | _ => False
noncomputable def pickI (xs : List Value) (i : Int) : Option Value := if 0 ≤ i then xs[i.toNat]? else if -(xs.length : Int) ≤ i then xs[(i + xs.length).toNat]? else none
noncomputable def subG (o i : Value) (G : GH) (K : KV) : Prop := match o, i with
  | .ref a, .int k _ => match G a with
    | some (.list xs) => ∃ v, pickI xs k = some v ∧ K v G
    | some (.tup xs) => ∃ v, pickI xs k = some v ∧ K v G
    | some (.dict es _) => ∃ v, es.lookup k = some v ∧ K v G
    | _ => False
  | _, _ => False
noncomputable def sliceG (W : Wd) (n : Nat) (o l u s : Value) (G : GH) (K : KV) : Prop :=
  ∀ A vo vl vu vs sl value slice, Room A n → er vo = o → er vl = l → er vu = u → er vs = s → (∃ ops, subscripted slice false vo (.ref sl) = operate ops (getItem vo (.ref sl))) →
    Tr W A (subscriptTail value slice vo (.ref sl)) (fun H => H sl = some (.raw { cls := .type "slice", data := .fields #[vl, vu, vs] })) G fun v G' => K (er v) G'
noncomputable def newG (o : GO) (G : GH) (K : KV) : Prop := ∀ a, G a = none → K (.ref a) (G.set a o)
noncomputable def isBlt : Value → Bool
  | .builtin _ => true
  | _ => false
noncomputable def attrG (W : Wd) (o : Value) (i : Nat) (G : GH) (K : KV) : Prop := match o with
  | .ref a => match G a with
    | some (.inst C fs) => ∃ sp v, W.cls.lookup C = some sp ∧ sp.attrs.contains i = true ∧ fs.lookup i = some v ∧ isBlt v = false ∧ K v G
    | _ => False
  | _ => False
noncomputable def setaG (W : Wd) (o : Value) (i : Nat) (v : Value) (G : GH) (K : GH → Prop) : Prop := match o with
  | .ref a => match G a with
    | some (.inst C fs) => ∃ sp, W.cls.lookup C = some sp ∧ sp.attrs.contains i = true ∧ fs.length ≤ 500 ∧ K (G.set a (.inst C (setF fs i v)))
    | _ => False
  | _ => False
noncomputable def methG (W : Wd) (o : Value) (i : Nat) (G : GH) : Option Value := match o with
  | .ref a => match G a with
    | some (.inst C fs) => match W.cls.lookup C with
      | some sp => if (fs.lookup i).isNone then (sp.meths.lookup i).map Value.ref else none
      | none => none
    | some (.list _) => (match W.AT[i]? with
      | some x => if x == Str.ofString "append" then some (.builtin "list.append") else if x == Str.ofString "pop" then some (.builtin "list.pop") else none
      | none => none)
    | some (.dict _ _) => (match W.AT[i]? with
      | some x => if x == Str.ofString "get" then some (.builtin "dict.get") else none
      | none => none)
    | _ => none
  | _ => none
noncomputable def keepG (W : Wd) (f : Value) (G : GH) : Prop := match f with
  | .builtin _ => True
  | .type _ => True
  | .ref a => W.fns.contains a = true ∨ ∃ o fd, G a = some (.raw o) ∧ o.data = .func fd
  | _ => False
noncomputable def setIdx (xs : List Value) (i : Int) (v : Value) : Option (List Value) := if 0 ≤ i ∧ i < xs.length then some (xs.set i.toNat v) else none
noncomputable def put (es : List (Int × Value)) (k : Int) (v : Value) : List (Int × Value) :=
  if es.any (fun kv => kv.1 = k) then es.map (fun kv => if kv.1 = k then (kv.1, v) else kv) else es ++ [(k, v)]
noncomputable def setiG (o i v : Value) (G : GH) (K : GH → Prop) : Prop := match o, i with
  | .ref a, .int k _ => match G a with
    | some (.list xs) => ∃ ys, setIdx xs k v = some ys ∧ K (G.set a (.list ys))
    | some (.dict es _) => small es.length ∧ ∀ ep, K (G.set a (.dict (put es k v) ep))
    | _ => False
  | _, _ => False
noncomputable def iterG (it : Value) (G : GH) (K : List Value → (GH → Prop) → Prop) : Prop := match it with
  | .ref a => match G a with
    | some (.list xs) => K xs fun G' => G' a = some (.list xs)
    | some (.tup xs) => K xs fun G' => G' a = some (.tup xs)
    | some (.dict es ep) => K (es.map fun p => .int p.1 0) fun G' => G' a = some (.dict es ep)
    | some (.range lo hi) => -4000000 ≤ lo ∧ hi ≤ 4000000 ∧ (lo ≤ 4000000 ∧ -4000000 ≤ hi) ∧ K ((List.range (hi - lo).toNat).map fun (j : Nat) => Value.int (lo + Int.ofNat j) 0) fun z9 => True
    | _ => False
  | _ => False
noncomputable def itemsG (v : Value) (G : GH) : Option (List Value) := match v with
  | .ref a => match G a with
    | some (.tup xs) => some xs
    | some (.list xs) => some xs
    | _ => none
  | _ => none
noncomputable def getP (cs : List Addr) (m : Mm) (p : CP) (G : GH) : Option Value := match p with
  | .loc i => (m[i]?).join
  | .cel i => match cs[i]? with
    | some c => (match G c with
      | some (.cell v) => v
      | _ => none)
    | none => none
noncomputable def optG {α : Type} (o : Option α) (K : α → Prop) : Prop := match o with
  | some v => K v
  | none => False
theorem truthG_b {b : Bool} {G : GH} {K : Bool → GH → Prop} : truthG (.bool b) G K = K b G := rfl
theorem truthG_i {i : Int} {t : Nat} {G : GH} {K : Bool → GH → Prop} : truthG (.int i t) G K = K (i != 0) G := rfl
theorem optG_some {α : Type} {v : α} {K : α → Prop} : optG (some v) K = K v := rfl
theorem optG.ex {α : Type} {o : Option α} {K : α → Prop} (h : optG o K) : ∃ v, o = some v ∧ K v := by
  cases o with
  | none => exact h.elim
  | some v => exact (i_EA v rfl h)
theorem opt_ok {α : Type} {o : Option α} {v : α} {K : α → Prop} (e : o = some v) (h : K v) : optG o K := by wide_open with e; exact h
noncomputable def setP (cs : List Addr) (p : CP) (v : Value) (m : Mm) (G : GH) (K : Mm → GH → Prop) : Prop := match p with
  | .loc i => optG m[i]? fun z9 => K (m.set i (some v)) G
  | .cel i => ∃ c x, cs[i]? = some c ∧ G c = some (.cell x) ∧ K m (G.set c (.cell (some v)))
noncomputable def setPs (cs : List Addr) : List CP → List Value → Mm → GH → (Mm → GH → Prop) → Prop
  | [], [], m, G, K => K m G
  | p :: ps, v :: vs, m, G, K => setP cs p v m G fun m' G' => setPs cs ps vs m' G' K
  | _, _, _, _, _ => False
noncomputable def setT (cs : List Addr) (t : CT) (v : Value) (m : Mm) (G : GH) (K : Mm → GH → Prop) : Prop := match t with
  | .one p => setP cs p v m G K
  | .many ps => ∃ vs, itemsG v G = some vs ∧ vs.length = ps.length ∧ setPs cs ps vs m G K
noncomputable def compG (chk : GH → Prop) (el : Value → GH → (Option Value → GH → Prop) → Prop) : List Value → List Value → GH → KV → Prop
  | [], acc, G, K => chk G ∧ newG (.list acc) G K
  | x :: xs, acc, G, K => chk G ∧ el x G fun o G' => compG chk el xs (acc ++ o.toList) G' K
noncomputable def forG (chk : GH → Prop) (bd : Value → Mm → GH → (Fl → Mm → GH → Prop) → Prop) : List Value → Mm → GH → (Fl → Mm → GH → Prop) → Prop
  | [], m, G, K => chk G ∧ K .next m G
  | x :: xs, m, G, K => chk G ∧ bd x m G fun fl m' G' => match fl with
    | .ret v => K (.ret v) m' G'
    | _ => forG chk bd xs m' G' K
noncomputable def whileG (ts : Mm → GH → (Bool → GH → Prop) → Prop) (bd : Mm → GH → (Fl → Mm → GH → Prop) → Prop) (m : Mm) (G : GH) (K : Fl → Mm → GH → Prop) : Prop :=
  ∃ (I : Nat → Mm → GH → Prop) (k : Nat), I k m G ∧ ∀ k m G, I k m G → ts m G fun b G1 => match b with
    | true => bd m G1 fun fl m2 G2 => (match fl with
      | .ret v => K (.ret v) m2 G2
      | _ => ∃ j, j < k ∧ I j m2 G2)
    | false => K .next m G1
noncomputable def cellsG (G : GH) : List Addr → GH
  | [] => G
  | c :: cs => (cellsG G cs).set c (.cell none)
mutual
noncomputable def wpE (W : Wd) (n : Nat) (cs : List Addr) (m : Mm) : CE → GH → KV → Prop
  | .val v, G, K => K v G
  | .var p, G, K => optG (getP cs m p G) fun v => K v G
  | .bin op a b, G, K => wpE W n cs m a G fun x G1 => wpE W n cs m b G1 fun y G2 => binG W n op x y G2 K
  | .neg a, G, K => wpE W n cs m a G fun x G1 => negG x G1 K
  | .ofB b, G, K => wpB W n cs m b G fun x G1 => K (.bool x) G1
  | .and a b, G, K => wpE W n cs m a G fun x G1 => truthG x G1 fun t G2 => match t with
    | true => wpE W n cs m b G2 K
    | false => K x G2
  | .or a b, G, K => wpE W n cs m a G fun x G1 => truthG x G1 fun t G2 => match t with
    | true => K x G2
    | false => wpE W n cs m b G2 K
  | .ite t a b, G, K => wpB W n cs m t G fun x G1 => match x with
    | true => wpE W n cs m a G1 K
    | false => wpE W n cs m b G1 K
  | .call f as, G, K => wpE W n cs m f G fun fv G1 => wpEs W n cs m as G1 fun vs G2 => keepG W fv G2 ∧ CallT W n fv vs G2 K
  | .meth o i as, G, K => wpE W n cs m o G fun ov G1 => ∃ fv, methG W ov i G1 = some fv ∧ wpEs W n cs m as G1 fun vs G2 => keepG W fv G2 ∧ CallT W n fv (ov :: vs) G2 K
  | .attr o i, G, K => wpE W n cs m o G fun ov G1 => attrG W ov i G1 K
  | .sub o i, G, K => wpE W n cs m o G fun ov G1 => wpE W n cs m i G1 fun iv G2 => subG ov iv G2 K
  | .slice o l u s, G, K => wpE W n cs m o G fun ov G1 => wpE W n cs m l G1 fun lv G2 => wpE W n cs m u G2 fun uv G3 => wpE W n cs m s G3 fun sv G4 => sliceG W n ov lv uv sv G4 K
  | .list es, G, K => wpEs W n cs m es G fun vs G1 => newG (.list vs) G1 K
  | .tup es, G, K => wpEs W n cs m es G fun vs G1 => newG (.tup vs) G1 K
  | .dict ks es, G, K => wpEs W n cs m es G fun vs G1 => ∀ ep, newG (.dict ((ks.zip vs).foldl (fun l p => put l p.1 p.2) []) ep) G1 K
  | .comp elt t it cond nl caps, G, K => wpE W n cs m it G fun iv G1 => iterG iv G1 fun xs chk =>
      small xs.length ∧ compG chk (fun x G2 k => setT (caps.filterMap fun j => cs[j]?) t x (List.replicate nl none) G2 fun m' G3 =>
        wpB W n (caps.filterMap fun j => cs[j]?) m' cond G3 fun c G4 => match c with
          | true => wpE W n (caps.filterMap fun j => cs[j]?) m' elt G4 fun v G5 => k (some v) G5
          | false => k none G4) xs [] G1 K
  | .compC elt t it cond nl nc caps, G, K => wpE W n cs m it G fun iv G1 => iterG iv G1 fun xs chk =>
      small xs.length ∧ ∀ new : List Addr, new.length = nc → new.Nodup → (∀ c ∈ new, G1 c = none) → compG chk (fun x G2 k => setT (new ++ caps.filterMap fun j => cs[j]?) t x (List.replicate nl none) G2 fun m' G3 =>
        wpB W n (new ++ caps.filterMap fun j => cs[j]?) m' cond G3 fun c G4 => match c with
          | true => wpE W n (new ++ caps.filterMap fun j => cs[j]?) m' elt G4 fun v G5 => k (some v) G5
          | false => k none G4) xs [] (cellsG G1 new) K
noncomputable def wpEs (W : Wd) (n : Nat) (cs : List Addr) (m : Mm) : List CE → GH → (List Value → GH → Prop) → Prop
  | [], G, K => K [] G
  | e :: es, G, K => wpE W n cs m e G fun v G1 => wpEs W n cs m es G1 fun vs G2 => K (v :: vs) G2
noncomputable def wpB (W : Wd) (n : Nat) (cs : List Addr) (m : Mm) : CB → GH → (Bool → GH → Prop) → Prop
  | .tr e, G, K => wpE W n cs m e G fun v G1 => truthG v G1 K
  | .tt, G, K => K true G
  | .not b, G, K => wpB W n cs m b G fun x G1 => K (!x) G1
  | .and a b, G, K => wpB W n cs m a G fun x G1 => match x with
    | true => wpB W n cs m b G1 K
    | false => K false G1
  | .or a b, G, K => wpB W n cs m a G fun x G1 => match x with
    | true => K true G1
    | false => wpB W n cs m b G1 K
  | .ite t a b, G, K => wpB W n cs m t G fun x G1 => match x with
    | true => wpB W n cs m a G1 K
    | false => wpB W n cs m b G1 K
  | .cmp op a b, G, K => wpE W n cs m a G fun x G1 => wpE W n cs m b G1 fun y G2 => cmpG W n op x y G2 K
  | .cmp2 o1 o2 a b c, G, K => wpE W n cs m a G fun x G1 => wpE W n cs m b G1 fun y G2 => cmpG W n o1 x y G2 fun t G3 => match t with
    | true => wpE W n cs m c G3 fun z G4 => cmpG W n o2 y z G4 K
    | false => K false G3
end
section
variable {W : Wd} {n : Nat} {cs : List Addr} {m : Mm} {G : GH} {K : KV} {KB : Bool → GH → Prop} {KL : List Value → GH → Prop} {op o2 : Operator} {c1 c2 : CmpOp} {a b c o f : CE} {t u v : CB} {i : Nat} {as : List CE}
theorem wE_val {v : Value} : wpE W n cs m (.val v) G K = K v G := rfl
theorem wE_var {p : CP} : wpE W n cs m (.var p) G K = optG (getP cs m p G) fun v => K v G := rfl
theorem wE_bin : wpE W n cs m (.bin op a b) G K = wpE W n cs m a G fun x G1 => wpE W n cs m b G1 fun y G2 => binG W n op x y G2 K := rfl
theorem wE_neg : wpE W n cs m (.neg a) G K = wpE W n cs m a G fun x G1 => negG x G1 K := rfl
theorem wE_ofB : wpE W n cs m (.ofB t) G K = wpB W n cs m t G fun x G1 => K (.bool x) G1 := rfl
theorem wE_and : wpE W n cs m (.and a b) G K = wpE W n cs m a G fun x G1 => truthG x G1 fun t G2 => match t with
    | true => wpE W n cs m b G2 K
    | false => K x G2 := rfl
theorem wE_or : wpE W n cs m (.or a b) G K = wpE W n cs m a G fun x G1 => truthG x G1 fun t G2 => match t with
    | true => K x G2
    | false => wpE W n cs m b G2 K := rfl
theorem wE_ite : wpE W n cs m (.ite t a b) G K = wpB W n cs m t G fun x G1 => match x with
    | true => wpE W n cs m a G1 K
    | false => wpE W n cs m b G1 K := rfl
theorem wE_call : wpE W n cs m (.call f as) G K = wpE W n cs m f G fun fv G1 => wpEs W n cs m as G1 fun vs G2 => keepG W fv G2 ∧ CallT W n fv vs G2 K := rfl
theorem wE_meth : wpE W n cs m (.meth o i as) G K = wpE W n cs m o G fun ov G1 => ∃ fv, methG W ov i G1 = some fv ∧ wpEs W n cs m as G1 fun vs G2 => keepG W fv G2 ∧ CallT W n fv (ov :: vs) G2 K := rfl
theorem wE_attr : wpE W n cs m (.attr o i) G K = wpE W n cs m o G fun ov G1 => attrG W ov i G1 K := rfl
theorem wE_sub : wpE W n cs m (.sub o a) G K = wpE W n cs m o G fun ov G1 => wpE W n cs m a G1 fun iv G2 => subG ov iv G2 K := rfl
theorem wE_slice : wpE W n cs m (.slice o a b c) G K = wpE W n cs m o G fun ov G1 => wpE W n cs m a G1 fun lv G2 => wpE W n cs m b G2 fun uv G3 => wpE W n cs m c G3 fun sv G4 => sliceG W n ov lv uv sv G4 K := rfl
theorem wE_list : wpE W n cs m (.list as) G K = wpEs W n cs m as G fun vs G1 => newG (.list vs) G1 K := rfl
theorem wE_tup : wpE W n cs m (.tup as) G K = wpEs W n cs m as G fun vs G1 => newG (.tup vs) G1 K := rfl
theorem wE_dict {ks : List Int} : wpE W n cs m (.dict ks as) G K = wpEs W n cs m as G fun vs G1 => ∀ ep, newG (.dict ((ks.zip vs).foldl (fun l p => put l p.1 p.2) []) ep) G1 K := rfl
theorem wE_comp {p : CT} {nl : Nat} {caps : List Nat} : wpE W n cs m (.comp a p b t nl caps) G K = wpE W n cs m b G fun iv G1 => iterG iv G1 fun xs chk =>
      small xs.length ∧ compG chk (fun x G2 k => setT (caps.filterMap fun j => cs[j]?) p x (List.replicate nl none) G2 fun m' G3 =>
        wpB W n (caps.filterMap fun j => cs[j]?) m' t G3 fun c G4 => match c with
          | true => wpE W n (caps.filterMap fun j => cs[j]?) m' a G4 fun v G5 => k (some v) G5
          | false => k none G4) xs [] G1 K := rfl
theorem wE_compC {p : CT} {nl nc : Nat} {caps : List Nat} : wpE W n cs m (.compC a p b t nl nc caps) G K = wpE W n cs m b G fun iv G1 => iterG iv G1 fun xs chk =>
      small xs.length ∧ ∀ new : List Addr, new.length = nc → new.Nodup → (∀ c ∈ new, G1 c = none) → compG chk (fun x G2 k => setT (new ++ caps.filterMap fun j => cs[j]?) p x (List.replicate nl none) G2 fun m' G3 =>
        wpB W n (new ++ caps.filterMap fun j => cs[j]?) m' t G3 fun c G4 => match c with
          | true => wpE W n (new ++ caps.filterMap fun j => cs[j]?) m' a G4 fun v G5 => k (some v) G5
          | false => k none G4) xs [] (cellsG G1 new) K := rfl
theorem wEs_nil : wpEs W n cs m [] G KL = KL [] G := rfl
theorem wEs_cons : wpEs W n cs m (a :: as) G KL = wpE W n cs m a G fun v G1 => wpEs W n cs m as G1 fun vs G2 => KL (v :: vs) G2 := rfl
theorem wB_tr : wpB W n cs m (.tr a) G KB = wpE W n cs m a G fun v G1 => truthG v G1 KB := rfl
theorem wB_tt : wpB W n cs m .tt G KB = KB true G := rfl
theorem wB_not : wpB W n cs m (.not t) G KB = wpB W n cs m t G fun x G1 => KB (!x) G1 := rfl
theorem wB_and : wpB W n cs m (.and t u) G KB = wpB W n cs m t G fun x G1 => match x with
    | true => wpB W n cs m u G1 KB
    | false => KB false G1 := rfl
theorem wB_or : wpB W n cs m (.or t u) G KB = wpB W n cs m t G fun x G1 => match x with
    | true => KB true G1
    | false => wpB W n cs m u G1 KB := rfl
theorem wB_ite : wpB W n cs m (.ite t u v) G KB = wpB W n cs m t G fun x G1 => match x with
    | true => wpB W n cs m u G1 KB
    | false => wpB W n cs m v G1 KB := rfl
theorem wB_cmp : wpB W n cs m (.cmp c1 a b) G KB = wpE W n cs m a G fun x G1 => wpE W n cs m b G1 fun y G2 => cmpG W n c1 x y G2 KB := rfl
theorem wB_cmp2 : wpB W n cs m (.cmp2 c1 c2 a b c) G KB = wpE W n cs m a G fun x G1 => wpE W n cs m b G1 fun y G2 => cmpG W n c1 x y G2 fun t G3 => match t with
    | true => wpE W n cs m c G3 fun z G4 => cmpG W n c2 y z G4 KB
    | false => KB false G3 := rfl
end
noncomputable def FDefT (W : Wd) (n : Nat) (cd : Value) (celn : List Str) (cs : List Addr) (st : Stmt) (G : GH) (K : KV) : Prop := match st with
  | .FunctionDef name args body _ _ _ scope _ bind pos =>
    ∀ A env, Room A n → env.scope.kind = .function → env.globals = mainGlobals → env.builtins = builtinsNs → env.code = cd →
      (∀ x i, celn.idxOf? x = some i → ∃ c, env.cells.lookup x = some c ∧ cs[i]? = some c) →
      Tr W A (makeFunction name (qualnameIn env name bind) args (.stmts body) scope env [] [] [] pos pos.line) (fun z9 => True) G fun f G' => K (er f) G'
  | _ => False
mutual
noncomputable def wpS (W : Wd) (n : Nat) (cd : Value) (celn : List Str) (cs : List Addr) : CS → Mm → GH → (Fl → Mm → GH → Prop) → Prop
  | .expr e, m, G, K => wpE W n cs m e G fun z9 G1 => K .next m G1
  | .ret e, m, G, K => wpE W n cs m e G fun v G1 => K (.ret v) m G1
  | .set t e, m, G, K => wpE W n cs m e G fun v G1 => setT cs t v m G1 fun m' G2 => K .next m' G2
  | .seta o i e, m, G, K => wpE W n cs m e G fun v G1 => wpE W n cs m o G1 fun ov G2 => setaG W ov i v G2 fun G3 => K .next m G3
  | .seti o i e, m, G, K => wpE W n cs m e G fun v G1 => wpE W n cs m o G1 fun ov G2 => wpE W n cs m i G2 fun iv G3 => setiG ov iv v G3 fun G4 => K .next m G4
  | .ite t a b, m, G, K => wpB W n cs m t G fun x G1 => match x with
    | true => wpSs W n cd celn cs a m G1 K
    | false => wpSs W n cd celn cs b m G1 K
  | .while t b, m, G, K => whileG (fun m G k => wpB W n cs m t G k) (fun m G k => wpSs W n cd celn cs b m G k) m G K
  | .for t it b, m, G, K => wpE W n cs m it G fun iv G1 => iterG iv G1 fun xs chk =>
      forG chk (fun x m G k => setT cs t x m G fun m' G' => wpSs W n cd celn cs b m' G' k) xs m G1 K
  | .cont, m, G, K => K .cont m G
  | .fdef p st, m, G, K => FDefT W n cd celn cs st G fun f G1 => setP cs p f m G1 fun m' G2 => K .next m' G2
noncomputable def wpSs (W : Wd) (n : Nat) (cd : Value) (celn : List Str) (cs : List Addr) : List CS → Mm → GH → (Fl → Mm → GH → Prop) → Prop
  | [], m, G, K => K .next m G
  | s :: ss, m, G, K => wpS W n cd celn cs s m G fun fl m' G' => match fl with
    | .next => wpSs W n cd celn cs ss m' G' K
    | .cont => K .cont m' G'
    | .ret v => K (.ret v) m' G'
end
noncomputable def seqK (W : Wd) (n : Nat) (cd : Value) (celn : List Str) (cs : List Addr) (ss : List CS) (K : Fl → Mm → GH → Prop) (fl : Fl) (m : Mm) (G : GH) : Prop := match fl with
  | .next => wpSs W n cd celn cs ss m G K
  | .cont => K .cont m G
  | .ret v => K (.ret v) m G
section
variable {W : Wd} {n : Nat} {cd : Value} {celn : List Str} {cs : List Addr} {s : CS} {ss : List CS} {K : Fl → Mm → GH → Prop} {m : Mm} {G : GH}
theorem nmap_cons {α β : Type} {f : α → β} {a : α} {l : List α} : List.map f (a :: l) = f a :: List.map f l := rfl
theorem bnot_true : (!true) = false := rfl
theorem bnot_false : (!false) = true := rfl
theorem nmap_nil {α β : Type} {f : α → β} : List.map f [] = [] := rfl
theorem ss_cons (h : wpS W n cd celn cs s m G (seqK W n cd celn cs ss K)) : wpSs W n cd celn cs (s :: ss) m G K := h
theorem wS_expr {e : CE} : wpS W n cd celn cs (.expr e) m G K = wpE W n cs m e G fun z9 G1 => K .next m G1 := rfl
theorem wS_ret {e : CE} : wpS W n cd celn cs (.ret e) m G K = wpE W n cs m e G fun v G1 => K (.ret v) m G1 := rfl
theorem wS_set {t : CT} {e : CE} : wpS W n cd celn cs (.set t e) m G K = wpE W n cs m e G fun v G1 => setT cs t v m G1 fun m' G2 => K .next m' G2 := rfl
theorem wS_seta {o e : CE} {i : Nat} : wpS W n cd celn cs (.seta o i e) m G K = wpE W n cs m e G fun v G1 => wpE W n cs m o G1 fun ov G2 => setaG W ov i v G2 fun G3 => K .next m G3 := rfl
theorem wS_seti {o i e : CE} : wpS W n cd celn cs (.seti o i e) m G K = wpE W n cs m e G fun v G1 => wpE W n cs m o G1 fun ov G2 => wpE W n cs m i G2 fun iv G3 => setiG ov iv v G3 fun G4 => K .next m G4 := rfl
theorem wS_ite {t : CB} {a b : List CS} : wpS W n cd celn cs (.ite t a b) m G K = wpB W n cs m t G fun x G1 => match x with
    | true => wpSs W n cd celn cs a m G1 K
    | false => wpSs W n cd celn cs b m G1 K := rfl
theorem wS_while {t : CB} {b : List CS} : wpS W n cd celn cs (.while t b) m G K = whileG (fun m G k => wpB W n cs m t G k) (fun m G k => wpSs W n cd celn cs b m G k) m G K := rfl
theorem wS_for {t : CT} {it : CE} {b : List CS} : wpS W n cd celn cs (.for t it b) m G K = wpE W n cs m it G fun iv G1 => iterG iv G1 fun xs chk =>
      forG chk (fun x m G k => setT cs t x m G fun m' G' => wpSs W n cd celn cs b m' G' k) xs m G1 K := rfl
theorem wS_cont : wpS W n cd celn cs .cont m G K = K .cont m G := rfl
theorem wS_fdef {p : CP} {st : Stmt} : wpS W n cd celn cs (.fdef p st) m G K = FDefT W n cd celn cs st G fun f G1 => setP cs p f m G1 fun m' G2 => K .next m' G2 := rfl
theorem sPs_nil {K : Mm → GH → Prop} : setPs cs [] [] m G K = K m G := rfl
theorem sPs_cons {p : CP} {ps : List CP} {v : Value} {vs : List Value} {K : Mm → GH → Prop} : setPs cs (p :: ps) (v :: vs) m G K = setP cs p v m G fun m' G' => setPs cs ps vs m' G' K := rfl
theorem ss_nil (h : K .next m G) : wpSs W n cd celn cs [] m G K := h
theorem seqK_next : seqK W n cd celn cs ss K .next m G = wpSs W n cd celn cs ss m G K := rfl
theorem seqK_cont : seqK W n cd celn cs ss K .cont m G = K .cont m G := rfl
theorem seqK_ret {v : Value} : seqK W n cd celn cs ss K (.ret v) m G = K (.ret v) m G := rfl
end
end Mine
end
section
open PySem PySem.W PySem.Calls PyProof.Rows
namespace Mine
variable {W : Wd} {A : Around} {n : Nat} {H G : GH} {s : Shared}
noncomputable def clsOK (K : Frag) (AT : Names) (C : Addr) (sp : ClsSpec) : Bool :=
  makesIn K C && findIn K (.ref C) "__init__" == some (some (.ref sp.init)) && typeIn K (.ref sp.init) == some (.type "function") &&
  findIn K (.ref C) "__getattribute__" == some (some (.builtin "object.__getattribute__")) && findIn K (.ref C) "__getattr__" == some none &&
  findIn K (.ref C) "__setattr__" == some (some (.builtin "object.__setattr__")) && plainOver K C && (clsIn K C).any (·.hasDict) &&
  sp.attrs.all (fun i => match AT[i]? with | some x => AT.idxOf? x == some i && findIn K (.ref C) x == some none | none => false) &&
  sp.meths.all (fun p => match AT[p.1]? with | some x => AT.idxOf? x == some p.1 && findIn K (.ref C) x == some (some (.ref p.2)) && typeIn K (.ref p.2) == some (.type "function") && keepIn K (.ref p.2) | none => false)
structure WdOK (W : Wd) (mg mb : Str → Option Value) : Prop where
  K : W.K.In W.B
  cls : ∀ C sp, W.cls.lookup C = some sp → clsOK W.K W.AT C sp = true
  fns : ∀ f, W.fns.contains f = true → keepIn W.K (.ref f) = true
  lim : W.B.NoLimit
  hmg : W.B.Ns mainGlobals mg
  hmb : W.B.Ns builtinsNs mb
  glob : ∀ x v, W.globs.lookup x = some v → (∃ v', mg x = some v' ∧ er v' = v) ∨ (mg x = none ∧ ∃ v', mb x = some v' ∧ er v' = v)
noncomputable abbrev Post (W : Wd) {α : Type} (H : GH) (Q : α → GH → Prop) (v : α) (s' : Shared) : Prop := ∃ G', Disj H G' ∧ W.R (H.un G') s' ∧ Q v G'
noncomputable abbrev NoE : Value → Shared → Prop := fun z9 z9 => False
noncomputable abbrev WP (W : Wd) (A : Around) {α : Type} (t : Sem α) (Q : α → Shared → Prop) (s : Shared) : Prop := wpAny W.M A t Q NoE s
theorem Repr.at {prog w AT B os₀ U s a g} (R : Repr prog w AT B os₀ U s) (e : U a = some g) : ∃ d, Own prog w AT s.heap d a g := let ⟨d, r⟩ := R; ⟨d, (r.own a g e).2⟩
theorem Repr.list {prog w AT B os₀ U s a xs} (R : Repr prog w AT B os₀ U s) (e : U a = some (.list xs)) : ∃ vs, s.heap.PlainList a vs ∧ vs.toList.map er = xs ∧ vs.size ≤ sizeLine := let ⟨_, o⟩ := R.at e; o
theorem Repr.tup {prog w AT B os₀ U s a xs} (R : Repr prog w AT B os₀ U s) (e : U a = some (.tup xs)) : ∃ vs, IsTup s.heap a vs ∧ vs.toList.map er = xs ∧ vs.size ≤ sizeLine := by
  refine o_EEEA (R.at e) fun z9 vs n o r => ?_
  exact (i_EA vs (i_EAAE _ o rfl n rfl) r)
theorem truth_ok {v a : Value} {K : Bool → GH → Prop} (hv : er v = a) (D : Disj H G) (R : W.R (H.un G) s) (h : truthG a G K) : WP W A (truthy v) (Post W H K) s := by
  subst hv
  cases v with
  | none => exact wpAny_pure (i_EAA G D R h)
  | bool b => exact wpAny_truthy_bool (i_EAA G D R h)
  | int i t => exact truthy_int (i_EAA G D R h)
  | _ => exact h.elim
theorem neg_ok {v a : Value} {K : KV} (hv : er v = a) (D : Disj H G) (R : W.R (H.un G) s) (h : negG a G K) : WP W A (unaryOp .USub v) (Post W H fun v => K (er v)) s := by
  subst hv
  cases v with
  | int i t => exact neg_int (i_EAA G D (R.irr rfl rfl rfl) h)
  | _ => exact h.elim
theorem sizeLine_lt : sizeLine < 2 ^ 63 := by wide_open with sizeLine_eq; decide
theorem pickI_of {vs : Array Value} {k : Int} {v : Value} (h : pickI (vs.toList.map er) k = some v) (_hs : vs.size ≤ sizeLine) :
    ∃ j x, seqIndex? k vs.size = some j ∧ vs[j]? = some x ∧ er x = v ∧ (0 ≤ k → j = k.toNat ∧ k < vs.size) ∧ (k < 0 → j = (k + vs.size).toNat ∧ -(vs.size : Int) ≤ k) := by
  unfold pickI at h
  simp only [List.length_map, Array.length_toList, List.getElem?_map, Array.getElem?_toList] at h
  by_cases h0 : 0 ≤ k
  · rw [if_pos h0] at h
    refine o_EA (Option.map_eq_some_iff.mp h) fun x hx e93 => ?_; subst e93
    have hlt : k.toNat < vs.size := (Array.getElem?_eq_some_iff.mp hx).1
    refine (i_EEAAAA k.toNat x ?_ hx rfl (fun z9 => ⟨rfl, by omega⟩) (fun q => by omega))
    unfold seqIndex?
    have e1 : ¬ k < 0 := by omega
    simp only [e1, if_false]
    wide_open with if_pos (by simp only [Bool.and_eq_true, decide_eq_true_eq]; omega)
  · rw [if_neg h0] at h
    by_cases h1 : -(vs.size : Int) ≤ k
    · rw [if_pos h1] at h
      refine o_EA (Option.map_eq_some_iff.mp h) fun x hx e93 => ?_; subst e93
      refine (i_EEAAAA ((k + vs.size).toNat) x ?_ hx rfl (fun q => by omega) (fun z9 => ⟨rfl, h1⟩))
      unfold seqIndex?
      have e1 : k < 0 := by omega
      simp only [e1, if_true]
      wide_open with if_pos (by simp only [Bool.and_eq_true, decide_eq_true_eq]; omega)
    · rw [if_neg h1] at h; wide_open using h
theorem getItem_list_ok {l : Addr} {vs : Array Value} {k : Int} {u : Tok} {v : Value} {Q : Value → Shared → Prop} (hl : s.heap.PlainList l vs) (h : pickI (vs.toList.map er) k = some v) (hs : vs.size ≤ sizeLine)
    (hQ : ∀ x, er x = v → Q x s) : WP W A (getItem (.ref l) (.int k u)) Q s := by
  obtain ⟨j, x, -, hx, e, h0, h1⟩ := pickI_of h hs
  have hz := sizeLine_lt
  by_cases hk : 0 ≤ k
  · obtain ⟨rfl, hlt⟩ := h0 hk
    exact wpAny_getItem_list hl.isList hk (by omega) hx (hQ x e)
  · obtain ⟨rfl, hlt⟩ := h1 (by omega)
    exact wpAny_getItem_list_neg hl.isList (by omega) hlt (by omega) hx (hQ x e)
theorem getItem_tup_ok {l : Addr} {vs : Array Value} {k : Int} {u : Tok} {v : Value} {Q : Value → Shared → Prop} (hl : IsTup s.heap l vs) (h : pickI (vs.toList.map er) k = some v) (hs : vs.size ≤ sizeLine)
    (hQ : ∀ x, er x = v → Q x s) : WP W A (getItem (.ref l) (.int k u)) Q s := by
  refine o_EEAAAA (pickI_of h hs) fun j x hj hx e h0 h1 => ?_
  have hz := sizeLine_lt
  refine getItem_tuple hl ?_ ?_ hj hx (hQ x e)
  · by_cases hk : 0 ≤ k
    · omega
    · have := (h1 (by omega)).2; omega
  · by_cases hk : 0 ≤ k
    · have := (h0 hk).2; omega
    · omega
theorem dict_find {kvs : List (Int × Value)} {es : List (Int × Value)} {k : Int} {v : Value} (he : kvs.map (fun p => (p.1, er p.2)) = es) (h : es.lookup k = some v) : ∃ x, valueAt kvs k = some x ∧ er x = v := by
  subst he
  induction kvs with
  | nil => wide_open using h
  | cons p r ih =>
    obtain ⟨j, x⟩ := p
    simp only [List.map_cons, List.lookup_cons] at h
    unfold valueAt
    by_cases hj : j = k
    · subst hj
      simp at h
      exact (i_EA x (by simp) h)
    · have : (k == j) = false := by simpa using Ne.symm hj
      rw [this] at h
      refine o_EA (ih h) fun y h1 h2 => ?_
      refine (i_EA y ?_ h2)
      unfold valueAt at h1
      simp [hj, h1]
set_option tactic.hygienic true in
theorem sub_ok {value slice : Expr} {o i vo vi : Value} {K : KV} (ho : er vo = o) (hi : er vi = i) (D : Disj H G) (R : W.R (H.un G) s) (h : subG o i G K)
    (hs : ∀ o i, subscripted slice false o i = operate [o, i] (getItem o i)) : WP W A (subscriptTail value slice vo vi) (Post W H fun v => K (er v)) s := by
  subst ho hi
  cases vo with
  | ref a =>
    cases vi with
    | int k u =>
      simp only [subG, er] at h
      split at h
      · rename_i xs hg
        refine o_EA h fun v hv hK => ?_; try clear h
        refine o_EAA (R.list (GH.un_right hg)) fun vs hl e93 hz => ?_; subst e93
        exact tail_any hl.isList.typeIs slot_list_getitem.lookup (getItem_list_ok hl hv hz fun x e => (i_EAA G D R (by subst e; exact hK))) (hs _ _)
      · rename_i xs hg
        refine o_EA h fun v hv hK => ?_; try clear h
        refine o_EAA (R.tup (GH.un_right hg)) fun vs hl e93 hz => ?_; subst e93
        exact tail_any hl.typeIs PyProof.Rows.slot_tuple_getitem.lookup (getItem_tup_ok hl hv hz fun x e => (i_EAA G D R (by subst e; exact hK))) (hs _ _)
      · rename_i es ep hg
        refine o_EA h fun v hv hK => ?_; try clear h
        refine o_EEAA (R.at (GH.un_right hg)) fun z9 kvs hd he hz => ?_
        refine o_EA (dict_find he hv) fun x hx e => ?_
        have hm := hd.dictOf.mapOf
        exact tail_any hm.typeIs slot_dict_getitem.lookup (wpAny_getItem_of (knd := intKind W.prog W.w) (k := k) (by simp [intKind, Value.isInt]) hm hx (i_EAA G D (R.irr rfl rfl rfl) (by subst e; exact hK))) (hs _ _)
      · exact h.elim
    | _ => exact h.elim
  | _ => exact h.elim
section
variable {mg mb : Str → Option Value}
theorem Repr.KIn (O : WdOK W mg mb) {U : GH} (R : W.R U s) : W.K.In s.heap := O.K.keeps R.keep
theorem lookIn_ns {o : Obj} {es : Array DictEntry} {ep : Nat} (hd : o.data = .dict es ep) (hk : StrKeys es) (x : Str) : lookIn x o = some (nsFind es x) := by
  unfold lookIn nsFind findBy
  wide_open with hd
  dsimp only
  ((first | refine (Array.find?_toList) ▸ ?_ | rewrite [← Array.find?_toList]); try with_reducible rfl)
  cases hf : es.toList.find? (fun e => e.key.isStr x) with
  | some e => rfl
  | none =>
    have : es.toList.any (·.refKey) = false := by
      wide_open with List.any_eq_false
      intro e he
      refine o_EE (hk e (Array.mem_toList_iff.mp he)) fun n t h => ?_
      simp [DictEntry.refKey, h]
    simp [this]
theorem Repr.inst (O : WdOK W mg mb) {U : GH} (R : W.R U s) {a C : Addr} {fs : List (Nat × Value)} (e : U a = some (.inst C fs)) :
    ∃ ox od, InstAt s.heap a ox C (some od) ∧ ∀ x, ∃ v, lookIn x od = some v ∧ v.map er = instMap W.AT fs x := by
  refine o_EEAAAA (R.setA e) fun dx m h1 n94 z9 h6 z9 => ?_; obtain ⟨o, es, ep, h2, h3, h4, h5⟩ := n94
  refine (i_EEA _ o ⟨h1, rfl, rfl, h2⟩ (fun x => (i_EA _ (lookIn_ns h3 h4 x) ?_)))
  wide_open with h5 x; exact h6 x
set_option tactic.hygienic true in
theorem cls_of (O : WdOK W mg mb) {C : Addr} {sp : ClsSpec} (h : W.cls.lookup C = some sp) :
    makesIn W.K C = true ∧ findIn W.K (.ref C) "__init__" = some (some (.ref sp.init)) ∧ typeIn W.K (.ref sp.init) = some (.type "function") ∧
    findIn W.K (.ref C) "__getattribute__" = some (some (.builtin "object.__getattribute__")) ∧ findIn W.K (.ref C) "__getattr__" = some none ∧
    findIn W.K (.ref C) "__setattr__" = some (some (.builtin "object.__setattr__")) ∧ plainOver W.K C = true ∧ (clsIn W.K C).any (·.hasDict) = true ∧
    (∀ i, sp.attrs.contains i = true → ∃ x, W.AT[i]? = some x ∧ W.AT.idxOf? x = some i ∧ findIn W.K (.ref C) x = some none) ∧
    (∀ i f, sp.meths.lookup i = some f → ∃ x, W.AT[i]? = some x ∧ W.AT.idxOf? x = some i ∧ findIn W.K (.ref C) x = some (some (.ref f)) ∧ typeIn W.K (.ref f) = some (.type "function") ∧ keepIn W.K (.ref f) = true) := by
  have z := O.cls C sp h
  unfold clsOK at z
  simp only [Bool.and_eq_true, beq_iff_eq, List.all_eq_true] at z
  obtain ⟨⟨⟨⟨⟨⟨⟨⟨⟨z1, z2⟩, z3⟩, z4⟩, z5⟩, z6⟩, z7⟩, z8⟩, z9⟩, z10⟩ := z
  refine (i_AAAAAAAAA z1 z2 z3 z4 z5 z6 z7 z8 (fun i hi => ?_) (fun i f hi => ?_))
  · have := z9 i (List.contains_iff_mem.mp hi)
    split at this
    · rename_i x hx; exact (i_EA x hx (by simpa using this))
    · wide_open using this
  · have hm : (i, f) ∈ sp.meths := by
      clear z10
      generalize sp.meths = l at hi
      induction l with
      | nil => wide_open using hi
      | cons p r ih =>
        obtain ⟨j, g⟩ := p
        rw [List.lookup_cons] at hi
        cases hb : i == j with
        | true => wide_line with hb using hi; wide_open with beq_iff_eq.mp hb; exact .head _
        | false => rw [hb] at hi; exact .tail _ (ih hi)
    have := z10 (i, f) hm
    dsimp only at this
    split at this
    · rename_i x hx
      simp only [Bool.and_eq_true, beq_iff_eq] at this
      exact (i_EAAAA x hx this.1.1.1 this.1.1.2 this.1.2 this.2)
    · wide_open using this
theorem handed_of {v : Value} (h : isBlt (er v) = false) : handedIn v = true := by
  cases v <;> first | rfl | wide_open using h
set_option tactic.hygienic true in
theorem attr_ok (O : WdOK W mg mb) {vo o : Value} {i : Nat} {x : Str} {ex : Bool} {K : KV} (ho : er vo = o) (hx : W.AT[i]? = some x) (D : Disj H G) (R : W.R (H.un G) s) (h : attrG W o i G K) :
    WP W A (getAttr vo x ex) (Post W H fun v => K (er v)) s := by
  subst ho
  cases vo with
  | ref a =>
    simp only [attrG, er] at h
    split at h
    · rename_i C fs hg
      refine o_EEAAAA h fun sp v h1 h2 h3 h4 h5 => ?_; try clear h
      refine o_AAAAAAAAA (cls_of O h1) fun c1 c2 c3 c4 c5 c6 c7 c8 c9 c10 => ?_
      refine o_EAA (c9 i h2) fun x' hx' hi hf => ?_
      wide_line with hx using hx'
      refine o_EEA (R.inst O (GH.un_right hg)) fun ox od I hl => ?_
      refine o_EA (hl x) fun v' l1 l2 => ?_
      unfold instMap at l2
      rw [hi, Option.bind_some, h3] at l2
      refine o_EA (Option.map_eq_some_iff.mp l2) fun y e92 e => ?_; subst e92
      refine o_EA (any_some c8) fun cd k1 k2 => ?_
      refine get_value (Repr.KIn O R) I c4 (v := y) ?_ (handed_of (by wide_open with e; exact h4)) (i_EAA G D (R.irr rfl rfl rfl) (by subst e; exact h5))
      unfold findObj
      (wide_line using k1; wide_line using Option.bind_some; wide_line using hf; wide_open with Option.bind_some)
      simp only [Option.bind_some, PySem.W.ownOf, k2, if_true, l1]
    · exact h.elim
  | _ => exact h.elim
set_option tactic.hygienic true in
theorem seta_ok (O : WdOK W mg mb) {vo v o : Value} {i : Nat} {x : Str} {K : GH → Prop} (ho : er vo = o) (hx : W.AT[i]? = some x) (D : Disj H G) (R : W.R (H.un G) s) (h : setaG W o i (er v) G K) :
    WP W A (setAttr vo x v) (Post W H fun z9 => K) s := by
  subst ho
  cases vo with
  | ref a =>
    simp only [setaG, er] at h
    split at h
    · rename_i C fs hg
      refine o_EAAA h fun sp h1 h2 h25 h5 => ?_; try clear h
      refine o_AAAAAAAAA (cls_of O h1) fun c1 c2 c3 c4 c5 c6 c7 c8 c9 c10 => ?_
      refine o_EAA (c9 i h2) fun x' hx' hi hf => ?_
      wide_line with hx using hx'
      refine o_EEA (R.inst O (GH.un_right hg)) fun ox od I hl => ?_
      refine o_EEAAAAA (R.setA (GH.un_right hg)) fun dx m i1 i2 iz i3 i4 i5 => ?_
      refine o_EA (any_some c8) fun cd k1 k2 => ?_
      have X := Repr.KIn O R
      refine set_plain X I c6 (osa_open (s := { s with toks := s.toks + 1 }) (r := none) X I c7 (by unfold takerIn; wide_open with hf; rfl) fun b => ?_)
      dsimp only
      unfold Builtin.ObjectAttr.storeInOwnDict
      refine wpAny_bind (wpAny_pure (wpAny_bind (wpAny_bind (wpAny_loadPart i1 (wpAny_bind (looks_clsIn X k1 _ _ _ _ (fun z9 z9 e => e) ?_))))))
      wide_open with k2
      refine wpAny_pure (a := some dx) (wpAny_bind (wpAny_pure (wpAny_bind ?_)))
      refine wpAny_nsSet_sz (s := { s with toks := s.toks + 1 }) i2 iz fun h' hn hz hs => ?_
      have hlen : (setF fs i (er v)).length = if (m x).isSome then fs.length else fs.length + 1 := by
        wide_open with setF_length
        have := i3 x
        unfold instMap at this
        rw [hi, Option.bind_some] at this
        ((first | refine this ▸ ?_ | rewrite [← this]); try with_reducible rfl)
        cases m x <;> rfl
      have hz2 : h'.DictLe dx (setF fs i (er v)).length := by wide_open with hlen; exact hz
      refine o_EEEAA (id hn) fun o9 es9 ep9 g1 g2 z9 => ?_
      refine wpAny_bind (wpAny_lookBehind g1 (by wide_open with g2; exact pastItsLine_dict (by have := hz2 _ _ _ g1 g2; rw [hlen] at this; wide_open with sizeLine_eq; split at this <;> omega)) ?_)
      refine wpAny_pure ?_
      refine (?_ : Post W H (fun z9 => K) () _)
      refine (i_EAA _ (D.setG (D.right hg)) ?_ h5)
      wide_open with GH.un_set
      exact i5 x i v h' _ _ hi hn hz2 hs
    · exact h.elim
  | _ => exact h.elim
theorem noDict_list {h : Heap} {l : Addr} {vs : Array Value} (x : h.PlainList l vs) : ∀ a, Value.ref l = .ref a → ∃ o, h.get? a = some o ∧ o.dict = none := by
  intro a e; wide_open using e
  obtain ⟨n, e⟩ := x; exact (i_EA _ e rfl)
set_option tactic.hygienic true in
theorem meth_ok (O : WdOK W mg mb) {vo o f : Value} {i : Nat} {x : Str} {pl : Sem Bool} {Q : Value × List Value → Shared → Prop} (ho : er vo = o) (hx : W.AT[i]? = some x) (R : W.R (H.un G) s) (h : methG W o i G = some f)
    (q : Q (f, [vo]) s) : WP W A (getMethod vo x pl) Q s := by
  subst ho
  cases vo with
  | ref a =>
    simp only [methG, er] at h
    split at h
    · rename_i C fs hg
      split at h
      · rename_i sp h1
        split at h
        · rename_i h2
          refine o_EA (Option.map_eq_some_iff.mp h) fun f' h3 e93 => ?_; subst e93
          refine o_AAAAAAAAA (cls_of O h1) fun c1 c2 c3 c4 c5 c6 c7 c8 c9 c10 => ?_
          refine o_EAAAA (c10 i f' h3) fun x' hx' hi hf ht z9 => ?_
          wide_line with hx using hx'
          refine o_EEA (R.inst O (GH.un_right hg)) fun ox od I hl => ?_
          refine o_EA (hl x) fun v' l1 l2 => ?_
          unfold instMap at l2
          rw [hi, Option.bind_some, Option.isNone_iff_eq_none.mp h2] at l2
          have : v' = none := by cases v' <;> first | rfl | wide_open using l2
          subst this
          exact method_fn (Repr.KIn O R) I c4 c5 hf ht (by unfold shadowIn; dsimp only; wide_open with l1; rfl) q
        · wide_open using h
      · wide_open using h
    · rename_i xs hg
      refine o_EAA (R.list (GH.un_right hg)) fun vs hl z9 z9 => ?_
      rw [hx] at h
      dsimp only at h
      split at h
      · rename_i e; wide_open using h; wide_open with beq_iff_eq.mp e
        obtain ⟨n, hl⟩ := hl
        exact Calls.getMethod_list_append hl rfl rfl q
      · split at h
        · rename_i e; wide_open using h; wide_open with beq_iff_eq.mp e
          exact PySem.getMethod_builtin hl.isList.typeIs PySem.F.plainAttrs_list PySem.F.slot_list_pop PySem.F.type_list_pop (noDict_list hl) q
        · wide_open using h
    · rename_i es ep hg
      rw [hx] at h
      dsimp only at h
      split at h
      · rename_i e; wide_open using h; wide_open with beq_iff_eq.mp e
        refine o_EEA (R.at (GH.un_right hg)) fun z9 kvs n93 z9 => ?_; obtain ⟨od, es', h1, ⟨h2, h2', _⟩, h3, _⟩ := n93
        exact PySem.getMethod_builtin (T := "dict") (i_EA od h1 h2) PySem.F.plainAttrs_dict PySem.F.slot_dict_get PySem.F.type_dict_get (fun b e => by wide_open using e; exact (i_EA od h1 h2')) q
      · wide_open using h
    · wide_open using h
  | _ => wide_open using h
theorem keep_ok (O : WdOK W mg mb) {f : Value} (R : W.R (H.un G) s) (h : keepG W f G) : ∃ k, (k = Keeper.frame ∨ k = Keeper.machine ∨ k = Keeper.boundFrame) ∧ Looks W.M s.heap (keeperOf f) k := by
  cases f with
  | builtin i => exact (i_EA .machine (.inr (.inl rfl)) (Looks.of_pure rfl))
  | type n => exact (i_EA .machine (.inr (.inl rfl)) (Looks.of_pure rfl))
  | ref a =>
    rcases h with h | ⟨o, fd, hg, hd⟩
    · exact keeps_K (O.fns a h) _ (Repr.KIn O R)
    · obtain ⟨_, ho⟩ := R.at (GH.un_right hg)
      refine (i_EA .frame (.inl rfl) ?_)
      unfold keeperOf
      refine (Looks.ld (part := none) ho).andThen ?_
      wide_open with hd
      exact .now
  | _ => exact h.elim
noncomputable def Args1 (W : Wd) (A : Around) (H : GH) (ts : List (Bool × Sem Value)) (G : GH) (K : List Value → GH → Prop) : Prop :=
  ∀ s, Disj H G → W.R (H.un G) s → WP W A (spliced ts) (Post W H fun vs => K (vs.map er)) s
theorem callWith_ok (O : WdOK W mg mb) {pos : Pos} {f : Value} {first : List Value} {ts : List (Bool × Sem Value)} {K : KV} (hts : ts.any (·.1) = false)
    (D : Disj H G) (R : W.R (H.un G) s) (hA : Room A n) (h : Args1 W A H ts G fun vs G2 => keepG W (er f) G2 ∧ CallT W n (er f) (first.map er ++ vs) G2 K) :
    WP W A (callWith pos f first ts []) (Post W H fun v => K (er v)) s := by
  have ev : WP W A (evalArgs f true ts []) (fun a s' => a.kw = [] ∧ Post W H (fun vs G2 => keepG W (er f) G2 ∧ CallT W n (er f) (first.map er ++ vs.map er) G2 K) a.pos s') s := by
    have h0 := h s D R
    cases ts with
    | nil =>
      unfold evalArgs
      refine (?_ : wpAny _ _ (spliced [] >>= _) _ _ s)
      refine wpAny_bind (wpAny_mono h0 (fun vs s' q => ?_) fun z9 z9 z => z)
      refine wpAny_holding ?_
      exact wpAny_bind (wpAny_pure (wpAny_bind (wpAny_pure (wpAny_pure ⟨rfl, q⟩))))
    | cons t r =>
      obtain ⟨b, x⟩ := t
      simp only [List.any_cons, Bool.or_eq_false_iff] at hts
      obtain ⟨rfl, _⟩ := hts
      exact evalArgs_plain (wpAny_mono h0 (fun vs s' q => ⟨rfl, q⟩) fun z9 z9 z => z)
  refine callWith_of (P := fun hh => ∃ k, (k = Keeper.frame ∨ k = Keeper.machine ∨ k = Keeper.boundFrame) ∧ Looks W.M hh (keeperOf f) k) (by simp [hts]) (fun z9 z => z) (wpAny_mono ev (fun a s' q => ?_) fun z9 z9 z => z)
  refine o_AEAAA q fun hk G2 D2 R2 k2 c2 => ?_; try clear q
  refine ⟨keep_ok O R2 (by cases f <;> exact k2), ?_⟩
  wide_open with hk
  exact c2 A f (first ++ a.pos) hA rfl (by simp) H s' trivial D2 R2
end
end Mine
end
section
open PySem PySem.W PySem.Calls PyProof.Rows
namespace Mine
variable {W : Wd} {A : Around} {n : Nat} {H G : GH} {s : Shared}
theorem GH.del_self (U : GH) (a : Addr) : (U.del a) a = none := by simp [GH.del]
theorem GH.del_ne (U : GH) {a b : Addr} (h : b ≠ a) : (U.del a) b = U b := by simp [GH.del, h]
theorem GH.un_del {H G : GH} {a : Addr} (h : G a = none) : GH.un (H.del a) G = (GH.un H G).del a := by
  funext b; simp only [GH.un, GH.del]
  by_cases hb : b = a
  · subst hb; simp [h]
  · simp [hb]
theorem Repr.extDel {prog w AT B os₀} {U : GH} (R : Repr prog w AT B os₀ U s) {a : Addr} {g : GO} {h' : Heap} {tk : Nat} {dr : Drawn} (e : U a = some g) (hx : Heap.ExtBut a s.heap h') : Repr prog w AT B os₀ (U.del a) ⟨h', s.gens, dr, tk, s.os⟩ := by
  obtain ⟨d, k, o, i, gn, os⟩ := R
  have low : ∀ {b gb}, (U.del a) b = some gb → b ≠ a ∧ U b = some gb := fun {b gb} eb => by
    by_cases hb : b = a
    · subst hb; wide_line with GH.del_self using eb
    · rw [GH.del_ne _ hb] at eb; exact ⟨hb, eb⟩
  refine ⟨d, fun b ob eb => ?_, fun b gb eb => ?_, fun b C fs eb => ?_, gn, os⟩
  · by_cases hb : b = a
    · rw [hb, (o a g e).1] at eb; wide_open using eb
    · exact hx b ob hb (k _ _ eb)
  · obtain ⟨hb, eb⟩ := low eb
    refine ⟨(o b gb eb).1, (o b gb eb).2.move _ _ _ (fun ob h1 => hx b ob hb h1) (fun z9 => rfl) fun hg ob h1 => hx _ ob ?_ h1⟩
    intro q
    cases gb with
    | inst C fs => have := (i b C fs eb).2.1; rw [q, e] at this; wide_open using this
    | _ => wide_open using hg
  · obtain ⟨hb, eb⟩ := low eb
    refine o_AA (i b C fs eb) fun i1 i2 i3 => ?_
    have hda : d b ≠ a := by intro q; rw [q, e] at i2; wide_open using i2
    exact (i_AA i1 (by wide_open with GH.del_ne _ hda; exact i2) (fun c C' fs' ec hc => i3 c C' fs' (low ec).2 hc))
noncomputable def IterK.Rel (k : IterK) (xs : List Value) (chk : GH → Prop) : Prop := match k with
  | .list l i => ∃ all, (chk = fun G' => G' l = some (.list all)) ∧ xs = all.drop i
  | .tup l i => ∃ all, (chk = fun G' => G' l = some (.tup all)) ∧ xs = all.drop i
  | .range x left => (chk = fun z9 => True) ∧ xs = (List.range left.toNat).map fun (j : Nat) => Value.int (x + Int.ofNat j) 0
  | .dict d i n ep => ∃ all : List (Int × Value), (chk = fun G' => G' d = some (.dict all ep)) ∧ n = all.length ∧ xs = (all.map fun p => Value.int p.1 0).drop i
theorem drop_cons {α : Type} {l : List α} {i : Nat} {x : α} {xs : List α} (h : x :: xs = l.drop i) : l[i]? = some x ∧ xs = l.drop (i + 1) := by
  have h1 : i < l.length := by
    rcases Nat.lt_or_ge i l.length with h1 | h1
    · exact h1
    · wide_line with List.drop_eq_nil_of_le h1 using h
  rw [List.drop_eq_getElem_cons h1] at h
  wide_open using h
  exact ⟨List.getElem?_eq_getElem h1, rfl⟩
theorem drop_nil {α : Type} {l : List α} {i : Nat} (h : [] = l.drop i) : l[i]? = none := by
  wide_open with List.getElem?_eq_none_iff
  exact List.drop_eq_nil_iff.mp h.symm
theorem er_map_get {vs : Array Value} {i : Nat} {x : Value} (h : (vs.toList.map er)[i]? = some x) : ∃ y, vs[i]? = some y ∧ er y = x := by
  rw [List.getElem?_map, Array.getElem?_toList] at h
  exact Option.map_eq_some_iff.mp h
theorem er_map_none {vs : Array Value} {i : Nat} (h : (vs.toList.map er)[i]? = none) : vs[i]? = none := by
  rw [List.getElem?_map, Array.getElem?_toList] at h
  exact Option.map_eq_none_iff.mp h
theorem next_item {a : Addr} {k : IterK} {x : Value} {xs : List Value} {chk : GH → Prop} (D : Disj H G) (R : W.R (H.un G) s) (hk : H a = some (.iter k)) (hr : k.Rel (x :: xs) chk) (hc : chk G) :
    WP W A (pyNext (.ref a)) (fun r s' => ∃ v k', r = some v ∧ er v = x ∧ k'.Rel xs chk ∧ W.R ((H.set a (.iter k')).un G) s') s := by
  have ga : G a = none := D.left hk
  have hU : (H.un G) a = some (.iter k) := by wide_open with GH.un_left ga; exact hk
  obtain ⟨_, hit⟩ := R.at hU
  have upd : ∀ k' h' tk, k'.At h' a → Heap.SameBut a s.heap h' → W.R ((H.set a (.iter k')).un G) ⟨h', s.gens, s.drawn, tk, s.os⟩ := fun k' h' tk z hs => by
    wide_open with GH.set_un _ ga
    exact R.ext hU rfl rfl hs.extBut fun z9 z9 => z
  cases k with
  | list l i =>
    refine o_EA hr fun all e92 hx => ?_; try clear hr; subst e92
    obtain ⟨h1, rfl⟩ := drop_cons hx
    refine o_EAA (R.list (GH.un_right hc)) fun vs hl e93 hz => ?_; subst e93
    refine o_EA (er_map_get h1) fun y h2 h3 => ?_
    exact wpAny_pyNext_list_item hit hl.isList h2 fun h' z hs => (i_EEAAA y (.list l (i + 1)) rfl h3 (i_EA _ rfl rfl) (upd (.list l (i + 1)) h' _ z hs))
  | tup l i =>
    refine o_EA hr fun all e92 hx => ?_; try clear hr; subst e92
    obtain ⟨h1, rfl⟩ := drop_cons hx
    refine o_EAA (R.tup (GH.un_right hc)) fun vs hl e93 hz => ?_; subst e93
    refine o_EA (er_map_get h1) fun y h2 h3 => ?_
    exact wpAny_pyNext_tuple_item hit hl h2 fun h' z hs => (i_EEAAA y (.tup l (i + 1)) rfl h3 (i_EA _ rfl rfl) (upd (.tup l (i + 1)) h' _ z hs))
  | range u left =>
    obtain ⟨rfl, hx⟩ := hr
    have hl : 0 < left := by
      rcases (show 0 < left ∨ left ≤ 0 by lia) with h | h
      · exact h
      · wide_line with Int.toNat_of_nonpos h using hx
    have e : left.toNat = (left - 1).toNat + 1 := by lia
    rw [e, List.range_succ_eq_map] at hx
    simp only [List.map_cons, List.map_map, List.cons.injEq] at hx
    refine wpAny_pyNext_range_item hit hl fun h' z hs => (i_EEAAA _ (.range (u + 1) (left - 1)) rfl ?_ ⟨rfl, ?_⟩ (upd _ h' _ z hs))
    · wide_open with hx.1; simp [er]
    · wide_open with hx.2
      apply List.map_congr_left
      intro j _
      simp only [Function.comp]
      congr 1
      simp only [Int.ofNat_eq_natCast]
      lia
  | dict d i m ep =>
    refine o_EAA hr fun all e92 e93 hx => ?_; try clear hr; subst e92; subst e93
    obtain ⟨h1, rfl⟩ := drop_cons hx
    refine o_EEAA (R.at (GH.un_right hc)) fun z9 kvs hd he hz => ?_
    subst he
    simp only [List.map_map, List.getElem?_map] at h1
    refine o_EA (Option.map_eq_some_iff.mp h1) fun p h2 h3 => ?_
    obtain ⟨kk, vv⟩ := p
    have hit' : s.heap.IsKeyIter a d i kvs.length ep := by simpa [Own, IterK.At] using hit
    refine wpAny_pyNext_dict_item hit' hd h2 fun key h' hkey z hs => (i_EEAAA key (.dict d (i + 1) kvs.length ep) rfl ?_ (i_EAA _ rfl (by simp) rfl) (upd _ h' _ z hs))
    ((first | refine h3 ▸ ?_ | rewrite [← h3]); try with_reducible rfl)
    have : Value.isInt kk key = true := hkey
    cases key <;> simp_all [Value.isInt, er]
theorem next_end {a : Addr} {k : IterK} {chk : GH → Prop} (hA : A.handled = none) (D : Disj H G) (R : W.R (H.un G) s) (hk : H a = some (.iter k)) (hr : k.Rel [] chk) (hc : chk G) :
    WP W A (pyNext (.ref a)) (fun r s' => r = none ∧ W.R ((H.del a).un G) s') s := by
  have ga : G a = none := D.left hk
  have hU : (H.un G) a = some (.iter k) := by wide_open with GH.un_left ga; exact hk
  obtain ⟨_, hit⟩ := R.at hU
  have fin : ∀ h', Heap.ExtBut a s.heap h' → W.R ((H.del a).un G) { s with heap := h' } := fun h' hx => by
    wide_open with GH.un_del ga
    exact R.extDel hU hx
  cases k with
  | list l i =>
    refine o_EA hr fun all e92 hx => ?_; try clear hr; subst e92
    refine o_EAA (R.list (GH.un_right hc)) fun vs hl e93 hz => ?_; subst e93
    exact wpAny_pyNext_list_end hA hit hl.isList (er_map_none (drop_nil hx)) fun h' z => ⟨rfl, fin h' z⟩
  | tup l i =>
    refine o_EA hr fun all e92 hx => ?_; try clear hr; subst e92
    refine o_EAA (R.tup (GH.un_right hc)) fun vs hl e93 hz => ?_; subst e93
    exact wpAny_pyNext_tuple_end hA hit hl (er_map_none (drop_nil hx)) fun h' z => ⟨rfl, fin h' z⟩
  | range u left =>
    obtain ⟨rfl, hx⟩ := hr
    have hl : left ≤ 0 := by
      rcases (show 0 < left ∨ left ≤ 0 by lia) with h | h
      · have e : left.toNat = (left - 1).toNat + 1 := by lia
        rw [e, List.range_succ_eq_map] at hx; wide_open using hx
      · exact h
    exact wpAny_pyNext_range_end hA hit hl fun h' z => ⟨rfl, fin h' z⟩
  | dict d i m ep =>
    refine o_EAA hr fun all e92 e93 hx => ?_; try clear hr; subst e92; subst e93
    refine o_EEAA (R.at (GH.un_right hc)) fun z9 kvs hd he hz => ?_
    subst he
    have h1 := drop_nil hx
    simp only [List.map_map, List.getElem?_map] at h1
    have hit' : s.heap.IsKeyIter a d i kvs.length ep := by simpa [Own, IterK.At] using hit
    exact wpAny_pyNext_dict_end hA hit' hd (Option.map_eq_none_iff.mp h1) fun h' z => ⟨rfl, fin h' z⟩
theorem iter_again {a : Addr} {k : IterK} {Q : Value → Shared → Prop} (D : Disj H G) (R : W.R (H.un G) s) (hk : H a = some (.iter k)) (q : Q (.ref a) s) : WP W A (pyIter (.ref a)) Q s := by
  have hU : (H.un G) a = some (.iter k) := by wide_open with GH.un_left (D.left hk); exact hk
  obtain ⟨_, hit⟩ := R.at hU
  cases k with
  | list l i => exact wpAny_pyIter_listiter hit q
  | tup l i => exact wpAny_pyIter_tupleiter hit q
  | range u v => exact wpAny_pyIter_rangeiter hit q
  | dict d i m ep => exact wpAny_pyIter_keyiter hit q
theorem Repr.fr {prog w AT B os₀ H G} (R : Repr prog w AT B os₀ (GH.un H G) s) : H s.heap.objs.size = none ∧ G s.heap.objs.size = none := by
  have f := R.fresh
  cases g : G s.heap.objs.size with
  | none => rw [GH.un_left g] at f; exact ⟨f, rfl⟩
  | some x => wide_line with GH.un_right g using f
theorem Repr.pushH {prog w AT B os₀ H G} (R : Repr prog w AT B os₀ (GH.un H G) s) (o : Obj) (g : GO) (hf : o.isFreed = false) (hg : g.isInst = false) {tk : Nat} {dr : Drawn}
    (ho : ∀ d, (s.heap.push o).get? s.heap.objs.size = some o → Own prog w AT (s.heap.push o) d s.heap.objs.size g) :
    Repr prog w AT B os₀ (GH.un (H.set s.heap.objs.size g) G) ⟨s.heap.push o, s.gens, dr, tk, s.os⟩ := by
  have h1 := R.push o hf (tk := tk) (dr := dr)
  have h2 := Repr.ext (s := ⟨s.heap.push o, s.gens, dr, tk, s.os⟩) (tk := tk) (dr := dr) h1 (GH.set_self _ _ _) (g' := g) rfl hg (Heap.ExtBut.refl _ _) (fun d z => ho d z)
  rw [GH.set_set] at h2
  wide_open with GH.set_un _ R.fr.2
  exact h2
theorem Repr.pushG {prog w AT B os₀ H G} (R : Repr prog w AT B os₀ (GH.un H G) s) (o : Obj) (g : GO) (hf : o.isFreed = false) (hg : g.isInst = false) {tk : Nat} {dr : Drawn}
    (ho : ∀ d, (s.heap.push o).get? s.heap.objs.size = some o → Own prog w AT (s.heap.push o) d s.heap.objs.size g) :
    Repr prog w AT B os₀ (GH.un H (G.set s.heap.objs.size g)) ⟨s.heap.push o, s.gens, dr, tk, s.os⟩ := by
  have h1 := R.push o hf (tk := tk) (dr := dr)
  have h2 := Repr.ext (s := ⟨s.heap.push o, s.gens, dr, tk, s.os⟩) (tk := tk) (dr := dr) h1 (GH.set_self _ _ _) (g' := g) rfl hg (Heap.ExtBut.refl _ _) (fun d z => ho d z)
  rw [GH.set_set] at h2
  wide_open with GH.un_set
  exact h2
theorem new_list {vs : List Value} {K : KV} (D : Disj H G) (R : W.R (H.un G) s) (hz : vs.length ≤ sizeLine) (h : newG (.list (vs.map er)) G K) : WP W A (newList vs) (Post W H fun v => K (er v)) s := by
  refine wpAny_newObj_type ?_ (by refine (?_ : vs.toArray.size ≤ sizeLine); simpa using hz)
  exact (i_EAA _ (D.setG R.fr.1) (R.pushG _ (.list (vs.map er)) rfl rfl fun d e => (i_EAA vs.toArray ⟨0, e⟩ (by simp) (by simpa using hz))) (h _ R.fr.2))
theorem new_tup {vs : List Value} {K : KV} (D : Disj H G) (R : W.R (H.un G) s) (hz : vs.length ≤ sizeLine) (h : newG (.tup (vs.map er)) G K) : WP W A (newTuple vs) (Post W H fun v => K (er v)) s := by
  refine wpAny_newObj_type ?_ (by refine (?_ : vs.toArray.size ≤ sizeLine); simpa using hz)
  exact (i_EAA _ (D.setG R.fr.1) (R.pushG _ (.tup (vs.map er)) rfl rfl fun d e => (i_EEAA vs.toArray 0 e (by simp) (by simpa using hz))) (h _ R.fr.2))
theorem rangeSize_one (lo hi : Int) : Builtin.Range.rangeSize lo hi 1 = if lo < hi then hi - lo else 0 := by
  unfold Builtin.Range.rangeSize
  simp only [Int.ediv_one, show (1 : Int) > 0 from by decide, if_true]
  split <;> lia
theorem range_small {lo hi : Int} (h1 : -4000000 ≤ lo) (h2 : hi ≤ 4000000) (h3 : lo ≤ 4000000 ∧ -4000000 ≤ hi) : Builtin.Range.small lo hi 1 = true := by
  unfold Builtin.Range.small
  wide_open with rangeSize_one
  unfold Builtin.Range.rangeFitsLong
  simp only [Bool.and_eq_true, Bool.or_eq_true, decide_eq_true_eq, beq_iff_eq]
  split <;> simp <;> lia
set_option tactic.hygienic true in
theorem iter_ok {v it : Value} {K : List Value → (GH → Prop) → Prop} (hv : er v = it) (D : Disj H G) (R : W.R (H.un G) s) (h : iterG it G K) :
    WP W A (pyIter v) (fun r s' => ∃ a k xs chk, r = .ref a ∧ H a = none ∧ G a = none ∧ W.R ((H.set a (.iter k)).un G) s' ∧ k.Rel xs chk ∧ chk G ∧ K xs chk) s := by
  subst hv
  cases v with
  | ref a =>
    simp only [iterG, er] at h
    split at h
    · rename_i xs hg
      refine o_EAA (R.list (GH.un_right hg)) fun vs hl e93 hz => ?_; subst e93
      refine wpAny_pyIter_list hl.isList (i_EEEEAAAAAA _ (.list a 0) _ _ rfl R.fr.1 R.fr.2 (R.pushH _ (.iter (.list a 0)) rfl rfl fun d e => (i_EAA _ e rfl rfl)) (i_EA _ rfl rfl) hg h)
    · rename_i xs hg
      refine o_EAA (R.tup (GH.un_right hg)) fun vs hl e93 hz => ?_; subst e93
      refine wpAny_pyIter_tuple hl (i_EEEEAAAAAA _ (.tup a 0) _ _ rfl R.fr.1 R.fr.2 (R.pushH _ (.iter (.tup a 0)) rfl rfl fun d e => (i_EAA _ e rfl rfl)) (i_EA _ rfl rfl) hg h)
    · rename_i es ep hg
      refine o_EEAAA (R.at (GH.un_right hg)) fun z9 kvs hd he hz hy => ?_
      subst he
      refine wpAny_pyIter_dict (by simpa using hy) hd (i_EEEEAAAAAA _ (.dict a 0 kvs.length ep) _ _ rfl R.fr.1 R.fr.2 (R.pushH _ (.iter (.dict a 0 kvs.length ep)) rfl rfl fun d e => (i_EAA _ e rfl rfl)) (i_EAA _ rfl (by simp) rfl) hg h)
    · rename_i lo hi hg
      refine o_EEEE (R.at (GH.un_right hg)) fun z9 t u v hr => ?_
      refine o_AAA h fun h1 h2 h4 h3 => ?_; try clear h
      refine wpAny_pyIter_range hr (range_small h1 h2 h4) (i_EEEEAAAAAA _ (.range lo (Builtin.Range.rangeSize lo hi 1)) _ _ rfl R.fr.1 R.fr.2 (R.pushH _ (.iter (.range lo (Builtin.Range.rangeSize lo hi 1))) rfl rfl fun d e => e) ⟨rfl, ?_⟩ trivial h3)
      wide_open with rangeSize_one
      congr 2
      split <;> lia
    · exact h.elim
  | _ => exact h.elim
end Mine
end
section
open PySem PySem.W PySem.Calls PyProof.Rows
namespace Mine
variable {W : Wd} {A : Around} {n : Nat} {H G : GH} {s : Shared}
structure Sg where
  names : List (Str × NameKind)
  locs : List Str
  cels : List Str
noncomputable def trP (σ : Sg) (x : Str) : Option CP := match σ.names.lookup x with
  | some .local => (σ.locs.idxOf? x).map .loc
  | some .cell => (σ.cels.idxOf? x).map .cel
  | some .free => if x == ("__classdict__" : Str) then none else (σ.cels.idxOf? x).map .cel
  | _ => none
noncomputable def trL {α β : Type} (f : α → Option β) : List α → Option (List β)
  | [] => some []
  | e :: es => match f e with
    | some a => (match trL f es with
      | some r => some (a :: r)
      | none => none)
    | none => none
noncomputable def foldE (op : BoolOp) : List CE → Option CE
  | [] => none
  | [a] => some a
  | a :: r => match foldE op r with
    | some b => some (match op with | .And => .and a b | .Or => .or a b)
    | none => none
noncomputable def foldB (op : BoolOp) : List CB → Option CB
  | [] => none
  | [a] => some a
  | a :: r => match foldB op r with
    | some b => some (match op with | .And => .and a b | .Or => .or a b)
    | none => none
noncomputable def plainBase (e : Expr) : Bool := e.ctorIdx != 16
noncomputable def intKeys : List (Option Expr) → Option (List Int)
  | [] => some []
  | some (.Constant (.int k) _ _) :: r => (intKeys r).map (k :: ·)
  | _ => none
noncomputable def nameP (σ : Sg) : Expr → Option CP
  | .Name x _ => trP σ x
  | _ => none
theorem name_inv {σ : Sg} {e : Expr} {p : CP} (h : nameP σ e = some p) : ∃ x q, e = .Name x q ∧ trP σ x = some p := by
  cases e with
  | Name x q => exact (i_EEA x q rfl h)
  | _ => wide_open using h
noncomputable def trT (σ : Sg) : Expr → Option CT
  | .Name x _ => (trP σ x).map .one
  | .Tuple es _ _ => (trL (nameP σ) es).map .many
  | _ => none
noncomputable def notSet (e : Expr) : Bool := e.ctorIdx != 7
noncomputable def locsOf (names : List (Str × NameKind)) : List Str := (names.filter fun p => p.2 == .local).map (·.1)
noncomputable def freesOf (names : List (Str × NameKind)) : List Str := (names.filter fun p => p.2 == .free).map (·.1)
noncomputable def compSg (names : List (Str × NameKind)) : Sg := ⟨names, locsOf names, freesOf names⟩
noncomputable def compNamesOk (names : List (Str × NameKind)) : Bool := names.all fun p => (p.2 == .local || p.2 == .free || p.2 == .globalImplicit) && names.lookup p.1 == some p.2
noncomputable def ownsOfC (names : List (Str × NameKind)) : List Str := (names.filter fun p => p.2 == .cell).map (·.1)
noncomputable def compSgC (names : List (Str × NameKind)) : Sg := ⟨names, locsOf names, ownsOfC names ++ freesOf names⟩
noncomputable def compNamesOkC (names : List (Str × NameKind)) : Bool := (ownsOfC names).length == 1 && names.all fun p => (p.2 == .local || p.2 == .free || p.2 == .globalImplicit || p.2 == .cell) && names.lookup p.1 == some p.2 && p.1 != ("__classdict__" : Str)
noncomputable def trC : Const → Option CE
  | .none => some (.val .none)
  | .bool b => some (.val (.bool b))
  | .int i => some (.val (.int i 0))
  | .str x => some (.val (.str x 0))
  | _ => none
noncomputable def trN (gl : List (Str × Value)) (σ : Sg) (x : Str) : Option CE := bif x == ("__debug__" : Str) then none else match trP σ x with
  | some p => some (.var p)
  | none => bif σ.names.lookup x == some .globalImplicit then (gl.lookup x).map .val else none
noncomputable def trU (op : UnaryOp) (x : Option CE) : Option CE := match op with
  | .USub => x.map .neg
  | .Not => x.map fun a => .ofB (.not (.tr a))
  | _ => none
noncomputable def cmpE (f : Expr → Option CE) (l : Expr) (ops : List CmpOp) (rs : List Expr) : Option CB := match ops with
  | [] => none
  | op :: ops => match rs with
    | [] => none
    | r :: rs => match ops with
      | [] => (match rs with
        | [] => bif behindInMarks op r then none else (f l).bind fun a => (f r).bind fun b => some (.cmp op a b)
        | _ :: _ => none)
      | o2 :: ops => match rs with
        | [] => none
        | r2 :: rs => match ops with
          | [] => (match rs with
            | [] => bif behindInMarks o2 r2 then none else (f l).bind fun a => (f r).bind fun b => (f r2).bind fun c => some (.cmp2 op o2 a b c)
            | _ :: _ => none)
          | _ :: _ => none
noncomputable def trO (f : Expr → Option CE) : Option Expr → Option CE
  | none => some (.val .none)
  | some e => f e
noncomputable def trCall (AT : Names) (f : Expr → Option CE) (g : Expr) (args : List Expr) (pos : Pos) : Option CE := match g with
  | .Attribute o name apos => bif plainBase o && apos.endLine == pos.line && decide (args.length < 30) then (AT.idxOf? name).bind fun i => (f o).bind fun a => (trL f args).bind fun as => some (.meth a i as) else none
  | .Name x p => (f (.Name x p)).bind fun a => (trL f args).bind fun as => some (.call a as)
  | _ => none
noncomputable def trSub (f : Expr → Option CE) (o i : Expr) : Option CE := match i with
  | .Slice l u st _ => (f o).bind fun a => (trO f l).bind fun l => (trO f u).bind fun u => (trO f st).bind fun st => some (.slice a l u st)
  | i => (f o).bind fun a => (f i).bind fun b => some (.sub a b)
noncomputable def trIf (fB : Sg → Expr → Option CB) (σ : Sg) : List Expr → Option CB
  | [] => some CB.tt
  | [c] => fB σ c
  | _ => none
noncomputable def trLC (fE : Sg → Expr → Option CE) (fB : Sg → Expr → Option CB) (σ : Sg) (elt : Expr) (gens : List Comprehension) (scope : Scope) : Option CE := match gens with
  | [] => none
  | g :: r => bif r.isEmpty && g.is_async == 0 && notSet g.iter && scope.kind == .function && compNamesOk scope.names then
      (fE σ g.iter).bind fun it => (trT (compSg scope.names) g.target).bind fun t => (trIf fB (compSg scope.names) g.ifs).bind fun c => (fE (compSg scope.names) elt).bind fun e =>
        (trL (fun (x : Str) => (if x == ("__classdict__" : Str) then none else σ.cels.idxOf? x)) (freesOf scope.names)).bind fun caps => some (.comp e t it c (locsOf scope.names).length caps) else none
noncomputable def trLCC (fE : Sg → Expr → Option CE) (fB : Sg → Expr → Option CB) (σ : Sg) (elt : Expr) (gens : List Comprehension) (scope : Scope) : Option CE := match gens with
  | [] => none
  | g :: r => bif r.isEmpty && g.is_async == 0 && notSet g.iter && scope.kind == .function && compNamesOkC scope.names then
      (fE σ g.iter).bind fun it => (trT (compSgC scope.names) g.target).bind fun t => (trIf fB (compSgC scope.names) g.ifs).bind fun c => (fE (compSgC scope.names) elt).bind fun e =>
        (trL (fun (x : Str) => (if x == ("__classdict__" : Str) then none else σ.cels.idxOf? x)) (freesOf scope.names)).bind fun caps => some (.compC e t it c (locsOf scope.names).length 1 caps) else none
noncomputable def trLC2 (fE : Sg → Expr → Option CE) (fB : Sg → Expr → Option CB) (σ : Sg) (elt : Expr) (gens : List Comprehension) (scope : Scope) : Option CE := match trLC fE fB σ elt gens scope with
  | some c => some c
  | none => trLCC fE fB σ elt gens scope
noncomputable def notCC : CE → Bool
  | .compC _ _ _ _ _ _ _ => false
  | _ => true
noncomputable def stepE (AT : Names) (gl : List (Str × Value)) (fE : Sg → Expr → Option CE) (fB : Sg → Expr → Option CB) (σ : Sg) : Expr → Option CE
  | .Constant c _ _ => trC c
  | .Name x _ => trN gl σ x
  | .BinOp l op r _ => (fE σ l).bind fun a => (fE σ r).bind fun b => some (.bin op a b)
  | .UnaryOp op x _ => trU op (fE σ x)
  | .BoolOp op vs _ => (trL (fE σ) vs).bind (foldE op)
  | .Compare l ops rs _ => (cmpE (fE σ) l ops rs).map .ofB
  | .IfExp t a b _ => (fB σ t).bind fun t => (fE σ a).bind fun a => (fE σ b).bind fun b => some (.ite t a b)
  | .Call f args kws pos => bif kws.isEmpty then trCall AT (fE σ) f args pos else none
  | .Attribute o name _ => bif plainBase o then (AT.idxOf? name).bind fun i => (fE σ o).bind fun a => some (.attr a i) else none
  | .Subscript o i _ => trSub (fE σ) o i
  | .List es _ => bif decide (es.length ≤ 100) then (trL (fE σ) es).map .list else none
  | .Tuple es _ _ => bif decide (es.length ≤ 100) then (trL (fE σ) es).map .tup else none
  | .Dict ks vs _ => bif ks.length == vs.length && decide (ks.length ≤ 15) then (intKeys ks).bind fun js => (trL (fE σ) vs).map fun as => .dict js as else none
  | .ListComp elt gens scope _ => trLC2 fE fB σ elt gens scope
  | _ => none
noncomputable def plainTest (e : Expr) : Bool := e.ctorIdx != 3 && e.ctorIdx != 0 && e.ctorIdx != 5 && e.ctorIdx != 15 && e.ctorIdx != 22
noncomputable def stepB (fE : Sg → Expr → Option CE) (fB : Sg → Expr → Option CB) (σ : Sg) (e : Expr) : Option CB := bif plainTest e then (fE σ e).map .tr else match e with
  | .UnaryOp op x p => (match op with
    | .Not => (fB σ x).map .not
    | _ => (fE σ (.UnaryOp op x p)).map .tr)
  | .BoolOp op vs _ => (trL (fB σ) vs).bind (foldB op)
  | .IfExp t a b _ => (fB σ t).bind fun t => (fB σ a).bind fun a => (fB σ b).bind fun b => some (.ite t a b)
  | .Compare l ops rs _ => cmpE (fE σ) l ops rs
  | _ => none
structure TrF where
  E : Sg → Expr → Option CE
  B : Sg → Expr → Option CB
noncomputable def trF (AT : Names) (gl : List (Str × Value)) : Nat → TrF
  | 0 => ⟨fun z9 z9 => none, fun z9 z9 => none⟩
  | n + 1 => ⟨stepE AT gl (trF AT gl n).E (trF AT gl n).B, stepB (trF AT gl n).E (trF AT gl n).B⟩
noncomputable abbrev trE (AT : Names) (gl : List (Str × Value)) (n : Nat) : Sg → Expr → Option CE := (trF AT gl n).E
noncomputable abbrev trB (AT : Names) (gl : List (Str × Value)) (n : Nat) : Sg → Expr → Option CB := (trF AT gl n).B
theorem bnd {α β : Type} {o : Option α} {f : α → Option β} {r : β} (h : o.bind f = some r) : ∃ a, o = some a ∧ f a = some r := Option.bind_eq_some_iff.mp h
theorem mpd {α β : Type} {o : Option α} {f : α → β} {r : β} (h : o.map f = some r) : ∃ a, o = some a ∧ f a = r := Option.map_eq_some_iff.mp h
theorem cnd {β : Type} {c : Bool} {x : Option β} {r : β} (h : (bif c then x else none) = some r) : c = true ∧ x = some r := by
  cases c with
  | true => exact ⟨rfl, h⟩
  | false => wide_open using h
theorem cnd' {β : Type} {c : Bool} {x : Option β} {r : β} (h : (bif c then none else x) = some r) : c = false ∧ x = some r := by
  cases c with
  | true => wide_open using h
  | false => exact ⟨rfl, h⟩
structure FrOK (σ : Sg) (cs : List Addr) (cd : Value) (env : Env) : Prop where
  kind : env.scope.kind = .function
  kloc : ∀ x, σ.names.lookup x = some .local → env.kindOf x = some .local
  kcel : ∀ x, σ.names.lookup x = some .cell ∨ σ.names.lookup x = some .free → env.kindOf x = some .cell ∨ env.kindOf x = some .free
  kglo : ∀ x, σ.names.lookup x = some .globalImplicit → env.kindOf x = some .globalImplicit
  cel : ∀ x i, σ.cels.idxOf? x = some i → ∃ c, env.cells.lookup x = some c ∧ cs[i]? = some c
  ncd : ∀ x, σ.names.lookup x = some .cell → env.kindOf x = some .free → x ≠ ("__classdict__" : Str)
  glob : env.globals = mainGlobals
  blt : env.builtins = builtinsNs
  code : env.code = cd
set_option tactic.hygienic true in
theorem var_ok {σ : Sg} {cs : List Addr} {cd : Value} {env : Env} {m : Mm} {x : Str} {p : CP} {v : Value} {Q : Value → Shared → Prop} (F : FrOK σ cs cd env) (hL : H env.locals = some (.frame σ.locs m)) (D : Disj H G) (R : W.R (H.un G) s)
    (hp : trP σ x = some p) (hv : getP cs m p G = some v) (q : ∀ v', er v' = v → Q v' s) : WP W A (loadName env x) Q s := by
  unfold trP at hp
  have cell : ∀ {i}, σ.cels.idxOf? x = some i → CP.cel i = p → ∃ c v', env.cells.lookup x = some c ∧ s.heap.IsCell c (some v') ∧ er v' = v := by
    rintro i hi rfl
    refine o_EA (F.cel x i hi) fun c h1 h2 => ?_
    unfold getP at hv
    dsimp only at hv
    rw [h2] at hv
    dsimp only at hv
    split at hv
    · rename_i o hg
      refine o_EEA (R.at (GH.un_right hg)) fun z9 v' h3 h4 => ?_
      subst h4
      refine o_EA (Option.map_eq_some_iff.mp hv) fun y e92 e => ?_; subst e92
      exact (i_EEAA c y h1 h3 e)
    · wide_open using hv
  split at hp
  · rename_i hk
    refine o_EA (Option.map_eq_some_iff.mp hp) fun i hi e93 => ?_; subst e93
    have hU : (H.un G) env.locals = some (.frame σ.locs m) := by wide_open with GH.un_left (D.left hL); exact hL
    refine o_EEA (R.at hU) fun z9 mm hn hm => ?_
    have h1 := hm x i v hi hv
    refine o_EA (Option.map_eq_some_iff.mp h1) fun y h2 e => ?_
    exact wpAny_loadName_local F.kind (F.kloc x hk) hn h2 (q y e)
  · rename_i hk
    refine o_EA (Option.map_eq_some_iff.mp hp) fun i hi e93 => ?_; subst e93
    refine o_EEAA (cell hi rfl) fun c v' h1 h2 e => ?_
    rcases F.kcel x (.inl hk) with h | h
    · exact wpAny_loadName_cell F.kind h h1 h2 (q v' e)
    · exact wpAny_loadName_free F.kind h h1 h2 (q v' e) (by simpa using F.ncd x hk h)
  · rename_i hk
    split at hp
    · wide_open using hp
    · rename_i hc
      refine o_EA (Option.map_eq_some_iff.mp hp) fun i hi e93 => ?_; subst e93
      refine o_EEAA (cell hi rfl) fun c v' h1 h2 e => ?_
      rcases F.kcel x (.inr hk) with h | h
      · exact wpAny_loadName_cell F.kind h h1 h2 (q v' e)
      · exact wpAny_loadName_free F.kind h h1 h2 (q v' e) (by simpa using hc)
  · wide_open using hp
theorem glob_ok {mg mb : Str → Option Value} (O : WdOK W mg mb) {σ : Sg} {cs : List Addr} {cd : Value} {env : Env} {x : Str} {v : Value} {Q : Value → Shared → Prop} (F : FrOK σ cs cd env) (R : W.R (H.un G) s)
    (hk : σ.names.lookup x = some .globalImplicit) (hv : W.globs.lookup x = some v) (q : ∀ v', er v' = v → Q v' s) {pos : Pos} (hd : (x == ("__debug__" : Str)) = false) : WP W A (eval (.Name x pos) env) Q s := by
  refine Calls.Name_function_global F.kind (F.kglo x hk) ?_ hd
  have g := O.hmg.keeps R.keep
  have b := O.hmb.keeps R.keep
  rw [← F.glob] at g
  rw [← F.blt] at b
  rcases O.glob x v hv with ⟨v', h1, h2⟩ | ⟨h0, v', h1, h2⟩
  · exact Calls.loadGlobal_global g h1 (q v' h2)
  · exact Calls.loadGlobal_builtin g h0 b h1 (q v' h2)
end Mine
end
section
open PySem PySem.W PySem.Calls PyProof.Rows
namespace Mine
variable {W : Wd} {n : Nat}
structure In (W : Wd) (A : Around) (n : Nat) (σ : Sg) (cs : List Addr) (cd : Value) (env : Env) (m : Mm) (H : GH) : Prop where
  room : Room A n
  fr : FrOK σ cs cd env
  loc : H env.locals = some (.frame σ.locs m)
noncomputable def SE (W : Wd) (σ : Sg) (e : Expr) (ce : CE) : Prop := ∀ A n cs cd env m H G s (K : KV), In W A n σ cs cd env m H → Disj H G → W.R (H.un G) s → wpE W n cs m ce G K →
  WP W A (eval e env) (Post W H fun v => K (er v)) s
noncomputable def SB (W : Wd) (σ : Sg) (e : Expr) (cb : CB) : Prop := ∀ A n cs cd env m H G s (K : Bool → GH → Prop), In W A n σ cs cd env m H → Disj H G → W.R (H.un G) s → wpB W n cs m cb G K →
  WP W A (isTrue e env (eval e env)) (Post W H K) s
noncomputable def SEs (W : Wd) (σ : Sg) (es : List Expr) (ces : List CE) : Prop := ∀ A n cs cd env m H G s pos (K : List Value → GH → Prop), In W A n σ cs cd env m H → Disj H G → W.R (H.un G) s → wpEs W n cs m ces G K →
  (backTo pos (starEach es env)).any (·.1) = false ∧ es.length = ces.length ∧ WP W A (spliced (backTo pos (starEach es env))) (fun vs s' => vs.length = es.length ∧ Post W H (fun vs => K (vs.map er)) vs s') s
theorem SE.use {σ e ce} (h : SE W σ e ce) {A n cs cd env m H G s} {K : KV} (I : In W A n σ cs cd env m H) (D : Disj H G) (R : W.R (H.un G) s) (w : wpE W n cs m ce G K) : WP W A (eval e env) (Post W H fun v => K (er v)) s := h _ _ _ _ _ _ _ _ _ _ I D R w
theorem SB.use {σ e cb} (h : SB W σ e cb) {A n cs cd env m H G s} {K : Bool → GH → Prop} (I : In W A n σ cs cd env m H) (D : Disj H G) (R : W.R (H.un G) s) (w : wpB W n cs m cb G K) : WP W A (isTrue e env (eval e env)) (Post W H K) s := h _ _ _ _ _ _ _ _ _ _ I D R w
theorem SEs.use {σ es ces} (h : SEs W σ es ces) {A n cs cd env m H G s} (pos : Pos) {K : List Value → GH → Prop} (I : In W A n σ cs cd env m H) (D : Disj H G) (R : W.R (H.un G) s) (w : wpEs W n cs m ces G K) :
  (backTo pos (starEach es env)).any (·.1) = false ∧ es.length = ces.length ∧ WP W A (spliced (backTo pos (starEach es env))) (fun vs s' => vs.length = es.length ∧ Post W H (fun vs => K (vs.map er)) vs s') s := h _ _ _ _ _ _ _ _ _ _ _ I D R w
theorem trL_cons {α β : Type} {f : α → Option β} {e : α} {es : List α} {r : List β} (h : trL f (e :: es) = some r) : ∃ a r', f e = some a ∧ trL f es = some r' ∧ r = a :: r' := by
  have h : (match f e with
    | some a => (match trL f es with
      | some r => some (a :: r)
      | none => none)
    | none => none) = some r := h
  cases h1 : f e with
  | none => wide_line with h1 using h
  | some a =>
    cases h2 : trL f es with
    | none => rw [h1, h2] at h; wide_open using h
    | some r' => rw [h1, h2] at h; wide_open using h; exact (i_EEAA a r' rfl rfl rfl)
theorem star_cons {e : Expr} {es : List Expr} {env : Env} (h : ∀ x p, e ≠ .Starred x p) : starEach (e :: es) env = (false, eval e env) :: starEach es env := by
  cases e <;> first | rfl | exact absurd rfl (h _ _)
theorem trE_star {AT gl σ e ce} : ∀ {n}, trE AT gl n σ e = some ce → ∀ x p, e ≠ .Starred x p
  | 0, h, _, _, _ => by wide_open using h
  | n + 1, h, _, _, q => by subst q; wide_open using h
theorem star_any {AT : Names} {gl : List (Str × Value)} {k : Nat} {σ : Sg} {pos : Pos} {env : Env} : ∀ es ces, trL (trE AT gl k σ) es = some ces → (backTo pos (starEach es env)).any (·.1) = false ∧ es.length = ces.length
  | [], _, q => by wide_open using q; exact ⟨rfl, rfl⟩
  | e :: es, _, q => by
    refine o_EEAA (trL_cons q) fun a r q1 q2 e95 => ?_; subst e95
    obtain ⟨l1, l2⟩ := star_any es r q2
    wide_open with star_cons (trE_star q1)
    exact ⟨l1, congrArg (· + 1) l2⟩
theorem spl_ok {AT : Names} {gl : List (Str × Value)} {k : Nat} {σ : Sg} (ih : ∀ e ce, trE AT gl k σ e = some ce → SE W σ e ce) : ∀ es ces, trL (trE AT gl k σ) es = some ces → SEs W σ es ces
  | [], _, h, _, _, _, _, _, _, _, G, _, _, _, _, D, R, w => by
    wide_open using h
    exact (i_AA rfl rfl (spliced_nil (i_AEAA rfl G D R w)))
  | e :: es, _, h, A, n, cs, cd, env, m, H, G, s, pos, K, I, D, R, w => by
    have hh := star_any (pos := pos) (env := env) _ _ h
    refine (i_AA hh.1 hh.2 ?_)
    clear hh
    refine o_EEAA (trL_cons h) fun a r h1 h2 e95 => ?_; subst e95
    wide_open with star_cons (trE_star h1)
    refine Calls.spliced_cons (wpAny_mono ((ih e a h1).use I D R w) (fun v s' q => ?_) fun z9 z9 z => z)
    refine o_EAA q fun G1 D1 R1 w1 => ?_; try clear q
    refine wpAny_mono ((spl_ok ih es r h2).use pos I D1 R1 w1).2.2 (fun vs s'' q => ?_) fun z9 z9 z => z
    refine o_AEAA q fun hl G2 D2 R2 w2 => ?_; try clear q
    exact (i_AEAA (congrArg (· + 1) hl) G2 D2 R2 w2)
theorem boolOp_two (pos : Pos) (op : BoolOp) (x y : Sem Value) (l : List (Sem Value)) : boolOp pos op (x :: y :: l) = (do
    let v ← x
    standAt pos
    let t ← holding [v] (truthy v)
    match op, t with
    | .And, false | .Or, true => pure v
    | _, _ => boolOp pos op (y :: l)) := rfl
theorem compareChain_two (pos : Pos) (left : Value) (op o2 : CmpOp) (r r2 : Sem Value) : compareChain pos left [op, o2] [r, r2] = (do
    let rv ← holding [left] r
    standAt pos
    let c ← holding [left, rv] (compareOp op left rv)
    release [left, rv] [c]
    if ← holding [c, rv] (truthy c) then compareChain pos rv [o2] [r2] else pure c) := rfl
theorem testChain_two (pos : Pos) (left : Value) (op o2 : CmpOp) (r r2 : Sem Value) : testChain pos left [op, o2] [r, r2] = (do
    let rv ← holding [left] r
    standAt pos
    let c ← holding [left, rv] (compareOp op left rv)
    release [left, rv] [c]
    if ← holding [c, rv] (truthy c) then testChain pos rv [o2] [r2] else pure false) := rfl
set_option tactic.hygienic true in
theorem boolOp_ok {AT : Names} {gl : List (Str × Value)} {k : Nat} {σ : Sg} {op : BoolOp} {pos : Pos} (ih : ∀ e ce, trE AT gl k σ e = some ce → SE W σ e ce) : ∀ vs as ce, trL (trE AT gl k σ) vs = some as → foldE op as = some ce →
    ∀ A n cs cd env m H G s (K : KV), In W A n σ cs cd env m H → Disj H G → W.R (H.un G) s → wpE W n cs m ce G K → WP W A (boolOp pos op (evalEach vs env)) (Post W H fun v => K (er v)) s
  | [], as, ce, h, hf => by wide_open using h; wide_open using hf
  | [e], as, ce, h, hf => by
    refine o_EEAA (trL_cons h) fun a r h1 h2 e95 => ?_; subst e95
    wide_open using h2
    wide_open using hf
    intro A n cs cd env m H G s K I D R w
    exact (ih e _ h1).use I D R w
  | e :: e2 :: es, as, ce, h, hf => by
    refine o_EEAA (trL_cons h) fun a r h1 h2 e95 => ?_; subst e95
    refine o_EEAA (trL_cons h2) fun a2 r2 h3 h4 e95 => ?_; subst e95
    simp only [foldE] at hf
    split at hf
    · rename_i b hb
      have ih2 := boolOp_ok (op := op) (pos := pos) ih (e2 :: es) _ b h2 hb
      wide_open using hf
      intro A n cs cd env m H G s K I D R w
      refine (?_ : WP W A (boolOp pos op (eval e env :: eval e2 env :: evalEach es env)) _ s)
      wide_open with boolOp_two
      cases op with
      | And =>
        refine wpAny_bind (wpAny_mono ((ih e a h1).use I D R w) (fun v s' q => ?_) fun z9 z9 z => z)
        refine o_EAA q fun G1 D1 R1 w1 => ?_; try clear q
        refine wpAny_bind (wpAny_standAt (wpAny_bind (wpAny_holding (wpAny_mono (truth_ok rfl D1 R1 w1) (fun t s'' q => ?_) fun z9 z9 z => z))))
        refine o_EAA q fun G2 D2 R2 w2 => ?_; try clear q
        cases t with
        | false => exact wpAny_pure (i_EAA G2 D2 R2 w2)
        | true => exact ih2 _ _ _ _ _ _ _ _ _ _ I D2 R2 w2
      | Or =>
        refine wpAny_bind (wpAny_mono ((ih e a h1).use I D R w) (fun v s' q => ?_) fun z9 z9 z => z)
        refine o_EAA q fun G1 D1 R1 w1 => ?_; try clear q
        refine wpAny_bind (wpAny_standAt (wpAny_bind (wpAny_holding (wpAny_mono (truth_ok rfl D1 R1 w1) (fun t s'' q => ?_) fun z9 z9 z => z))))
        refine o_EAA q fun G2 D2 R2 w2 => ?_; try clear q
        cases t with
        | true => exact wpAny_pure (i_EAA G2 D2 R2 w2)
        | false => exact ih2 _ _ _ _ _ _ _ _ _ _ I D2 R2 w2
    · wide_open using hf
set_option tactic.hygienic true in
theorem allTrue_ok {AT : Names} {gl : List (Str × Value)} {k : Nat} {σ : Sg} {op : BoolOp} (ih : ∀ e ce, trB AT gl k σ e = some ce → SB W σ e ce) : ∀ vs as ce, trL (trB AT gl k σ) vs = some as → foldB op as = some ce →
    ∀ A n cs cd env m H G s (K : Bool → GH → Prop), In W A n σ cs cd env m H → Disj H G → W.R (H.un G) s → wpB W n cs m ce G K → WP W A (allTrue op vs env) (Post W H K) s
  | [], as, ce, h, hf => by wide_open using h; wide_open using hf
  | [e], as, ce, h, hf => by
    refine o_EEAA (trL_cons h) fun a r h1 h2 e95 => ?_; subst e95
    wide_open using h2
    wide_open using hf
    intro A n cs cd env m H G s K I D R w
    wide_open with arm_allTrue_cons
    refine wpAny_bind (wpAny_mono ((ih e _ h1).use I D R w) (fun t s' q => ?_) fun z9 z9 z => z)
    cases op <;> cases t <;> exact wpAny_pure q
  | e :: e2 :: es, as, ce, h, hf => by
    refine o_EEAA (trL_cons h) fun a r h1 h2 e95 => ?_; subst e95
    refine o_EEAA (trL_cons h2) fun a2 r2 h3 h4 e95 => ?_; subst e95
    simp only [foldB] at hf
    split at hf
    · rename_i b hb
      have ih2 := allTrue_ok (op := op) ih (e2 :: es) _ b h2 hb
      wide_open using hf
      intro A n cs cd env m H G s K I D R w
      wide_open with arm_allTrue_cons
      cases op with
      | And =>
        refine wpAny_bind (wpAny_mono ((ih e a h1).use I D R w) (fun t s' q => ?_) fun z9 z9 z => z)
        refine o_EAA q fun G1 D1 R1 w1 => ?_; try clear q
        cases t with
        | false => exact wpAny_pure (i_EAA G1 D1 R1 w1)
        | true => exact ih2 _ _ _ _ _ _ _ _ _ _ I D1 R1 w1
      | Or =>
        refine wpAny_bind (wpAny_mono ((ih e a h1).use I D R w) (fun t s' q => ?_) fun z9 z9 z => z)
        refine o_EAA q fun G1 D1 R1 w1 => ?_; try clear q
        cases t with
        | true => exact wpAny_pure (i_EAA G1 D1 R1 w1)
        | false => exact ih2 _ _ _ _ _ _ _ _ _ _ I D1 R1 w1
    · wide_open using hf
variable {A : Around} {H G : GH} {s : Shared}
theorem cmp_use {op : CmpOp} {va vb : Value} {K : Bool → GH → Prop} (hA : Room A n) (D : Disj H G) (R : W.R (H.un G) s) (h : cmpG W n op (er va) (er vb) G K) :
    WP W A (compareOp op va vb) (Post W H fun v G' => ∃ b, v = .bool b ∧ K b G') s := h A va vb hA rfl rfl H s trivial D R
theorem bin_use {op : Operator} {va vb : Value} {K : KV} (hA : Room A n) (D : Disj H G) (R : W.R (H.un G) s) (h : binG W n op (er va) (er vb) G K) :
    WP W A (binaryOp op va vb) (Post W H fun v => K (er v)) s := h A va vb hA rfl rfl H s trivial D R
theorem chain2_eq {o1 o2 : CmpOp} {r1 r2 : Expr} {env : Env} (h : behindInMarks o2 r2 = false) : markedEach [o1, o2] [r1, r2] (evalEach [r1, r2] env) = [eval r1 env, eval r2 env] := by
  refine (?_ : [eval r1 env, markedBehindIn o2 r2 (eval r2 env)] = _)
  unfold markedBehindIn
  wide_open with h
theorem cmp1_ok {σ : Sg} {l r : Expr} {op : CmpOp} {pos : Pos} {a b : CE} (hm : behindInMarks op r = false) (hl : SE W σ l a) (hr : SE W σ r b)
    {A n cs cd env m H G s} {K : Bool → GH → Prop} (I : In W A n σ cs cd env m H) (D : Disj H G) (R : W.R (H.un G) s) (w : wpE W n cs m a G fun x G1 => wpE W n cs m b G1 fun y G2 => cmpG W n op x y G2 K) :
    WP W A (eval (.Compare l [op] [r] pos) env) (Post W H fun v G' => ∃ b, v = .bool b ∧ K b G') s := by
  refine wpAny_Compare1 (wpAny_mono (hl.use I D R w) (fun x s' q => ?_) fun z9 z9 z => z) hm
  refine o_EAA q fun G1 D1 R1 w1 => ?_; try clear q
  refine wpAny_mono (hr.use I D1 R1 w1) (fun y s' q => ?_) fun z9 z9 z => z
  refine o_EAA q fun G2 D2 R2 w2 => ?_; try clear q
  exact cmp_use I.room D2 R2 w2
theorem cmp2_ok {σ : Sg} {l r1 r2 : Expr} {o1 o2 : CmpOp} {pos : Pos} {a b c : CE} (hm : behindInMarks o2 r2 = false) (hl : SE W σ l a) (hr1 : SE W σ r1 b) (hr2 : SE W σ r2 c)
    {A n cs cd env m H G s} {K : Bool → GH → Prop} (I : In W A n σ cs cd env m H) (D : Disj H G) (R : W.R (H.un G) s) (w : wpB W n cs m (.cmp2 o1 o2 a b c) G K) :
    WP W A (eval (.Compare l [o1, o2] [r1, r2] pos) env) (Post W H fun v G' => ∃ b, v = .bool b ∧ K b G') s ∧ ∀ whole, WP W A (isTrue (.Compare l [o1, o2] [r1, r2] pos) env whole) (Post W H K) s := by
  constructor
  · (wide_line using arm_eval_Compare; wide_open with chain2_eq hm)
    refine wpAny_bind (wpAny_mono (hl.use I D R w) (fun x s' q => ?_) fun z9 z9 z => z)
    refine o_EAA q fun G1 D1 R1 w1 => ?_; try clear q
    wide_open with compareChain_two
    refine wpAny_bind (wpAny_holding (wpAny_mono (hr1.use I D1 R1 w1) (fun y s' q => ?_) fun z9 z9 z => z))
    refine o_EAA q fun G2 D2 R2 w2 => ?_; try clear q
    refine wpAny_bind (wpAny_standAt (wpAny_bind (wpAny_holding (wpAny_mono (cmp_use I.room D2 R2 w2) (fun t s' q => ?_) fun z9 z9 z => z))))
    refine o_EAAEA q fun G3 D3 R3 t' e95 w3 => ?_; try clear q; subst e95
    refine wpAny_bind (wpAny_release (wpAny_bind (wpAny_holding (wpAny_truthy_bool ?_))))
    cases t' with
    | false => exact wpAny_pure (i_EAAEA G3 D3 R3 false rfl w3)
    | true =>
      wide_open with if_pos rfl
      refine wpAny_bind (wpAny_holding (wpAny_mono (hr2.use I D3 R3 w3) (fun z s' q => ?_) fun z9 z9 z => z))
      refine o_EAA q fun G4 D4 R4 w4 => ?_; try clear q
      refine wpAny_bind (wpAny_standAt ?_)
      exact wpAny_operating (cmp_use I.room D4 R4 w4)
  · intro whole
    (wide_line using arm_isTrue_Compare; wide_open with chain2_eq hm)
    refine wpAny_bind (wpAny_mono (hl.use I D R w) (fun x s' q => ?_) fun z9 z9 z => z)
    refine o_EAA q fun G1 D1 R1 w1 => ?_; try clear q
    wide_open with testChain_two
    refine wpAny_bind (wpAny_holding (wpAny_mono (hr1.use I D1 R1 w1) (fun y s' q => ?_) fun z9 z9 z => z))
    refine o_EAA q fun G2 D2 R2 w2 => ?_; try clear q
    refine wpAny_bind (wpAny_standAt (wpAny_bind (wpAny_holding (wpAny_mono (cmp_use I.room D2 R2 w2) (fun t s' q => ?_) fun z9 z9 z => z))))
    refine o_EAAEA q fun G3 D3 R3 t' e95 w3 => ?_; try clear q; subst e95
    refine wpAny_bind (wpAny_release (wpAny_bind (wpAny_holding (wpAny_truthy_bool ?_))))
    cases t' with
    | false => exact wpAny_pure (i_EAA G3 D3 R3 w3)
    | true =>
      wide_open with if_pos rfl
      refine wpAny_bind (wpAny_holding (wpAny_mono (hr2.use I D3 R3 w3) (fun z s' q => ?_) fun z9 z9 z => z))
      refine o_EAA q fun G4 D4 R4 w4 => ?_; try clear q
      refine wpAny_bind (wpAny_standAt (wpAny_bind ?_))
      refine wpAny_operating (wpAny_mono (cmp_use I.room D4 R4 w4) (fun t s' q => ?_) fun z9 z9 z => z)
      refine o_EAAEA q fun G5 D5 R5 t' e95 w5 => ?_; try clear q; subst e95
      exact wpAny_holding (wpAny_truthy_bool (i_EAA G5 D5 R5 w5))
end Mine
end
section
open PySem PySem.W PySem.Calls PyProof.Rows
namespace Mine
variable {W : Wd} {n : Nat} {A : Around} {H G : GH} {s : Shared}
noncomputable abbrev PostM (W : Wd) (H : GH) (L : Addr) (ls : List Str) (K : Mm → GH → Prop) (s' : Shared) : Prop := ∃ m' G', Disj H G' ∧ W.R ((H.set L (.frame ls m')).un G') s' ∧ K m' G'
theorem Disj.setL {L : Addr} {g o : GO} (D : Disj H G) (h : H L = some g) : Disj (H.set L o) G := D.setH (D.left h)
theorem In.same {σ : Sg} {cs : List Addr} {cd : Value} {env : Env} {m : Mm} (I : In W A n σ cs cd env m H) : H.set env.locals (.frame σ.locs m) = H := GH.set_same _ I.loc
theorem In.set {σ : Sg} {cs : List Addr} {cd : Value} {env : Env} {m m' : Mm} (I : In W A n σ cs cd env m H) : In W A n σ cs cd env m' (H.set env.locals (.frame σ.locs m')) := ⟨I.room, I.fr, GH.set_self _ _ _⟩
theorem Disj.unL {L : Addr} {g o : GO} (D : Disj (H.set L o) G) (h : H L = some g) : Disj H G := by
  intro a ha
  by_cases e : a = L
  · subst e; have := D a ha; wide_line with GH.set_self using this
  · have := D a ha; rwa [GH.set_ne _ _ e] at this
theorem idxOf?_lt {l : List Str} {x : Str} {i : Nat} (h : l.idxOf? x = some i) : i < l.length := (List.findIdx?_eq_some_iff_getElem.mp h).1
set_option tactic.hygienic true in
theorem store_ok {σ : Sg} {cs : List Addr} {cd : Value} {env : Env} {m : Mm} {x : Str} {p : CP} {v : Value} {K : Mm → GH → Prop} (I : In W A n σ cs cd env m H) (D : Disj H G) (R : W.R (H.un G) s)
    (hp : trP σ x = some p) (h : setP cs p (er v) m G K) : WP W A (storeName env x v) (fun z9 => PostM W H env.locals σ.locs K) s := by
  unfold trP at hp
  have cell : ∀ {i}, σ.cels.idxOf? x = some i → CP.cel i = p → ∃ c v₀, env.cells.lookup x = some c ∧ s.heap.IsCell c v₀ ∧ ∀ h', h'.IsCell c (some v) → Heap.SameBut c s.heap h' → PostM W H env.locals σ.locs K { s with heap := h' } := by
    rintro i hi rfl
    refine o_EA (I.fr.cel x i hi) fun c h1 h2 => ?_
    refine o_EEAA h fun c' y h3 h4 h5 => ?_; try clear h
    wide_line with h2 using h3
    refine o_EEA (R.at (GH.un_right h4)) fun z9 v' h6 h7 => ?_
    refine (i_EEAA c v' h1 h6 (fun h' z hs => (i_EEAA m _ (D.setG (D.right h4)) ?_ h5)))
    (wide_line using I.same; wide_open with GH.un_set)
    exact R.ext (GH.un_right h4) rfl rfl hs.extBut fun d z9 => (i_EA _ z rfl)
  split at hp
  · rename_i hk
    refine o_EA (Option.map_eq_some_iff.mp hp) fun i hi e93 => ?_; subst e93
    have gL : G env.locals = none := D.left I.loc
    have hU : (H.un G) env.locals = some (.frame σ.locs m) := by wide_open with GH.un_left gL; exact I.loc
    refine o_EEA (R.at hU) fun z9 mm hn hm => ?_
    refine o_EA (optG.ex h) fun z9 hx hK => ?_
    have hlt := (List.getElem?_eq_some_iff.mp hx).1
    refine wpAny_storeName_local (I.fr.kloc x hk) hn (fun h' hn' hs => (i_EEAA _ G D ?_ hK)) (by wide_open with I.fr.kind; rfl)
    wide_open with GH.set_un _ gL
    refine R.ext hU rfl rfl hs.extBut fun d z9 => (i_EA _ hn' (fun y j w hy hw => ?_))
    by_cases e : y = x
    · subst e
      wide_line with hi using hy
      simp only [List.getElem?_set_self hlt, Option.join_some] at hw
      wide_open using hw
      simp
    · simp only [e, if_false]
      have hij : i ≠ j := by rintro rfl; exact e (idxOf?_inj hy hi)
      rw [List.getElem?_set_ne hij] at hw
      exact hm y j w hy hw
  · rename_i hk
    refine o_EA (Option.map_eq_some_iff.mp hp) fun i hi e93 => ?_; subst e93
    refine o_EEAA (cell hi rfl) fun c v₀ h1 h2 h3 => ?_
    have hkk := I.fr.kind
    rcases I.fr.kcel x (.inl hk) with h | h
    · exact wpAny_storeName_cell I.fr.kind h h1 h2 h3
    · unfold storeName
      simp only [h, I.fr.kind]
      exact wpAny_bind (wpAny_cellOf h1 (wpAny_cellSet h2 h3))
  · rename_i hk
    split at hp
    · wide_open using hp
    · refine o_EA (Option.map_eq_some_iff.mp hp) fun i hi e93 => ?_; subst e93
      refine o_EEAA (cell hi rfl) fun c v₀ h1 h2 h3 => ?_
      rcases I.fr.kcel x (.inr hk) with h | h
      · exact wpAny_storeName_cell I.fr.kind h h1 h2 h3
      · unfold storeName
        simp only [h, I.fr.kind]
        exact wpAny_bind (wpAny_cellOf h1 (wpAny_cellSet h2 h3))
  · wide_open using hp
theorem draw_ok {a : Addr} : ∀ (xs ys : List Value) {k : IterK} {chk : GH → Prop} {H : GH} {s : Shared}, Disj H G → W.R (H.un G) s → H a = some (.iter k) → k.Rel (xs ++ ys) chk → chk G →
    WP W A (draw (.ref a) xs.length) (fun r s' => ∃ k', r.map er = xs ∧ k'.Rel ys chk ∧ W.R ((H.set a (.iter k')).un G) s') s
  | [], ys, k, chk, H, s, D, R, hk, hr, hc => wpAny_pure (i_EAA k rfl hr (by wide_open with GH.set_same _ hk; exact R))
  | x :: xs, ys, k, chk, H, s, D, R, hk, hr, hc => by
    refine (?_ : WP W A (pyNext (.ref a) >>= _) _ s)
    refine wpAny_bind (wpAny_mono (next_item D R hk hr hc) (fun r s' q => ?_) fun z9 z9 z => z)
    refine o_EEAAA q fun v k' e93 e94 hr' R' => ?_; try clear q; subst e93; subst e94
    refine wpAny_bind (wpAny_holding (wpAny_mono (draw_ok xs ys (D.setH (D.left hk)) R' (GH.set_self _ _ _) hr' hc) (fun r s'' q => ?_) fun z9 z9 z => z))
    refine o_EAA q fun k2 e hr2 R2 => ?_; try clear q
    rw [GH.set_set] at R2
    exact wpAny_pure (i_EAA k2 (by simp [e]) hr2 R2)
set_option tactic.hygienic true in
theorem iterable_ok {v : Value} {xs : List Value} (R : W.R (H.un G) s) (h : itemsG (er v) G = some xs) {Q : Bool → Shared → Prop} (q : Q false s) : WP W A (notIterableAtAll v) Q s := by
  cases v with
  | ref a =>
    simp only [itemsG, er] at h
    unfold notIterableAtAll
    split at h
    · rename_i ys hg
      wide_open using h
      refine o_EA (R.tup (GH.un_right hg)) fun vs hl z9 => ?_
      exact wpAny_bind (wpAny_specialOf hl.typeIs F.slot_tuple_iter.lookup (wpAny_pure q))
    · rename_i ys hg
      wide_open using h
      refine o_EA (R.list (GH.un_right hg)) fun vs hl z9 => ?_
      exact wpAny_bind (wpAny_specialOf hl.isList.typeIs slot_list_iter.lookup (wpAny_pure q))
    · wide_open using h
  | _ => wide_open using h
set_option tactic.hygienic true in
theorem unpackItems_ok {v : Value} {xs : List Value} (hA : A.handled = none) (D : Disj H G) (R : W.R (H.un G) s) (h : itemsG (er v) G = some xs) :
    WP W A (unpackItems v xs.length none) (fun r s' => r.map er = xs ∧ W.R (H.un G) s') s := by
  have hi : iterG (er v) G fun ys chk => ys = xs := by
    cases v with
    | ref a =>
      simp only [itemsG, er] at h
      simp only [iterG, er]
      split at h
      · rename_i ys hg; wide_open using h; wide_open with hg
      · rename_i ys hg; wide_open using h; wide_open with hg
      · wide_open using h
    | _ => wide_open using h
  unfold unpackItems
  refine wpAny_bind (wpAny_mono (iterable_ok R h (Q := fun b s' => b = false ∧ s' = s) ⟨rfl, rfl⟩) (fun b s' q => ?_) fun z9 z9 z => z)
  obtain ⟨rfl, rfl⟩ := q
  simp only [Bool.false_eq_true, if_false]
  refine wpAny_bind (wpAny_holding (wpAny_mono (iter_ok rfl D R hi) (fun r s' q => ?_) fun z9 z9 z => z))
  refine o_EEEEAAAAAA q fun a k ys chk e95 ha ga R1 hr hc e911 => ?_; try clear q; subst e95; subst e911
  have D1 : Disj (H.set a (.iter k)) G := D.setH ga
  refine wpAny_bind (wpAny_holding (wpAny_mono (draw_ok ys [] D1 R1 (GH.set_self _ _ _) (by simpa using hr) hc) (fun r s' q => ?_) fun z9 z9 z => z))
  refine o_EAA q fun k2 e hr2 R2 => ?_; try clear q
  have hl : r.length = ys.length := by ((first | refine e ▸ ?_ | rewrite [← e]); try with_reducible rfl); simp
  wide_open with if_neg (by lia)
  rw [GH.set_set] at R2
  refine wpAny_bind (wpAny_holding (wpAny_mono (next_end hA (D.setH ga) R2 (GH.set_self _ _ _) hr2 hc) (fun z s' q => ?_) fun z9 z9 z => z))
  obtain ⟨rfl, R3⟩ := q
  have hd : (H.set a (.iter k2)).del a = H := by
    funext b; simp only [GH.del, GH.set]
    by_cases hb : b = a
    · simp [hb, ha]
    · simp [hb]
  rw [hd] at R3
  exact wpAny_pure ⟨e, R3⟩
theorem assign_names {σ : Sg} {env : Env} : ∀ (l : List Expr) (r : List CP), trL (nameP σ) l = some r → (assignEach l env).length = l.length ∧ (assignEach l env).findIdx? (·.1) = none
  | [], _, _ => ⟨rfl, rfl⟩
  | y :: l, _, q => by
    refine o_EEAA (trL_cons q) fun p2 r2 q1 q2 e95 => ?_; subst e95
    refine o_EEA (name_inv q1) fun x px e93 z9 => ?_; subst e93
    obtain ⟨i1, i2⟩ := assign_names l r2 q2
    have hy : assignEach (.Name x px :: l) env = (false, assign (.Name x px) env) :: assignEach l env := rfl
    wide_open with hy
    exact ⟨congrArg (· + 1) i1, by (wide_line using List.findIdx?_cons; wide_open with i2); rfl⟩
theorem setPs_ok {σ : Sg} {cs : List Addr} {cd : Value} {env : Env} : ∀ (es : List Expr) (ps : List CP) (vs : List Value) {m : Mm} {H G : GH} {s : Shared} {K : Mm → GH → Prop}, In W A n σ cs cd env m H → Disj H G → W.R (H.un G) s →
    trL (nameP σ) es = some ps → vs.length = ps.length → setPs cs ps (vs.map er) m G K →
    (assignEach es env).length = es.length ∧ (assignEach es env).findIdx? (·.1) = none ∧
    WP W A (assignInOrder ((assignEach es env).map (·.2)) vs) (fun z9 => PostM W H env.locals σ.locs K) s
  | [], ps, vs, m, H, G, s, K, I, D, R, h, hl, hs => by
    wide_open using h
    have : vs = [] := List.length_eq_zero_iff.mp hl
    subst this
    refine (i_AA rfl rfl (wpAny_assignInOrder_none (i_EEAA m G D (by wide_open with I.same; exact R) hs)))
  | e :: es, ps, vs, m, H, G, s, K, I, D, R, h, hl, hs => by
    refine o_EEAA (trL_cons h) fun p ps' h1 h2 e95 => ?_; subst e95
    cases vs with
    | nil => wide_open using hl
    | cons v vs =>
      simp only [List.length_cons, Nat.add_right_cancel_iff] at hl
      obtain ⟨x, px, rfl, h1⟩ := name_inv h1
      rw [List.map_cons, sPs_cons] at hs
      obtain ⟨r1, r2⟩ := assign_names (env := env) (.Name x px :: es) _ h
      refine (i_AA r1 r2 ?_)
      refine (?_ : WP W A (assignInOrder (assign (.Name x px) env :: (assignEach es env).map (·.2)) (v :: vs)) _ s)
      refine wpAny_assignInOrder_more ?_
      wide_open with arm_assign_Name
      refine wpAny_bind (wpAny_standAt (wpAny_bindName (wpAny_mono (store_ok I D R h1 hs) (fun z9 s' q => ?_) fun z9 z9 z => z)))
      refine o_EEAA q fun m' G' D' R' hs' => ?_; try clear q
      have I' := I.set (m' := m')
      refine wpAny_mono (setPs_ok es ps' vs I' (D'.setL I.loc) R' h2 hl hs').2.2 (fun z9 s'' q => ?_) fun z9 z9 z => z
      refine o_EEAA q fun m2 G2 D2 R2 k2 => ?_; try clear q
      rw [GH.set_set] at R2
      exact (i_EEAA m2 G2 (D2.unL I.loc) R2 k2)
set_option tactic.hygienic true in
theorem assign_ok {σ : Sg} {cs : List Addr} {cd : Value} {env : Env} {m : Mm} {t : Expr} {ct : CT} {v : Value} {K : Mm → GH → Prop} (I : In W A n σ cs cd env m H) (D : Disj H G) (R : W.R (H.un G) s)
    (ht : trT σ t = some ct) (h : setT cs ct (er v) m G K) : WP W A (assign t env v) (fun z9 => PostM W H env.locals σ.locs K) s := by
  cases t <;> try (wide_open using ht; done)
  · rename_i x px
    refine o_EA (Option.map_eq_some_iff.mp ht) fun p hp e93 => ?_; subst e93
    wide_open with arm_assign_Name
    exact wpAny_bind (wpAny_standAt (wpAny_bindName (store_ok I D R hp h)))
  · rename_i es x1 px
    refine o_EA (Option.map_eq_some_iff.mp ht) fun ps hp e93 => ?_; subst e93
    refine o_EAA h fun vs h1 h2 h3 => ?_; try clear h
    wide_open with arm_assign_Tuple
    refine wpAny_bind (wpAny_standAt ?_)
    unfold unpack
    have key : ∀ (ws : List Value) (s' : Shared), ws.map er = vs → W.R (H.un G) s' → (assignEach es env).length = vs.length ∧ (assignEach es env).findIdx? (·.1) = none ∧
        WP W A (assignInOrder ((assignEach es env).map (·.2)) ws) (fun z9 => PostM W H env.locals σ.locs K) s' := fun ws s' e R' => by
      subst e
      have hlen : es.length = ps.length := by
        clear h3 h2 ht
        induction es generalizing ps with
        | nil => wide_open using hp; rfl
        | cons y l il =>
          refine o_EEAA (trL_cons hp) fun p2 r2 q1 q2 e95 => ?_; subst e95
          simp [il r2 q2]
      have := setPs_ok es ps ws I D R' hp (by simpa using h2) h3
      exact (i_AA (by (wide_line using this.1; wide_open with hlen); simpa using h2.symm) this.2.1 this.2.2)
    obtain ⟨vs0, e0⟩ : ∃ ws : List Value, ws.map er = vs := by
      cases v with
      | ref a =>
        simp only [itemsG, er] at h1
        split at h1
        · rename_i ys hg; wide_open using h1; refine o_EAA (R.tup (GH.un_right hg)) fun ws z9 e z9 => ?_; exact ⟨_, e⟩
        · rename_i ys hg; wide_open using h1; refine o_EAA (R.list (GH.un_right hg)) fun ws z9 e z9 => ?_; exact ⟨_, e⟩
        · wide_open using h1
      | _ => wide_open using h1
    refine o_AA (key vs0 s e0 R) fun k1 k2 z9 => ?_
    (wide_line using k1; wide_open with k2)
    refine wpAny_bind (wpAny_holding (wpAny_mono (unpackItems_ok I.room.1 D R h1) (fun ws s' q => ?_) fun z9 z9 z => z))
    exact (key ws s' q.1 q.2).2.2
end Mine
end
section
open PySem PySem.W PySem.Calls PyProof.Rows
namespace Mine
variable {W : Wd} {n : Nat} {A : Around} {H G : GH} {s : Shared}
noncomputable def clos (env : Env) : List (Str × NameKind) → List (Str × Addr) → List (Str × Addr)
  | [], acc => acc
  | (x, k) :: r, acc => clos env r (if k == .free then (match env.cells.lookup x with | some c => (x, c) :: acc | none => acc) else acc)
theorem clos_pure (env : Env) : ∀ (names : List (Str × NameKind)) (acc : List (Str × Addr)), (∀ p ∈ names, p.2 = .free → ∃ c, env.cells.lookup p.1 = some c) →
    (forIn names acc fun x (r : List (Str × Addr)) => match x with
      | (name, kind) => if (kind == NameKind.free) = true then do let __do_lift ← cellOf env name; pure (ForInStep.yield ((name, __do_lift) :: r)) else pure (ForInStep.yield r)) = (pure (clos env names acc) : Sem _)
  | [], acc, _ => rfl
  | (x, k) :: r, acc, h => by
    wide_open with List.forIn_cons
    have ih := fun acc => clos_pure env r acc fun p hp => h p (List.mem_cons_of_mem _ hp)
    unfold clos
    by_cases hk : (k == NameKind.free) = true
    · obtain ⟨c, hc⟩ := h (x, k) List.mem_cons_self (by simpa using hk)
      have e : cellOf env x = pure c := by unfold cellOf; wide_open with hc
      simp only [hk, if_true, e, hc]
      exact ih _
    · simp only [hk, if_false]
      exact ih _
theorem closureFor_pure {scope : Scope} {env : Env} (h : ∀ p ∈ scope.names, p.2 = .free → ∃ c, env.cells.lookup p.1 = some c) : closureFor scope env = pure (clos env scope.names []) := by
  unfold closureFor
  have := clos_pure env scope.names [] h
  exact (congrArg (fun t => t >>= fun x => pure x) this).trans rfl
set_option tactic.hygienic true in
theorem clos_lookup {env : Env} : ∀ (names : List (Str × NameKind)) (acc : List (Str × Addr)) (x : Str) (c : Addr), (∀ p ∈ acc, env.cells.lookup p.1 = some p.2) → env.cells.lookup x = some c →
    ((x, NameKind.free) ∈ names ∨ (acc.lookup x).isSome = true) → (clos env names acc).lookup x = some c
  | [], acc, x, c, ha, hc, h => by
    rcases h with h | h
    · cases h
    · unfold clos
      obtain ⟨d, hd⟩ := Option.isSome_iff_exists.mp h
      have := ha _ (mem_of_lookup hd)
      dsimp only at this
      wide_line with hc using this; exact hd
  | (y, k) :: r, acc, x, c, ha, hc, h => by
    unfold clos
    refine clos_lookup r _ x c ?_ hc ?_
    · split
      · split
        · rename_i d hd
          intro p hp
          rcases List.mem_cons.mp hp with rfl | hp
          · exact hd
          · exact ha p hp
        · exact ha
      · exact ha
    · rcases h with h | h
      · rcases List.mem_cons.mp h with e | h
        · wide_open using e
          right
          simp [hc]
        · exact .inl h
      · right
        split
        · split
          · by_cases hxy : x = y
            · subst hxy; simp
            · have : (x == y) = false := by simpa using hxy
              simp [List.lookup_cons, this, h]
          · exact h
        · exact h
theorem freesOf_mem {names : List (Str × NameKind)} {x : Str} {i : Nat} (h : (freesOf names).idxOf? x = some i) : (x, NameKind.free) ∈ names := by
  have hlt := idxOf?_lt h
  have := (List.findIdx?_eq_some_iff_getElem.mp h).2.1
  have hx : (freesOf names)[i] = x := beq_iff_eq.mp this
  have hm : x ∈ freesOf names := hx ▸ List.getElem_mem hlt
  unfold freesOf at hm
  refine o_EA (List.mem_map.mp hm) fun p hp e => ?_
  obtain ⟨h1, h2⟩ := List.mem_filter.mp hp
  obtain ⟨y, k⟩ := p
  have : k = .free := by simpa using h2
  subst this
  wide_open using e
  exact h1
theorem compNames_kind {names : List (Str × NameKind)} (h : compNamesOk names = true) {p : Str × NameKind} (hp : p ∈ names) : (p.2 = .local ∨ p.2 = .free ∨ p.2 = .globalImplicit) ∧ names.lookup p.1 = some p.2 := by
  have := List.all_eq_true.mp h p hp
  simp only [Bool.and_eq_true, Bool.or_eq_true, beq_iff_eq] at this
  exact ⟨by rcases this.1 with (h | h) | h <;> simp [h], this.2⟩
theorem lookup_mem_kind {names : List (Str × NameKind)} {x : Str} {k : NameKind} (h : names.lookup x = some k) : (x, k) ∈ names := mem_of_lookup h
theorem relabel_lookup {env : Env} : ∀ {names : List (Str × NameKind)} {x : Str}, 
    ((names.map fun (n, k) => if (k == NameKind.free && env.scope.kind == .function && env.kindOf n == some .cell) then (n, NameKind.cell) else (n, k)).lookup x) =
      (names.lookup x).map fun k => if (k == NameKind.free && env.scope.kind == .function && env.kindOf x == some .cell) then NameKind.cell else k
  | [], _ => rfl
  | (n, k) :: r, x => by
    have ih := @relabel_lookup env r x
    simp only [List.map_cons]
    by_cases hx : x = n
    · subst hx
      by_cases hc : (k == NameKind.free && env.scope.kind == .function && env.kindOf x == some .cell) = true
      · wide_open with if_pos hc; simp only [List.lookup_cons, beq_self_eq_true, Option.map_some]; wide_open with if_pos hc
      · wide_open with if_neg hc; simp only [List.lookup_cons, beq_self_eq_true, Option.map_some]; wide_open with if_neg hc
    · have hb : (x == n) = false := by simpa using hx
      by_cases hc : (k == NameKind.free && env.scope.kind == .function && env.kindOf n == some .cell) = true
      · (wide_line using if_pos hc; wide_line using List.lookup_cons; wide_line using hb; wide_line using List.lookup_cons; wide_open with hb); exact ih
      · (wide_line using if_neg hc; wide_line using List.lookup_cons; wide_line using hb; wide_line using List.lookup_cons; wide_open with hb); exact ih
set_option tactic.hygienic true in
theorem comp_fr {σ : Sg} {cs : List Addr} {cd : Value} {env : Env} {scope : Scope} {caps : List Nat} {C : Addr} (F : FrOK σ cs cd env) (hk : scope.kind = .function) (hn : compNamesOk scope.names = true)
    (hc : trL (fun (x : Str) => (if x == ("__classdict__" : Str) then none else σ.cels.idxOf? x)) (freesOf scope.names) = some caps) :
    closureFor scope env = pure (clos env scope.names []) ∧
    FrOK (compSg scope.names) (caps.filterMap fun j => cs[j]?) cd (compEnvC scope (clos env scope.names []) C env) := by
  have caps_get : ∀ (l : List Str) (r : List Nat), trL (fun (x : Str) => (if x == ("__classdict__" : Str) then none else σ.cels.idxOf? x)) l = some r →
      (∀ x ∈ l, (x ≠ ("__classdict__" : Str) ∧ ∃ c, env.cells.lookup x = some c)) ∧ ∀ (x : Str) (i : Nat), l.idxOf? x = some i → ∃ c, env.cells.lookup x = some c ∧ (r.filterMap fun j => cs[j]?)[i]? = some c := by
    intro l
    induction l with
    | nil => intro r q; wide_open using q; exact ⟨(fun z9 h => (nomatch h)), fun x i h => by wide_open using h⟩
    | cons y l il =>
      intro r q
      refine o_EEAA (trL_cons q) fun j r' q1 q2 e95 => ?_; subst e95
      obtain ⟨i1, i2⟩ := il r' q2
      split at q1
      · wide_open using q1
      · rename_i hy
        refine o_EA (F.cel y j q1) fun c h1 h2 => ?_
        refine ⟨fun x hx => ?_, fun x i hx => ?_⟩
        · rcases List.mem_cons.mp hx with rfl | hx
          · exact (i_AE (by simpa using hy) c h1)
          · exact i1 x hx
        · have e : (j :: r').filterMap (fun j => cs[j]?) = c :: r'.filterMap fun j => cs[j]? := by (wide_line using List.filterMap_cons; wide_open with h2)
          wide_open with e
          by_cases hxy : x = y
          · subst hxy
            have : i = 0 := by
              have h0 : (x :: l).idxOf? x = some 0 := by simp [List.idxOf?, List.findIdx?_cons]
              wide_line with h0 using hx; rfl
            subst this
            exact (i_EA c h1 rfl)
          · have hb : (y == x) = false := by simpa using Ne.symm hxy
            have h0 : (y :: l).idxOf? x = (l.idxOf? x).map (· + 1) := by simp [List.idxOf?, List.findIdx?_cons, hb]
            rw [h0] at hx
            refine o_EA (Option.map_eq_some_iff.mp hx) fun i' hi' e93 => ?_; subst e93
            refine o_EA (i2 x i' hi') fun c' g1 g2 => ?_
            exact (i_EA c' g1 (by simpa using g2))
  obtain ⟨c1, c2⟩ := caps_get _ _ hc
  have free_mem : ∀ p ∈ scope.names, p.2 = .free → p.1 ∈ freesOf scope.names := fun p hp e => List.mem_map.mpr (i_EA p (List.mem_filter.mpr ⟨hp, by simp [e]⟩) rfl)
  have hcl := closureFor_pure (scope := scope) (env := env) fun p hp e => (c1 p.1 (free_mem p hp e)).2
  refine ⟨hcl, hk, fun x hx => ?_, fun x hx => ?_, fun x hx => ?_, fun x i hx => ?_, fun x hx hf => ?_, F.glob, F.blt, F.code⟩
  · refine (?_ : (relabel scope env).names.lookup x = _)
    unfold relabel
    have hx : scope.names.lookup x = some .local := hx
    (wide_line using relabel_lookup; wide_open with hx); rfl
  · refine (?_ : (relabel scope env).names.lookup x = _ ∨ (relabel scope env).names.lookup x = _)
    unfold relabel
    have hx : scope.names.lookup x = some .cell ∨ scope.names.lookup x = some .free := hx
    wide_open with relabel_lookup
    rcases hx with hx | hx
    · have := compNames_kind hn (lookup_mem_kind hx)
      simp at this
    · wide_open with hx
      simp only [Option.map_some]
      split <;> simp
  · refine (?_ : (relabel scope env).names.lookup x = _)
    unfold relabel
    have hx : scope.names.lookup x = some .globalImplicit := hx
    (wide_line using relabel_lookup; wide_open with hx); rfl
  · refine o_EA (c2 x i hx) fun c h1 h2 => ?_
    exact (i_EA c (clos_lookup scope.names [] x c (fun z9 h => nomatch h) h1 (.inl (freesOf_mem hx))) h2)
  · have hx : scope.names.lookup x = some .cell := hx
    have := compNames_kind hn (lookup_mem_kind hx)
    simp at this
theorem un_swap {a : Addr} {g : GO} (hG : G a = none) : GH.un (H.set a g) G = GH.un H (G.set a g) := by
  (wide_line using GH.set_un _ hG; wide_open with GH.un_set)
end Mine
end
section
open PySem PySem.W PySem.Calls PyProof.Rows
namespace Mine
variable {W : Wd} {n : Nat} {A : Around} {H G : GH} {s : Shared}
noncomputable def HS (H : GH) (C D I : Addr) (f l k : GO) : GH := fun a => if a = I then some k else if a = D then some l else if a = C then some f else H a
theorem HS_I {C D I : Addr} {f l k : GO} : HS H C D I f l k I = some k := by simp [HS]
theorem HS_D {C D I : Addr} {f l k : GO} (h : D ≠ I) : HS H C D I f l k D = some l := by simp [HS, h]
theorem HS_C {C D I : Addr} {f l k : GO} (h : C ≠ I) (h2 : C ≠ D) : HS H C D I f l k C = some f := by simp [HS, h, h2]
theorem HS_setI {C D I : Addr} {f l k k' : GO} : (HS H C D I f l k).set I k' = HS H C D I f l k' := by
  funext a; simp only [GH.set, HS]; split <;> rfl
theorem HS_setD {C D I : Addr} {f l l' k : GO} (h : D ≠ I) : (HS H C D I f l k).set D l' = HS H C D I f l' k := by
  funext a; simp only [GH.set, HS]
  by_cases h1 : a = D
  · subst h1; simp [h]
  · simp [h1]
theorem HS_setC {C D I : Addr} {f f' l k : GO} (h : C ≠ I) (h2 : C ≠ D) : (HS H C D I f l k).set C f' = HS H C D I f' l k := by
  funext a; simp only [GH.set, HS]
  by_cases h1 : a = C
  · subst h1; simp [h, h2]
  · simp [h1]
theorem HS_delI {C D I : Addr} {f l k : GO} (h : H I = none) (h1 : D ≠ I) (h2 : C ≠ I) : (HS H C D I f l k).del I = (H.set C f).set D l := by
  funext a; simp only [GH.del, GH.set, HS]
  by_cases e : a = I
  · subst e; simp [h, Ne.symm h1, Ne.symm h2]
  · simp [e]
theorem letOwned_ok {a : Addr} {k : IterK} {t : Expr} {v : Value} {Q : Unit → Shared → Prop} (D : Disj H G) (R : W.R (H.un G) s) (hk : H a = some (.iter k)) (q : Q () s) : WP W A (letOwnedTupleGo t (.ref a) v) Q s := by
  have hU : (H.un G) a = some (.iter k) := by wide_open with GH.un_left (D.left hk); exact hk
  obtain ⟨_, hit⟩ := R.at hU
  have key : ∀ b : Addr, WP W A (do
      let o ← load a
      match o.cls, o.data with
      | .type n, .fields vs =>
        if ["enumerate", "zip", "dict_itemiterator", "dict_reverseitemiterator", "odict_iterator", "itertools.zip_longest", "itertools.pairwise"].contains n && vs[0]? == some (rawInt b) then
          rule "for.unpacks-the-owned-tuple"
          updateField a 0 .none
      | _, _ => pure () : Sem Unit) Q s := by
    intro b
    cases k with
    | list l i =>
      refine o_EAA hit fun o h1 h2 h3 => ?_; try clear hit
      refine wpAny_bind (wpAny_load h1 ?_)
      (wide_line using h2; wide_open with h3)
      dsimp only
      wide_open with (if_neg (by wide_open with (show (["enumerate", "zip", "dict_itemiterator", "dict_reverseitemiterator", "odict_iterator", "itertools.zip_longest", "itertools.pairwise"].contains "list_iterator") = false from by decide); simp))
      exact wpAny_pure q
    | tup l i =>
      refine o_EAA hit fun o h1 h2 h3 => ?_; try clear hit
      refine wpAny_bind (wpAny_load h1 ?_)
      (wide_line using h2; wide_open with h3)
      dsimp only
      wide_open with (if_neg (by wide_open with (show (["enumerate", "zip", "dict_itemiterator", "dict_reverseitemiterator", "odict_iterator", "itertools.zip_longest", "itertools.pairwise"].contains "tuple_iterator") = false from by decide); simp))
      exact wpAny_pure q
    | range u w =>
      refine wpAny_bind (wpAny_load hit ?_)
      dsimp only
      wide_open with (if_neg (by wide_open with (show (["enumerate", "zip", "dict_itemiterator", "dict_reverseitemiterator", "odict_iterator", "itertools.zip_longest", "itertools.pairwise"].contains "range_iterator") = false from by decide); simp))
      exact wpAny_pure q
    | dict d i m ep =>
      refine o_EAA hit fun o h1 h2 h3 => ?_; try clear hit
      refine wpAny_bind (wpAny_load h1 ?_)
      (wide_line using h2; wide_open with h3)
      dsimp only
      wide_open with (if_neg (by wide_open with (show (["enumerate", "zip", "dict_itemiterator", "dict_reverseitemiterator", "odict_iterator", "itertools.zip_longest", "itertools.pairwise"].contains "dict_keyiterator") = false from by decide); simp))
      exact wpAny_pure q
  unfold letOwnedTupleGo
  cases t <;> first | exact wpAny_pure q | (cases v <;> first | exact wpAny_pure q | exact key _)
theorem weaken_frame {C : Addr} {ls : List Str} {m : Mm} {k : Nat} {U : GH} (R : W.R U s) (h : U C = some (.frame ls m)) : W.R (U.set C (.frame ls (List.replicate k none))) s := by
  refine Repr.ext (s := s) (h' := s.heap) (tk := s.toks) (dr := s.drawn) R h rfl rfl (Heap.ExtBut.refl _ _) fun d o => ?_
  refine o_EA o fun mm h1 z9 => ?_; try clear o
  refine (i_EA mm h1 (fun x i v z9 hv => ?_))
  rw [List.getElem?_replicate] at hv
  split at hv <;> wide_open using hv
theorem append_hid {D : Addr} {accs : List Value} {v : Value} (hD : H D = some (.list accs)) (hz : accs.length < sizeLine) (Dj : Disj H G) (R : W.R (H.un G) s) :
    WP W A (call (.builtin "list.append") [.ref D, v]) (fun z9 s' => W.R ((H.set D (.list (accs ++ [er v]))).un G) s') s := by
  have gD : G D = none := Dj.left hD
  have hU : (H.un G) D = some (.list accs) := by wide_open with GH.un_left gD; exact hD
  refine o_EAA (R.list hU) fun vs hl e93 hz' => ?_; subst e93
  have hz2 : vs.size < sizeLine := by simpa using hz
  refine wpAny_list_append_plain hl (fun h' hl' hs => ?_) (Nat.le_of_lt hz2)
  wide_open with GH.set_un _ gD
  exact R.ext hU rfl rfl hs.extBut fun d z9 => (i_EAA _ hl' (by simp) (by wide_open with Array.size_push; exact hz2))
section
variable {σ : Sg} {cs : List Addr} {cd : Value} {cenv : Env} {elt t iter : Expr} {ifs : List Expr} {scope : Scope} {pos : Pos} {ce : CE} {cb : CB} {ct : CT} {nl : Nat} {chk : GH → Prop} {K : KV} {D I : Addr}
noncomputable def turnC (W : Wd) (n : Nat) (cs : List Addr) (ct : CT) (cb : CB) (ce : CE) (nl : Nat) (x : Value) (G2 : GH) (kk : Option Value → GH → Prop) : Prop := setT cs ct x (List.replicate nl none) G2 fun m' G3 => wpB W n cs m' cb G3 fun c G4 => match c with
  | true => wpE W n cs m' ce G4 fun v G5 => kk (some v) G5
  | false => kk none G4
set_option tactic.hygienic true in
theorem compLoop_ok (hA : A.handled = none) (hR : Room A n) (hF : FrOK σ cs cd cenv) (helt : SE W σ elt ce) (hc : (ifs = [] ∧ cb = .tt) ∨ ∃ c0, ifs = [c0] ∧ SB W σ c0 cb) (ht : trT σ t = some ct)
    (hDI : D ≠ I) (hCI : cenv.locals ≠ I) (hCD : cenv.locals ≠ D) (hI0 : H I = none) (hD0 : H D = none)
    {xs accs : List Value} {m : Mm} {k : IterK} (hz : accs.length + xs.length ≤ 8000000) (Dj : Disj (HS H cenv.locals D I (.frame σ.locs m) (.list accs) (.iter k)) G) (R : W.R ((HS H cenv.locals D I (.frame σ.locs m) (.list accs) (.iter k)).un G) s)
    (hk : k.Rel xs chk)
    (w : compG chk (turnC W n cs ct cb ce nl) xs accs G K) :
    codeAny W.M A (.compLoop (.ListComp elt [⟨t, iter, ifs, 0⟩] scope pos) 0 (.ref I) (.ref D) cenv) (fun r s' => r = .ok .next ∧ ∃ m2 G', Disj (H.set cenv.locals (.frame σ.locs m2)) G' ∧ W.R ((H.set cenv.locals (.frame σ.locs m2)).un G') s' ∧ K (.ref D) G') s := by
  refine codeAny_loop rfl (fun j s => ∃ xs accs m k G, j = xs.length ∧ accs.length + xs.length ≤ 8000000 ∧ Disj (HS H cenv.locals D I (.frame σ.locs m) (.list accs) (.iter k)) G ∧ W.R ((HS H cenv.locals D I (.frame σ.locs m) (.list accs) (.iter k)).un G) s ∧ k.Rel xs chk ∧
      compG chk (turnC W n cs ct cb ce nl) xs accs G K) ?_ xs.length (i_EEEEEAAAAA xs accs m k G rfl hz Dj R hk w)
  clear w hk R Dj hz k m xs accs
  intro j s hx9; refine o_EEEEEAAAAA hx9 fun xs accs m k G e96 hz Dj R hk w => ?_; try clear hx9; subst e96
  show wpAny _ A ((compTurn (.ListComp elt [⟨t, iter, ifs, 0⟩] scope pos) 0 (.ref I) (.ref D) cenv).onRaise (fun x => do noteFrame x cenv; theTreesLotGoes x)) _ _ s
  refine wpAny_noted ?_
  wide_open with compTurn_list
  refine wpAny_bind (wpAny_standAt (wpAny_bind ?_))
  cases xs with
  | nil =>
    obtain ⟨w1, w2⟩ := w
    refine wpAny_mono (next_end hA Dj R HS_I hk w1) (fun r s' q => ?_) fun z9 z9 z => z.elim
    obtain ⟨rfl, R'⟩ := q
    refine wpAny_pure (i_AEEAA rfl m _ ?_ ?_ (w2 D (Dj.left (HS_D hDI))))
    · refine Disj.setG (fun a ha => ?_) (by wide_open with GH.set_ne _ _ (Ne.symm hCD); exact hD0)
      have h0 := Dj a ha
      simp only [HS] at h0
      simp only [GH.set]
      split at h0
      · wide_open using h0
      · split at h0
        · wide_open using h0
        · exact h0
    · rw [HS_delI hI0 hDI hCI] at R'
      ((first | refine (un_swap (Dj.left (HS_D hDI))) ▸ ?_ | rewrite [← un_swap (Dj.left (HS_D hDI))]); try with_reducible rfl)
      exact R'
  | cons x xs =>
    obtain ⟨w1, w2⟩ := w
    refine wpAny_mono (next_item Dj R HS_I hk w1) (fun r s1 q => ?_) fun z9 z9 z => z.elim
    refine o_EEAAA q fun v k' e93 e94 hk' R1 => ?_; try clear q; subst e93; subst e94
    rw [HS_setI] at R1
    have Dj1 : Disj (HS H cenv.locals D I (.frame σ.locs m) (.list accs) (.iter k')) G := fun a ha => by
      have h0 := Dj a ha
      simp only [HS] at h0 ⊢
      split
      · rename_i e; rw [if_pos e] at h0; wide_open using h0
      · rename_i e; rw [if_neg e] at h0; exact h0
    have R2 := weaken_frame (k := nl) R1 (by rw [GH.un_left (Dj1.left (HS_C hCI hCD))]; exact HS_C hCI hCD)
    rw [← GH.set_un _ (Dj1.left (HS_C hCI hCD)), HS_setC hCI hCD] at R2
    have Dj2 : Disj (HS H cenv.locals D I (.frame σ.locs (List.replicate nl none)) (.list accs) (.iter k')) G := by
      have := Dj1.setL (L := cenv.locals) (o := .frame σ.locs (List.replicate nl none)) (HS_C hCI hCD)
      rwa [HS_setC hCI hCD] at this
    have I2 : In W A n σ cs cd cenv (List.replicate nl none) (HS H cenv.locals D I (.frame σ.locs (List.replicate nl none)) (.list accs) (.iter k')) := ⟨hR, hF, HS_C hCI hCD⟩
    refine wpAny_bind (wpAny_mono (letOwned_ok (Q := fun z9 s' => s' = s1) Dj1 R1 HS_I rfl) (fun z9 s' q => ?_) fun z9 z9 z => z.elim)
    subst q
    refine wpAny_bind (wpAny_mono (assign_ok I2 Dj2 R2 ht w2) (fun z9 s2 q => ?_) fun z9 z9 z => z.elim)
    refine o_EEAA q fun m' G3 Dj3 R3 w3 => ?_; try clear q
    rw [HS_setC hCI hCD] at R3
    have Dj3' := Dj3.setL (L := cenv.locals) (o := .frame σ.locs m') (HS_C hCI hCD)
    rw [HS_setC hCI hCD] at Dj3'
    have I3 : In W A n σ cs cd cenv m' (HS H cenv.locals D I (.frame σ.locs m') (.list accs) (.iter k')) := ⟨hR, hF, HS_C hCI hCD⟩
    have tests : WP W A (forIn ifs true fun c r => if r = true then do let ok ← isTrue c cenv (eval c cenv); pure (ForInStep.yield ok) else pure (ForInStep.yield r)) (Post W (HS H cenv.locals D I (.frame σ.locs m') (.list accs) (.iter k')) fun c G4 => match c with
          | true => wpE W n cs m' ce G4 fun v G5 => compG chk (turnC W n cs ct cb ce nl) xs (accs ++ (some v).toList) G5 K
          | false => compG chk (turnC W n cs ct cb ce nl) xs (accs ++ (none : Option Value).toList) G4 K) s2 := by
      rcases hc with ⟨rfl, rfl⟩ | ⟨c0, rfl, hc⟩
      · refine wpAny_tests_nil (i_EAA G3 Dj3' R3 ?_)
        exact w3
      · exact wpAny_tests_one (hc.use I3 Dj3' R3 w3)
    refine wpAny_bind (wpAny_mono tests (fun ok s3 q => ?_) fun z9 z9 z => z.elim)
    refine o_EAA q fun G4 Dj4 R4 w4 => ?_; try clear q
    cases ok with
    | false =>
      refine wpAny_pure (i_AEAEEEEEAAAAA rfl xs.length (by simp) xs accs m' k' G4 rfl (by simp only [List.length_cons] at hz; lia) Dj4 R4 hk' ?_)
      simpa using w4
    | true =>
      refine wpAny_bind (wpAny_bind (wpAny_mono (helt.use I3 Dj4 R4 w4) (fun y s4 q => ?_) fun z9 z9 z => z.elim))
      refine o_EAA q fun G5 Dj5 R5 w5 => ?_; try clear q
      have hlen : accs.length < sizeLine := by wide_open with sizeLine_eq; simp only [List.length_cons] at hz; lia
      refine wpAny_bind (wpAny_mono (append_hid (HS_D hDI) hlen Dj5 R5) (fun z9 s5 R6 => ?_) fun z9 z9 z => z.elim)
      rw [HS_setD hDI] at R6
      have Dj6 := Dj5.setL (L := D) (o := .list (accs ++ [er y])) (HS_D hDI)
      rw [HS_setD hDI] at Dj6
      refine wpAny_pure (wpAny_pure (i_AEAEEEEEAAAAA rfl xs.length (by simp) xs _ m' k' G5 rfl (by simp only [List.length_append, List.length_cons, List.length_nil] at hz ⊢; lia) Dj6 R6 hk' ?_))
      simpa using w5
end
end Mine
end
section
open PySem PySem.W PySem.Calls PyProof.Rows
namespace Mine
variable {W : Wd} {n : Nat} {A : Around} {H G : GH} {s : Shared}
section
variable {σ : Sg} {cs : List Addr} {cd : Value} {env : Env} {m : Mm} {elt t iter : Expr} {ifs : List Expr} {scope : Scope} {pos : Pos} {it ce : CE} {cb : CB} {ct : CT} {caps : List Nat} {K : KV} {use : Option (Value → Sem Unit)} {Q : Value → Shared → Prop}
theorem comp_core (I : In W A n σ cs cd env m H) (D : Disj H G) (R : W.R (H.un G) s) (hit : SE W σ iter it) (helt : SE W (compSg scope.names) elt ce)
    (hc : (ifs = [] ∧ cb = .tt) ∨ ∃ c0, ifs = [c0] ∧ SB W (compSg scope.names) c0 cb) (ht : trT (compSg scope.names) t = some ct) (hset : notSet iter = true) (hk : scope.kind = .function) (hn : compNamesOk scope.names = true)
    (hcaps : trL (fun (x : Str) => (if x == ("__classdict__" : Str) then none else σ.cels.idxOf? x)) (freesOf scope.names) = some caps)
    (w : wpE W n cs m (.comp ce ct it cb (locsOf scope.names).length caps) G K)
    (fin : ∀ C acc m2 G' s', H C = none → Disj (H.set C (.frame (locsOf scope.names) m2)) G' → W.R ((H.set C (.frame (locsOf scope.names) m2)).un G') s' → K acc G' → er acc = acc → compPost W.M A NoE use Q acc C (.ok .next) s') :
    WP W A (comprehension (.ListComp elt [⟨t, iter, ifs, 0⟩] scope pos) scope env (firstIterPos [⟨t, iter, ifs, 0⟩] pos) (newList []) (firstAsync [⟨t, iter, ifs, 0⟩]) (firstIter [⟨t, iter, ifs, 0⟩] env) use) Q s := by
  have hs : ∀ x, foldedSetIterable iter env x = pure x := fun x => by cases iter <;> first | rfl | wide_open using hset
  refine wpAny_comprehension_free (scope := scope) (cl := clos env scope.names []) rfl hs (comp_fr (C := 0) I.fr hk hn hcaps).1 hk (fun x hx hl => by (wide_line using (compNames_kind hn hx).2; wide_open with hl)) ?_
  refine (?_ : wpAny W.M A (eval iter env) _ NoE s)
  refine wpAny_mono (hit.use I D R w) (fun x s1 q => ?_) fun z9 z9 z => z
  refine o_EAA q fun G1 D1 R1 w1 => ?_; try clear q
  refine wpAny_mono (iter_ok rfl D1 R1 w1) (fun r s2 q => ?_) fun z9 z9 z => z
  refine o_EEEEAAAAAAA q fun Ia k xs chk e95 hIa gIa R2 hr hchk hsm w2 => ?_; try clear q; subst e95
  have D2 : Disj (H.set Ia (.iter k)) G1 := D1.setH gIa
  -- the list
  refine wpAny_newObj_type (T := "list") ?_ (by size_fits)
  have fD := R2.fr
  have R3 := R2.pushH { cls := .type "list", data := .seq #[] } (.list []) rfl rfl (tk := s2.toks) (dr := s2.drawn) fun d e => (i_EAA (#[]) ⟨0, e⟩ rfl (by wide_open with sizeLine_eq; exact Nat.zero_le _))
  generalize hDa : s2.heap.objs.size = Da at *
  have hDI : Da ≠ Ia := by rintro rfl; have := fD.1; wide_line with GH.set_self using this
  have hD0 : H Da = none := by have := fD.1; rwa [GH.set_ne _ _ hDI] at this
  have D3 : Disj ((H.set Ia (.iter k)).set Da (.list [])) G1 := D2.setH fD.2
  -- the frame
  refine wpAny_newFunctionEnv (fun x hx => ?_) (fun x hx => nomatch hx) (fun h' hns hsb => ?_) hk
  · rcases (compNames_kind hn hx).1 with h | h | h <;> wide_open with h <;> decide
  have fC := R3.fr
  have R4 := R3.pushH { cls := .type "dict", data := .dict #[] } (.raw { cls := .type "dict", data := .dict #[] }) rfl rfl (tk := s2.toks) (dr := s2.drawn) fun d e => e
  have hsz : (s2.heap.push { cls := .type "list", data := .seq #[] }).objs.size = Da + 1 := by (wide_line using Heap.size_push; wide_open with hDa)
  generalize hCa : (s2.heap.push { cls := .type "list", data := .seq #[] }).objs.size = Ca at *
  have hCI : Ca ≠ Ia := by
    rintro rfl
    have := fC.1
    by_cases e : Ca = Da
    · rw [e, GH.set_self] at this; wide_open using this
    · rw [GH.set_ne _ _ e, GH.set_self] at this; wide_open using this
  have hCD : Ca ≠ Da := by rintro rfl; have := fC.1; wide_line with GH.set_self using this
  have hC0 : H Ca = none := by have := fC.1; rwa [GH.set_ne _ _ hCD, GH.set_ne _ _ hCI] at this
  have gC : G1 Ca = none := fC.2
  have hU : ((((H.set Ia (.iter k)).set Da (.list [])).set Ca (.raw { cls := .type "dict", data := .dict #[] })).un G1) Ca = some (.raw { cls := .type "dict", data := .dict #[] }) := by wide_open with GH.un_left gC; exact GH.set_self _ _ _
  have R5 := R4.ext (h' := h') (tk := s2.toks + ([] : List (Str × Value)).length) (dr := s2.drawn) hU (g' := .frame (locsOf scope.names) (List.replicate (locsOf scope.names).length none)) rfl rfl hsb.extBut fun d z9 => ⟨_, hns, fun x i v z9 hv => by
    rw [List.getElem?_replicate] at hv
    split at hv <;> wide_open using hv⟩
  rw [← GH.set_un _ gC, GH.set_set] at R5
  have eH : (((H.set Ia (.iter k)).set Da (.list [])).set Ca (.frame (locsOf scope.names) (List.replicate (locsOf scope.names).length none))) = HS H Ca Da Ia (.frame (locsOf scope.names) (List.replicate (locsOf scope.names).length none)) (.list []) (.iter k) := by
    funext a
    simp only [GH.set, HS]
    by_cases h1 : a = Ca
    · subst h1; simp [hCI, hCD]
    · by_cases h2 : a = Da
      · subst h2; simp [hDI, h1]
      · by_cases h3 : a = Ia
        · subst h3; simp [h1, h2]
        · simp [h1, h2, h3]
  rw [eH] at R5
  have D5 : Disj (HS H Ca Da Ia (.frame (locsOf scope.names) (List.replicate (locsOf scope.names).length none)) (.list []) (.iter k)) G1 := by
    ((first | refine eH ▸ ?_ | rewrite [← eH]); try with_reducible rfl); exact D3.setH gC
  have hI0 : H Ia = none := hIa
  have F2 := (comp_fr (C := Ca) I.fr hk hn hcaps).2
  have loop : ∀ st, W.R ((HS H Ca Da Ia (.frame (locsOf scope.names) (List.replicate (locsOf scope.names).length none)) (.list []) (.iter k)).un G1) st →
      codeAny W.M A (.compLoop (.ListComp elt [⟨t, iter, ifs, 0⟩] scope pos) 0 (.ref Ia) (.ref Da) (compEnvC scope (clos env scope.names []) Ca env)) (compPost W.M A NoE use Q (.ref Da) Ca) st := fun st Rst => by
    refine codeAny_mono (compLoop_ok (cenv := compEnvC scope (clos env scope.names []) Ca env) (σ := compSg scope.names) I.room.1 I.room F2 helt hc ht hDI hCI hCD hI0 hD0 (m := List.replicate (locsOf scope.names).length none) (by simp only [small] at hsm; simp only [List.length_nil]; omega) D5 Rst hr w2) fun r s' q => ?_
    refine o_AEEAA q fun e91 m2 G' D' R' k' => ?_; try clear q; subst e91
    exact fin Ca (.ref Da) m2 G' s' hC0 D' R' k' rfl
  refine codeAny_compStart_list (loop _ R5) ?_
  exact wpAny_mono (iter_again (Q := fun v st => v = .ref Ia ∧ st = _) D5 R5 HS_I ⟨rfl, rfl⟩) (fun v st q => by obtain ⟨rfl, rfl⟩ := q; exact loop _ R5) fun z9 z9 z => z.elim
theorem comp_ok (I : In W A n σ cs cd env m H) (D : Disj H G) (R : W.R (H.un G) s) (hit : SE W σ iter it) (helt : SE W (compSg scope.names) elt ce)
    (hc : (ifs = [] ∧ cb = .tt) ∨ ∃ c0, ifs = [c0] ∧ SB W (compSg scope.names) c0 cb) (ht : trT (compSg scope.names) t = some ct) (hset : notSet iter = true) (hk : scope.kind = .function) (hn : compNamesOk scope.names = true)
    (hcaps : trL (fun (x : Str) => (if x == ("__classdict__" : Str) then none else σ.cels.idxOf? x)) (freesOf scope.names) = some caps)
    (w : wpE W n cs m (.comp ce ct it cb (locsOf scope.names).length caps) G K) :
    WP W A (eval (.ListComp elt [⟨t, iter, ifs, 0⟩] scope pos) env) (Post W H fun v => K (er v)) s := by
  wide_open with arm_eval_ListComp
  refine comp_core (use := none) I D R hit helt hc ht hset hk hn hcaps w fun C acc m2 G' s' hC D' R' k' he => ?_
  have gC : G' C = none := D'.left (GH.set_self _ _ _)
  have hU : ((H.set C (.frame (locsOf scope.names) m2)).un G') C = some (.frame (locsOf scope.names) m2) := by wide_open with GH.un_left gC; exact GH.set_self _ _ _
  refine o_EEA (R'.at hU) fun z9 mm hns z9 => ?_
  refine (i_EA mm hns (fun h' hs => (i_EAA G' (fun a ha => ?_) ?_ (by refine (?_ : K (er acc) G'); wide_open with he; exact k'))))
  · have := D' a ha
    by_cases e : a = C
    · subst e; exact hC
    · rwa [GH.set_ne _ _ e] at this
  · have R2 := R'.extDel (h' := h') (tk := s'.toks) (dr := s'.drawn) hU hs.extBut
    rw [← GH.un_del gC] at R2
    have e : (H.set C (.frame (locsOf scope.names) m2)).del C = H := by
      funext a; simp only [GH.del, GH.set]
      by_cases e : a = C
      · subst e; simp [hC]
      · simp [e]
    rw [e] at R2
    exact R2
theorem comp_use_ok {x : Expr} {p : CT} {K' : Mm → GH → Prop} (I : In W A n σ cs cd env m H) (D : Disj H G) (R : W.R (H.un G) s) (hit : SE W σ iter it) (helt : SE W (compSg scope.names) elt ce)
    (hc : (ifs = [] ∧ cb = .tt) ∨ ∃ c0, ifs = [c0] ∧ SB W (compSg scope.names) c0 cb) (ht : trT (compSg scope.names) t = some ct) (hset : notSet iter = true) (hk : scope.kind = .function) (hn : compNamesOk scope.names = true)
    (hcaps : trL (fun (x : Str) => (if x == ("__classdict__" : Str) then none else σ.cels.idxOf? x)) (freesOf scope.names) = some caps) (hp : trT σ x = some p)
    (w : wpE W n cs m (.comp ce ct it cb (locsOf scope.names).length caps) G fun v G' => setT cs p v m G' K') :
    WP W A (comprehension (.ListComp elt [⟨t, iter, ifs, 0⟩] scope pos) scope env (firstIterPos [⟨t, iter, ifs, 0⟩] pos) (newList []) (firstAsync [⟨t, iter, ifs, 0⟩]) (firstIter [⟨t, iter, ifs, 0⟩] env) (some fun v => assign x env v))
      (fun z9 => PostM W H env.locals σ.locs K') s := by
  refine comp_core (use := some fun v => assign x env v) I D R hit helt hc ht hset hk hn hcaps w fun C acc m2 G' s' hC D' R' k' he => ?_
  have hCL : C ≠ env.locals := by rintro rfl; wide_line with I.loc using hC
  have I' : In W A n σ cs cd env m (H.set C (.frame (locsOf scope.names) m2)) := ⟨I.room, I.fr, by wide_open with GH.set_ne _ _ (Ne.symm hCL); exact I.loc⟩
  refine wpAny_mono (assign_ok I' D' R' hp (by rw [he]; exact k')) (fun z9 s2 q => ?_) fun z9 z9 z => z
  refine o_EEAA q fun m' G2 D2 R2 k2 => ?_; try clear q
  have gC : G2 C = none := D2.left (GH.set_self _ _ _)
  have hU : (((H.set C (.frame (locsOf scope.names) m2)).set env.locals (.frame σ.locs m')).un G2) C = some (.frame (locsOf scope.names) m2) := by
    (wide_line using GH.un_left gC; wide_open with GH.set_ne _ _ hCL); exact GH.set_self _ _ _
  refine o_EEA (R2.at hU) fun z9 mm hns z9 => ?_
  refine (i_EA mm hns (fun h' hs => (i_EEAA m' G2 (fun a ha => ?_) ?_ k2)))
  · have := D2 a ha
    by_cases e : a = C
    · subst e; exact hC
    · rwa [GH.set_ne _ _ e] at this
  · have R3 := R2.extDel (h' := h') (tk := s2.toks) (dr := s2.drawn) hU hs.extBut
    rw [← GH.un_del gC] at R3
    have e : ((H.set C (.frame (locsOf scope.names) m2)).set env.locals (.frame σ.locs m')).del C = H.set env.locals (.frame σ.locs m') := by
      funext a; simp only [GH.del, GH.set]
      by_cases e : a = C
      · subst e; simp [hC, hCL]
      · simp [e]
    rw [e] at R3
    exact R3
end
end Mine
end
section
open PySem PySem.W PySem.Calls PyProof.Rows
namespace Mine
variable {W : Wd} {n : Nat} {A : Around} {H G : GH} {s : Shared}
theorem cells_none : ∀ (names : List (Str × NameKind)) (m : Nat) (acc : List (Str × Addr)) (h : Heap), ownsOfC names = [] → cellsFrom m names acc = acc ∧ pushCells h names = h
  | [], _, _, _, _ => ⟨rfl, rfl⟩
  | (x, k) :: r, m, acc, h, e => by
    unfold ownsOfC at e
    rw [List.filter_cons] at e
    cases hk : k == NameKind.cell with
    | true => simp [hk] at e
    | false =>
      simp only [hk, Bool.false_eq_true, if_false] at e
      unfold cellsFrom pushCells
      simp only [hk, Bool.false_eq_true, if_false]
      exact cells_none r m acc h e
theorem cells_one : ∀ (names : List (Str × NameKind)) (m : Nat) (acc : List (Str × Addr)) (h : Heap) (x : Str), ownsOfC names = [x] →
    cellsFrom m names acc = (x, m) :: acc ∧ pushCells h names = h.push { cls := .type "cell", data := .cell none }
  | [], _, _, _, _, e => by wide_open using e
  | (y, k) :: r, m, acc, h, x, e => by
    unfold ownsOfC at e
    rw [List.filter_cons] at e
    unfold cellsFrom pushCells
    cases hk : k == NameKind.cell with
    | true =>
      simp only [hk, if_true, List.map_cons, List.cons.injEq] at e
      obtain ⟨rfl, e⟩ := e
      simp only [if_true]
      exact cells_none r (m + 1) _ _ e
    | false =>
      simp only [hk, Bool.false_eq_true, if_false] at e
      simp only [Bool.false_eq_true, if_false]
      exact cells_one r m acc h x e
theorem newEnv_one {M : Model} {E : Value → Shared → Prop} {scope : Scope} {globals : Addr} {cl : List (Str × Addr)} {qual : Str} {env : Env} {x : Str} {Q : Env → Shared → Prop} (h1 : ownsOfC scope.names = [x])
    (q : Q (newEnv scope s.heap.objs.size globals ((x, s.heap.objs.size + 1) :: cl) qual none .none (some env) builtinsNs) { s with heap := (s.heap.push { cls := .type "dict", data := .dict #[] }).push { cls := .type "cell", data := .cell none } }) :
    wpAny M A (newFunctionEnv scope globals cl [] qual none .none (some env)) Q E s := by
  simp only [newFunctionEnv, Option.isSome_some, if_true]
  refine wpAny_bind (wpAny_alloc ?_)
  refine wpAny_bind (wpAny_layCells _ (fun name kind cells => by cases hkc : kind == NameKind.cell <;> simp [hkc]) _ _ _ _ ?_)
  obtain ⟨e1, e2⟩ := cells_one scope.names (s.heap.push { cls := .type "dict", data := .dict #[] }).objs.size cl (s.heap.push { cls := .type "dict", data := .dict #[] }) x h1
  refine (?_ : wpAny _ _ _ _ _ { s with heap := pushCells (s.heap.push { cls := .type "dict", data := .dict #[] }) scope.names })
  wide_open with e2
  refine wpAny_bind (wpAny_pure ?_)
  have e3 : cellsFrom (s.heap.push { cls := .type "dict", data := .dict #[] }).objs.size scope.names cl = (x, s.heap.objs.size + 1) :: cl := by (wide_line using e1; wide_open with Heap.size_push)
  first
    | (refine wpAny_pure ?_; wide_open with e3; exact q)
    | (simp only [e3]; exact wpAny_pure q)
theorem capsC_get {σ : Sg} {cs : List Addr} {cd : Value} {env : Env} (F : FrOK σ cs cd env) : ∀ (l : List Str) (r : List Nat), trL (fun (x : Str) => (if x == ("__classdict__" : Str) then none else σ.cels.idxOf? x)) l = some r →
    (∀ x ∈ l, ∃ c, env.cells.lookup x = some c) ∧ ∀ (x : Str) (i : Nat), l.idxOf? x = some i → ∃ c, env.cells.lookup x = some c ∧ (r.filterMap fun j => cs[j]?)[i]? = some c := by
  intro l
  induction l with
  | nil => intro r q; wide_open using q; exact ⟨(fun z9 h => (nomatch h)), fun x i h => by wide_open using h⟩
  | cons y l il =>
    intro r q
    refine o_EEAA (trL_cons q) fun j r' q1 q2 e95 => ?_; subst e95
    obtain ⟨i1, i2⟩ := il r' q2
    split at q1
    · wide_open using q1
    · refine o_EA (F.cel y j q1) fun c h1 h2 => ?_
      refine ⟨fun x hx => ?_, fun x i hx => ?_⟩
      · rcases List.mem_cons.mp hx with rfl | hx
        · exact ⟨c, h1⟩
        · exact i1 x hx
      · have e : (j :: r').filterMap (fun j => cs[j]?) = c :: r'.filterMap fun j => cs[j]? := by (wide_line using List.filterMap_cons; wide_open with h2)
        wide_open with e
        by_cases hxy : x = y
        · subst hxy
          have : i = 0 := by
            have h0 : (x :: l).idxOf? x = some 0 := by simp [List.idxOf?, List.findIdx?_cons]
            wide_line with h0 using hx; rfl
          subst this
          exact (i_EA c h1 rfl)
        · have hb : (y == x) = false := by simpa using Ne.symm hxy
          have h0 : (y :: l).idxOf? x = (l.idxOf? x).map (· + 1) := by simp [List.idxOf?, List.findIdx?_cons, hb]
          rw [h0] at hx
          refine o_EA (Option.map_eq_some_iff.mp hx) fun i' hi' e93 => ?_; subst e93
          refine o_EA (i2 x i' hi') fun c' g1 g2 => ?_
          exact (i_EA c' g1 (by simpa using g2))
theorem compNamesC_kind {names : List (Str × NameKind)} (h : compNamesOkC names = true) : (∃ x, ownsOfC names = [x]) ∧ ∀ p ∈ names, (p.2 = .local ∨ p.2 = .free ∨ p.2 = .globalImplicit ∨ p.2 = .cell) ∧ names.lookup p.1 = some p.2 := by
  unfold compNamesOkC at h
  rw [Bool.and_eq_true, beq_iff_eq] at h
  refine ⟨List.length_eq_one_iff.mp h.1, fun p hp => ?_⟩
  have := List.all_eq_true.mp h.2 p hp
  simp only [Bool.and_eq_true, Bool.or_eq_true, beq_iff_eq] at this
  exact ⟨by rcases this.1.1 with ((h | h) | h) | h <;> simp [h], this.1.2⟩
theorem comp_frC {σ : Sg} {cs : List Addr} {cd : Value} {env : Env} {scope : Scope} {caps : List Nat} {C c0 : Addr} {x0 : Str} (F : FrOK σ cs cd env) (hk : scope.kind = .function) (h1 : ownsOfC scope.names = [x0])
    (hc : trL (fun (x : Str) => (if x == ("__classdict__" : Str) then none else σ.cels.idxOf? x)) (freesOf scope.names) = some caps) :
    closureFor scope env = pure (clos env scope.names []) ∧
    FrOK (compSgC scope.names) ([c0] ++ caps.filterMap fun j => cs[j]?) cd (compEnvC scope ((x0, c0) :: clos env scope.names []) C env) := by
  obtain ⟨c1, c2⟩ := capsC_get F _ _ hc
  have free_mem : ∀ p ∈ scope.names, p.2 = .free → p.1 ∈ freesOf scope.names := fun p hp e => List.mem_map.mpr (i_EA p (List.mem_filter.mpr ⟨hp, by simp [e]⟩) rfl)
  have hcl := closureFor_pure (scope := scope) (env := env) fun p hp e => c1 p.1 (free_mem p hp e)
  refine ⟨hcl, hk, fun x hx => ?_, fun x hx => ?_, fun x hx => ?_, fun x i hx => ?_, fun x hx hf => ?_, F.glob, F.blt, F.code⟩
  · refine (?_ : (relabel scope env).names.lookup x = _)
    unfold relabel
    have hx : scope.names.lookup x = some .local := hx
    (wide_line using relabel_lookup; wide_open with hx); rfl
  · refine (?_ : (relabel scope env).names.lookup x = _ ∨ (relabel scope env).names.lookup x = _)
    unfold relabel
    have hx : scope.names.lookup x = some .cell ∨ scope.names.lookup x = some .free := hx
    wide_open with relabel_lookup
    rcases hx with hx | hx
    · wide_open with hx; left; rfl
    · wide_open with hx
      simp only [Option.map_some]
      split <;> simp
  · refine (?_ : (relabel scope env).names.lookup x = _)
    unfold relabel
    have hx : scope.names.lookup x = some .globalImplicit := hx
    (wide_line using relabel_lookup; wide_open with hx); rfl
  · have hx : (ownsOfC scope.names ++ freesOf scope.names).idxOf? x = some i := hx
    rw [h1] at hx
    refine (?_ : ∃ c, ((x0, c0) :: clos env scope.names []).lookup x = some c ∧ _)
    by_cases e : x = x0
    · subst e
      have h0 : ([x] ++ freesOf scope.names).idxOf? x = some 0 := by simp [List.idxOf?, List.findIdx?_cons]
      wide_line with h0 using hx
      exact (i_EA c0 (by simp) rfl)
    · have hb : (x0 == x) = false := by simpa using Ne.symm e
      have h0 : ([x0] ++ freesOf scope.names).idxOf? x = ((freesOf scope.names).idxOf? x).map (· + 1) := by simp [List.idxOf?, List.findIdx?_cons, hb]
      rw [h0] at hx
      refine o_EA (Option.map_eq_some_iff.mp hx) fun i' hi' e93 => ?_; subst e93
      refine o_EA (c2 x i' hi') fun c g1 g2 => ?_
      refine (i_EA c ?_ (by simpa using g2))
      have hb2 : (x == x0) = false := by simpa using e
      (wide_line using List.lookup_cons; wide_open with hb2)
      exact clos_lookup scope.names [] x c (fun z9 h => nomatch h) g1 (.inl (freesOf_mem hi'))
  · have hx : scope.names.lookup x = some .cell := hx
    have hf : (relabel scope env).names.lookup x = some .free := hf
    unfold relabel at hf
    rw [relabel_lookup, hx] at hf
    wide_open using hf
section
variable {σ : Sg} {cs : List Addr} {cd : Value} {env : Env} {m : Mm} {elt t iter : Expr} {ifs : List Expr} {scope : Scope} {pos : Pos} {it ce : CE} {cb : CB} {ct : CT} {caps : List Nat} {K : KV} {use : Option (Value → Sem Unit)} {Q : Value → Shared → Prop}
theorem comp_coreC {x0 : Str} (I : In W A n σ cs cd env m H) (D : Disj H G) (R : W.R (H.un G) s) (hit : SE W σ iter it) (helt : SE W (compSgC scope.names) elt ce)
    (hc : (ifs = [] ∧ cb = .tt) ∨ ∃ c0, ifs = [c0] ∧ SB W (compSgC scope.names) c0 cb) (ht : trT (compSgC scope.names) t = some ct) (hset : notSet iter = true) (hk : scope.kind = .function) (hn : compNamesOkC scope.names = true) (h1 : ownsOfC scope.names = [x0])
    (hcaps : trL (fun (x : Str) => (if x == ("__classdict__" : Str) then none else σ.cels.idxOf? x)) (freesOf scope.names) = some caps)
    (w : wpE W n cs m (.compC ce ct it cb (locsOf scope.names).length 1 caps) G K)
    (fin : ∀ C acc m2 G' s', H C = none → Disj (H.set C (.frame (locsOf scope.names) m2)) G' → W.R ((H.set C (.frame (locsOf scope.names) m2)).un G') s' → K acc G' → er acc = acc → compPost W.M A NoE use Q acc C (.ok .next) s') :
    WP W A (comprehension (.ListComp elt [⟨t, iter, ifs, 0⟩] scope pos) scope env (firstIterPos [⟨t, iter, ifs, 0⟩] pos) (newList []) (firstAsync [⟨t, iter, ifs, 0⟩]) (firstIter [⟨t, iter, ifs, 0⟩] env) use) Q s := by
  have hs : ∀ x, foldedSetIterable iter env x = pure x := fun x => by cases iter <;> first | rfl | wide_open using hset
  refine wpAny_comprehension_free (scope := scope) (cl := clos env scope.names []) rfl hs (comp_frC (C := 0) (c0 := 0) I.fr hk h1 hcaps).1 hk (fun x hx hl => by (wide_line using ((compNamesC_kind hn).2 x hx).2; wide_open with hl)) ?_
  refine (?_ : wpAny W.M A (eval iter env) _ NoE s)
  refine wpAny_mono (hit.use I D R w) (fun x s1 q => ?_) fun z9 z9 z => z
  refine o_EAA q fun G1 D1 R1 w1 => ?_; try clear q
  refine wpAny_mono (iter_ok rfl D1 R1 w1) (fun r s2 q => ?_) fun z9 z9 z => z
  refine o_EEEEAAAAAAA q fun Ia k xs chk e95 hIa gIa R2 hr hchk hsm w2 => ?_; try clear q; subst e95
  have D2 : Disj (H.set Ia (.iter k)) G1 := D1.setH gIa
  -- the list
  refine wpAny_newObj_type (T := "list") ?_ (by size_fits)
  have fD := R2.fr
  have R3 := R2.pushH { cls := .type "list", data := .seq #[] } (.list []) rfl rfl (tk := s2.toks) (dr := s2.drawn) fun d e => (i_EAA (#[]) ⟨0, e⟩ rfl (by wide_open with sizeLine_eq; exact Nat.zero_le _))
  generalize hDa : s2.heap.objs.size = Da at *
  have hDI : Da ≠ Ia := by rintro rfl; have := fD.1; wide_line with GH.set_self using this
  have hD0 : H Da = none := by have := fD.1; rwa [GH.set_ne _ _ hDI] at this
  have D3 : Disj ((H.set Ia (.iter k)).set Da (.list [])) G1 := D2.setH fD.2
  -- the frame
  refine newEnv_one h1 ?_
  have fC := R3.fr
  have R4 := R3.pushH { cls := .type "dict", data := .dict #[] } (.raw { cls := .type "dict", data := .dict #[] }) rfl rfl (tk := s2.toks) (dr := s2.drawn) fun d e => e
  have hsz : (s2.heap.push { cls := .type "list", data := .seq #[] }).objs.size = Da + 1 := by (wide_line using Heap.size_push; wide_open with hDa)
  generalize hCa : (s2.heap.push { cls := .type "list", data := .seq #[] }).objs.size = Ca at *
  have hCI : Ca ≠ Ia := by
    rintro rfl
    have := fC.1
    by_cases e : Ca = Da
    · rw [e, GH.set_self] at this; wide_open using this
    · rw [GH.set_ne _ _ e, GH.set_self] at this; wide_open using this
  have hCD : Ca ≠ Da := by rintro rfl; have := fC.1; wide_line with GH.set_self using this
  have hC0 : H Ca = none := by have := fC.1; rwa [GH.set_ne _ _ hCD, GH.set_ne _ _ hCI] at this
  have gC : G1 Ca = none := fC.2
  have fX := R4.fr
  have R4c := R4.pushH { cls := .type "cell", data := .cell none } (.cell none) rfl rfl (tk := s2.toks) (dr := s2.drawn) fun d e => (i_EA none (i_EA _ e rfl) rfl)
  have hns : (((s2.heap.push { cls := .type "list", data := .seq #[] }).push { cls := .type "dict", data := .dict #[] }).push { cls := .type "cell", data := .cell none }).Ns (s2.heap.push { cls := .type "list", data := .seq #[] }).objs.size (fun z9 => none) :=
    (Heap.Ns.new (s2.heap.push { cls := .type "list", data := .seq #[] }) (.type "dict")).push _
  have hsx : ((s2.heap.push { cls := .type "list", data := .seq #[] }).push { cls := .type "dict", data := .dict #[] }).objs.size = Ca + 1 := by (wide_line using Heap.size_push; wide_open with hCa)
  rw [hCa] at hns
  generalize hXa : ((s2.heap.push { cls := .type "list", data := .seq #[] }).push { cls := .type "dict", data := .dict #[] }).objs.size = Xa at *
  have hXC : Xa ≠ Ca := by wide_open with hsx; exact Nat.succ_ne_self _
  have fX1 := fX.1
  rw [GH.set_ne _ _ hXC] at fX1
  have hXD : Xa ≠ Da := by rintro rfl; wide_line with GH.set_self using fX1
  rw [GH.set_ne _ _ hXD] at fX1
  have hXI : Xa ≠ Ia := by rintro rfl; wide_line with GH.set_self using fX1
  rw [GH.set_ne _ _ hXI] at fX1
  have gX : G1 Xa = none := fX.2
  rw [un_swap gX] at R4c
  have gC2 : (G1.set Xa (.cell none)) Ca = none := by wide_open with GH.set_ne _ _ (Ne.symm hXC); exact gC
  have hU : ((((H.set Ia (.iter k)).set Da (.list [])).set Ca (.raw { cls := .type "dict", data := .dict #[] })).un (G1.set Xa (.cell none))) Ca = some (.raw { cls := .type "dict", data := .dict #[] }) := by wide_open with GH.un_left gC2; exact GH.set_self _ _ _
  have R5 := R4c.ext (h' := ((s2.heap.push { cls := .type "list", data := .seq #[] }).push { cls := .type "dict", data := .dict #[] }).push { cls := .type "cell", data := .cell none }) (tk := s2.toks) (dr := s2.drawn) hU (g' := .frame (locsOf scope.names) (List.replicate (locsOf scope.names).length none)) rfl rfl (Heap.ExtBut.refl _ _) fun d z9 => ⟨_, hns, fun x i v z9 hv => by
    rw [List.getElem?_replicate] at hv
    split at hv <;> wide_open using hv⟩
  rw [← GH.set_un _ gC2, GH.set_set] at R5
  have eH : (((H.set Ia (.iter k)).set Da (.list [])).set Ca (.frame (locsOf scope.names) (List.replicate (locsOf scope.names).length none))) = HS H Ca Da Ia (.frame (locsOf scope.names) (List.replicate (locsOf scope.names).length none)) (.list []) (.iter k) := by
    funext a
    simp only [GH.set, HS]
    by_cases h1 : a = Ca
    · subst h1; simp [hCI, hCD]
    · by_cases h2 : a = Da
      · subst h2; simp [hDI, h1]
      · by_cases h3 : a = Ia
        · subst h3; simp [h1, h2]
        · simp [h1, h2, h3]
  rw [eH] at R5
  have D5 : Disj (HS H Ca Da Ia (.frame (locsOf scope.names) (List.replicate (locsOf scope.names).length none)) (.list []) (.iter k)) (G1.set Xa (.cell none)) := by
    ((first | refine eH ▸ ?_ | rewrite [← eH]); try with_reducible rfl)
    refine Disj.setG (D3.setH gC) ?_
    (wide_line using GH.set_ne _ _ hXC; wide_line using GH.set_ne _ _ hXD; wide_open with GH.set_ne _ _ hXI); exact fX1
  have hI0 : H Ia = none := hIa
  have F2 := (comp_frC (C := Ca) (c0 := Xa) I.fr hk h1 hcaps).2
  have w3 := w2 [Xa] rfl (by simp) (fun c hc => by wide_open with List.mem_singleton.mp hc; exact gX)
  have loop : ∀ st, W.R ((HS H Ca Da Ia (.frame (locsOf scope.names) (List.replicate (locsOf scope.names).length none)) (.list []) (.iter k)).un (G1.set Xa (.cell none))) st →
      codeAny W.M A (.compLoop (.ListComp elt [⟨t, iter, ifs, 0⟩] scope pos) 0 (.ref Ia) (.ref Da) (compEnvC scope ((x0, Xa) :: clos env scope.names []) Ca env)) (compPost W.M A NoE use Q (.ref Da) Ca) st := fun st Rst => by
    refine codeAny_mono (compLoop_ok (cenv := compEnvC scope ((x0, Xa) :: clos env scope.names []) Ca env) (σ := compSgC scope.names) I.room.1 I.room F2 helt hc ht hDI hCI hCD hI0 hD0 (m := List.replicate (locsOf scope.names).length none) (by simp only [small] at hsm; simp only [List.length_nil]; omega) D5 Rst hr w3) fun r s' q => ?_
    refine o_AEEAA q fun e91 m2 G' D' R' k' => ?_; try clear q; subst e91
    exact fin Ca (.ref Da) m2 G' s' hC0 D' R' k' rfl
  refine (?_ : codeAny _ _ (.compStart _ 0 _ _ (compEnvC scope ((x0, Ca + 1) :: clos env scope.names []) Ca env)) (compPost W.M A NoE use Q (.ref Da) Ca) _)
  ((first | refine hsx ▸ ?_ | rewrite [← hsx]); try with_reducible rfl)
  refine codeAny_compStart_list (loop _ R5) ?_
  exact wpAny_mono (iter_again (Q := fun v st => v = .ref Ia ∧ st = _) D5 R5 HS_I ⟨rfl, rfl⟩) (fun v st q => by obtain ⟨rfl, rfl⟩ := q; exact loop _ R5) fun z9 z9 z => z.elim
theorem comp_okC {x0 : Str} (I : In W A n σ cs cd env m H) (D : Disj H G) (R : W.R (H.un G) s) (hit : SE W σ iter it) (helt : SE W (compSgC scope.names) elt ce)
    (hc : (ifs = [] ∧ cb = .tt) ∨ ∃ c0, ifs = [c0] ∧ SB W (compSgC scope.names) c0 cb) (ht : trT (compSgC scope.names) t = some ct) (hset : notSet iter = true) (hk : scope.kind = .function) (hn : compNamesOkC scope.names = true) (h1 : ownsOfC scope.names = [x0])
    (hcaps : trL (fun (x : Str) => (if x == ("__classdict__" : Str) then none else σ.cels.idxOf? x)) (freesOf scope.names) = some caps)
    (w : wpE W n cs m (.compC ce ct it cb (locsOf scope.names).length 1 caps) G K) :
    WP W A (eval (.ListComp elt [⟨t, iter, ifs, 0⟩] scope pos) env) (Post W H fun v => K (er v)) s := by
  wide_open with arm_eval_ListComp
  refine comp_coreC (use := none) I D R hit helt hc ht hset hk hn h1 hcaps w fun C acc m2 G' s' hC D' R' k' he => ?_
  have gC : G' C = none := D'.left (GH.set_self _ _ _)
  have hU : ((H.set C (.frame (locsOf scope.names) m2)).un G') C = some (.frame (locsOf scope.names) m2) := by wide_open with GH.un_left gC; exact GH.set_self _ _ _
  refine o_EEA (R'.at hU) fun z9 mm hns z9 => ?_
  refine (i_EA mm hns (fun h' hs => (i_EAA G' (fun a ha => ?_) ?_ (by refine (?_ : K (er acc) G'); wide_open with he; exact k'))))
  · have := D' a ha
    by_cases e : a = C
    · subst e; exact hC
    · rwa [GH.set_ne _ _ e] at this
  · have R2 := R'.extDel (h' := h') (tk := s'.toks) (dr := s'.drawn) hU hs.extBut
    rw [← GH.un_del gC] at R2
    have e : (H.set C (.frame (locsOf scope.names) m2)).del C = H := by
      funext a; simp only [GH.del, GH.set]
      by_cases e : a = C
      · subst e; simp [hC]
      · simp [e]
    rw [e] at R2
    exact R2
end
end Mine
end
section
open PySem PySem.W PySem.Calls PyProof.Rows
namespace Mine
variable {W : Wd} {n : Nat} {A : Around} {H G : GH} {s : Shared} {mg mb : Str → Option Value}
theorem put_map {kvs : List (Int × Value)} {k : Int} {v : Value} : (stored kvs k v).map (fun p => (p.1, er p.2)) = put (kvs.map fun p => (p.1, er p.2)) k (er v) := by
  unfold stored put
  have e : (kvs.map fun p => (p.1, er p.2)).any (fun kv => decide (kv.1 = k)) = kvs.any (fun kv => decide (kv.1 = k)) := by
    wide_open with List.any_map; rfl
  wide_open with e
  split
  · (wide_line using List.map_map; wide_open with List.map_map)
    apply List.map_congr_left
    intro p _
    simp only [Function.comp]
    split <;> rfl
  · simp
theorem merged_map {more : List (Int × Value)} : ∀ {kvs : List (Int × Value)}, (merged kvs more).map (fun p => (p.1, er p.2)) = (more.map fun p => (p.1, er p.2)).foldl (fun l p => put l p.1 p.2) (kvs.map fun p => (p.1, er p.2)) := by
  unfold merged
  induction more with
  | nil => intro kvs; rfl
  | cons p r ih => intro kvs; (wide_line using List.foldl_cons; wide_line using ih; wide_open with put_map); rfl
theorem stored_len (kvs : List (Int × Value)) (k : Int) (v : Value) : (stored kvs k v).length ≤ kvs.length + 1 := by
  unfold stored; split <;> simp
theorem merged_len {more : List (Int × Value)} : ∀ {kvs : List (Int × Value)}, (merged kvs more).length ≤ kvs.length + more.length := by
  unfold merged
  induction more with
  | nil => intro kvs; simp
  | cons p r ih => intro kvs; wide_open with List.foldl_cons; have := ih (kvs := stored kvs p.1 p.2); have := stored_len kvs p.1 p.2; simp only [List.length_cons]; lia
noncomputable def dpairs (env : Env) (pos : Pos) (js : List Int) (vs : List Expr) : List (Sem Value × Sem Value) := (js.zip vs).map fun p => (mkInt p.1, do let x ← eval p.2 env; standAt pos; pure x)
set_option tactic.hygienic true in
theorem dpairs_shape {env : Env} {pos : Pos} : ∀ {ks : List (Option Expr)} {js : List Int} {vs : List Expr}, intKeys ks = some js → ks.length = vs.length →
    (evalEachOpt ks env).zip ((evalEach vs env).map fun v => do let x ← v; standAt pos; pure x) = (dpairs env pos js vs).map fun p => (some p.1, p.2)
  | [], js, vs, h, hl => by wide_open using h; rfl
  | k :: ks, js, [], h, hl => by wide_open using hl
  | k :: ks, js, v :: vs, h, hl => by
    cases k with
    | none => wide_open using h
    | some e =>
      cases e <;> try (wide_open using h; done)
      rename_i c x1 x2
      cases c <;> try (wide_open using h; done)
      rename_i j
      refine o_EA (Option.map_eq_some_iff.mp h) fun js' h' e93 => ?_; subst e93
      have ih := @dpairs_shape env pos ks js' vs h' (by simpa using hl)
      show ((some (mkInt j), do let x ← eval v env; standAt pos; pure x) :: (evalEachOpt ks env).zip ((evalEach vs env).map _)) = _
      wide_open with ih
      rfl
theorem dpairs_ok {AT : Names} {gl : List (Str × Value)} {k : Nat} {σ : Sg} (ih : ∀ e ce, trE AT gl k σ e = some ce → SE W σ e ce) : ∀ (js : List Int) (vs : List Expr) (ces : List CE), trL (trE AT gl k σ) vs = some ces → js.length = vs.length →
    ∀ {A n cs cd env m H G s pos} {K : List Value → GH → Prop}, In W A n σ cs cd env m H → Disj H G → W.R (H.un G) s → wpEs W n cs m ces G K →
    WP W A (evalPairs (dpairs env pos js vs)) (fun ps s' => ∃ kvs, Carries (intKind W.prog W.w) ps kvs ∧ kvs.map (·.1) = js ∧ Post W H (fun ws => K ws) (kvs.map fun p => er p.2) s') s
  | [], [], ces, h, _, A, n, cs, cd, env, m, H, G, s, pos, K, I, D, R, w => by
    wide_open using h
    exact evalPairs_nil (i_EAAEAA ([]) trivial rfl G D R w)
  | [], v :: vs, ces, h, hl, _, _, _, _, _, _, _, _, _, _, _, _, _, _, _ => by wide_open using hl
  | j :: js, [], ces, h, hl, _, _, _, _, _, _, _, _, _, _, _, _, _, _, _ => by wide_open using hl
  | j :: js, v :: vs, ces, h, hl, A, n, cs, cd, env, m, H, G, s, pos, K, I, D, R, w => by
    refine o_EEAA (trL_cons h) fun a r h1 h2 e95 => ?_; subst e95
    show WP W A (evalPairs ((mkInt j, do let x ← eval v env; standAt pos; pure x) :: dpairs env pos js vs)) _ s
    refine evalPairs_cons (wpAny_mkInt ?_)
    refine wpAny_bind (wpAny_mono ((ih v a h1).use I D (R.irr rfl rfl rfl) w) (fun vv s1 q => ?_) fun z9 z9 z => z)
    refine o_EAA q fun G1 D1 R1 w1 => ?_; try clear q
    refine wpAny_bind (wpAny_standAt (wpAny_pure ?_))
    refine wpAny_mono (dpairs_ok ih js vs r h2 (by simpa using hl) I D1 R1 w1) (fun ps s2 q => ?_) fun z9 z9 z => z
    refine o_EAAEAA q fun kvs c1 c2 G2 D2 R2 w2 => ?_; try clear q
    exact (i_EAAEAA ((j, vv) :: kvs) (i_AA (by simp [intKind, Value.isInt]) rfl c1) (by simp [c2]) G2 D2 R2 (by simpa using w2))
theorem size_big (O : WdOK W mg mb) {U : GH} (R : W.R U s) : 1 < s.heap.objs.size := by
  have h := O.hmg.keeps R.keep
  have := h.lt
  exact Nat.lt_of_le_of_lt (by decide) this
theorem DictAt_of {knd : KeyKind W.prog W.w Int} {h : Heap} {a : Addr} {kvs : List (Int × Value)} (x : h.DictOf knd a kvs) : ∃ ep, h.DictAt knd a kvs ep := by
  refine o_EEE x fun o es ep r => ?_; try clear x; exact (i_EEE ep o es r)
set_option tactic.hygienic true in
theorem dict_ok (O : WdOK W mg mb) {AT : Names} {gl : List (Str × Value)} {k : Nat} {σ : Sg} (ih : ∀ e ce, trE AT gl k σ e = some ce → SE W σ e ce) {ks : List (Option Expr)} {js : List Int} {vs : List Expr} {ces : List CE} {pos : Pos}
    (h : trL (trE AT gl k σ) vs = some ces) (hk : intKeys ks = some js) (hl : ks.length = vs.length) (hs : ks.length ≤ 15)
    {cs cd env m} {K : KV} (I : In W A n σ cs cd env m H) (D : Disj H G) (R : W.R (H.un G) s) (w : wpE W n cs m (.dict js ces) G K) : WP W A (eval (.Dict ks vs pos) env) (Post W H fun v => K (er v)) s := by
  have jl : ∀ {ks js}, intKeys ks = some js → js.length = ks.length := by
    intro ks
    induction ks with
    | nil => intro js h; wide_open using h; rfl
    | cons y l il =>
      intro js h
      cases y with
      | none => wide_open using h
      | some e =>
        cases e <;> try (wide_open using h; done)
        rename_i c x1 x2
        cases c <;> try (wide_open using h; done)
        refine o_EA (Option.map_eq_some_iff.mp h) fun js' h' e93 => ?_; subst e93
        simp [il h']
  have hjl := jl hk
  have big := size_big O R
  have hne : s.heap.objs.size ≠ sysModules := by
    intro e; rw [e] at big; exact absurd big (by decide)
  have dict0 : (s.heap.push { cls := .type "dict", data := .dict #[] }).DictAt (intKind W.prog W.w) s.heap.objs.size [] 0 :=
    (i_EEAAAAA _ (#[]) (Heap.get?_push_size _ rfl) (i_AA rfl rfl rfl) rfl (fun z9 he => by simp at he) .nil List.nodup_nil)
  have R1 := fun tk dr => R.pushH { cls := .type "dict", data := .dict #[] } (.dict [] 0) rfl rfl (tk := tk) (dr := dr) fun d e => (i_EAAA ([]) dict0 rfl (by wide_open with sizeLine_eq; exact Nat.zero_le _) hne)
  have fr := R.fr
  generalize hd : s.heap.objs.size = d at *
  have I1 : In W A n σ cs cd env m (H.set d (.dict [] 0)) := ⟨I.room, I.fr, by
    wide_open with (GH.set_ne _ _ (fun e => by have := I.loc; rw [e, fr.1] at this; wide_open using this)); exact I.loc⟩
  have D1 : Disj (H.set d (.dict [] 0)) G := D.setH fr.2
  by_cases h0 : ks = []
  · subst h0
    have : vs = [] := List.length_eq_zero_iff.mp hl.symm
    subst this
    wide_open using hk
    wide_open using h
    refine wpAny_Dict_empty ?_
    wide_open with hd
    refine (i_EAA _ (D.setG fr.1) ?_ (w 0 d fr.2))
    ((first | refine (un_swap fr.2) ▸ ?_ | rewrite [← un_swap fr.2]); try with_reducible rfl)
    exact R1 s.toks s.drawn
  · refine wpAny_Dict_pairs (knd := intKind W.prog W.w) (pairs := dpairs env pos js vs) (dpairs_shape hk hl) ?_ (by unfold dpairs; simp; lia) ?_
    · intro e
      have : (dpairs env pos js vs).length = 0 := by wide_open with e; rfl
      unfold dpairs at this
      simp only [List.length_map, List.length_zip] at this
      have : ks.length = 0 := by lia
      exact h0 (List.length_eq_zero_iff.mp this)
    · wide_open with hd
      refine wpAny_mono (dpairs_ok ih js vs ces h (by lia) I1 D1 (R1 s.toks s.drawn) w) (fun ps s1 q => ?_) fun z9 z9 z => z
      refine o_EAAEAA q fun kvs c1 c2 G2 D2 R2 w2 => ?_; try clear q
      have g2 : G2 d = none := D2.left (GH.set_self _ _ _)
      have hU : ((H.set d (.dict [] 0)).un G2) d = some (.dict [] 0) := by wide_open with GH.un_left g2; exact GH.set_self _ _ _
      refine o_EEAA (R2.at hU) fun z9 kv0 e1 e2 z9 => ?_
      have : kv0 = [] := by cases kv0 with | nil => rfl | cons _ _ => wide_open using e2
      subst this
      refine (i_EAA kvs c1 e1.dictOf (fun h' hd' hsb => ?_))
      obtain ⟨ep, ha⟩ := DictAt_of hd'
      have hlen : (merged [] kvs).length ≤ sizeLine := by
        have := merged_len (more := kvs) (kvs := [])
        have hk2 : kvs.length = js.length := by ((first | refine c2 ▸ ?_ | rewrite [← c2]); try with_reducible rfl); simp
        simp only [List.length_nil] at this
        wide_open with sizeLine_eq
        lia
      have R3 := R2.ext (h' := h') (tk := s1.toks + ps.length) (dr := s1.drawn) hU (g' := .dict ((merged [] kvs).map fun p => (p.1, er p.2)) ep) rfl rfl hsb.extBut fun dd z9 => (i_EAAA _ ha rfl hlen hne)
      rw [← GH.set_un _ g2, GH.set_set, un_swap g2] at R3
      refine (i_EAA _ ?_ R3 ?_)
      · have : Disj H G2 := fun a ha => by
          have := D2 a ha
          by_cases e : a = d
          · subst e; exact fr.1
          · rwa [GH.set_ne _ _ e] at this
        exact this.setG fr.1
      · have := w2 ep d g2
        wide_open with merged_map
        have ez : js.zip (kvs.map fun p => er p.2) = kvs.map fun p => (p.1, er p.2) := by
          ((first | refine c2 ▸ ?_ | rewrite [← c2]); wide_open with List.zip_map')
        rw [ez] at this
        exact this
end Mine
end
section
open PySem PySem.W PySem.Calls PyProof.Rows
namespace Mine
variable {W : Wd} {n : Nat} {A : Around} {H G : GH} {s : Shared} {mg mb : Str → Option Value}
theorem attributeBase_plain {o : Expr} {name : Str} {env : Env} {t : Sem Value} (h : plainBase o = true) : attributeBase o name env t = t := by
  cases o with
  | Call f args kws p => wide_open using h
  | _ => rfl
theorem AT_of {AT : Names} {x : Str} {i : Nat} (h : AT.idxOf? x = some i) : AT[i]? = some x := by
  have hlt := idxOf?_lt h
  have := (List.findIdx?_eq_some_iff_getElem.mp h).2.1
  (wide_line using List.getElem?_eq_getElem hlt; wide_open with beq_iff_eq.mp this)
theorem spl_args {AT : Names} {gl : List (Str × Value)} {k : Nat} {σ : Sg} (ih : ∀ e ce, trE AT gl k σ e = some ce → SE W σ e ce) {es : List Expr} {ces : List CE} (h : trL (trE AT gl k σ) es = some ces)
    {A n cs cd env m H G pos} {K : List Value → GH → Prop} (I : In W A n σ cs cd env m H) (w : wpEs W n cs m ces G K) : Args1 W A H (backTo pos (starEach es env)) G K :=
  fun z9 D R => wpAny_mono ((spl_ok ih es ces h).use pos I D R w).2.2 (fun z9 z9 q => q.2) fun z9 z9 z => z
theorem meth_er {o fv : Value} {i : Nat} (hf : methG W o i G = some fv) : er fv = fv := by
  unfold methG at hf
  (repeat' split at hf) <;> first | wide_open using hf | skip
  all_goals first | rfl | (refine o_EA (Option.map_eq_some_iff.mp hf) fun f' z9 e93 => ?_; subst e93; rfl)
theorem post_del {a : Addr} {o : GO} {K : GH → Prop} (hn : H a = none) (q : ∃ G', Disj (H.set a o) G' ∧ W.R ((H.set a o).un G') s ∧ K G') : ∃ G', Disj H G' ∧ W.R (H.un G') s ∧ K G' := by
  refine o_EAA q fun G5 D5 R6 w5 => ?_; try clear q
  refine (i_EAA G5 (fun b hb => ?_) (R6.drop (fun b g e => ?_)) w5)
  · have := D5 b hb
    by_cases e : b = a
    · subst e; exact hn
    · rwa [GH.set_ne _ _ e] at this
  · by_cases hb : (G5 b).isSome = true
    · obtain ⟨g5, h5⟩ := Option.isSome_iff_exists.mp hb
      rw [GH.un_right h5] at e ⊢; exact e
    · have h5 : G5 b = none := by simpa using hb
      rw [GH.un_left h5] at e ⊢
      by_cases e2 : b = a
      · subst e2; wide_line with hn using e
      · wide_open with GH.set_ne _ _ e2; exact e
theorem evalPart_ok {f : Expr → Option CE} {σ : Sg} (ih : ∀ e ce, f e = some ce → SE W σ e ce) {x : Option Expr} {ce : CE} (h : trO f x = some ce)
    {A n cs cd env m H G s} {K : KV} (I : In W A n σ cs cd env m H) (D : Disj H G) (R : W.R (H.un G) s) (w : wpE W n cs m ce G K) : WP W A (evalPart x env) (Post W H fun v => K (er v)) s := by
  cases x with
  | none => wide_open using h; exact wpAny_pure (i_EAA G D R w)
  | some e => exact (ih e ce h).use I D R w
section
variable {σ : Sg} {p : Pos}
theorem s_const {c : Const} {k : Nat} {ce : CE} (h : trC c = some ce) : SE W σ (.Constant c k p) ce := fun A n cs cd env m H G s K I D R w => by
  cases c with
  | none => wide_open using h; exact wpAny_pure (i_EAA G D R w)
  | bool b => wide_open using h; exact wpAny_pure (i_EAA G D R w)
  | int i => wide_open using h; exact wpAny_mkInt (i_EAA G D (R.irr rfl rfl rfl) w)
  | str x => wide_open using h; exact wpAny_mkText (i_EAA G D (R.irr rfl rfl rfl) w)
  | _ => wide_open using h
theorem s_name (O : WdOK W mg mb) {x : Str} {ce : CE} (h : trN W.globs σ x = some ce) : SE W σ (.Name x p) ce := fun A n cs cd env m H G s K I D R w => by
  obtain ⟨hd, h⟩ := cnd' h
  cases hp : trP σ x with
  | some q =>
    rw [hp] at h
    wide_open using h
    refine o_EA (optG.ex w) fun v hv w => ?_
    exact wpAny_Name (var_ok I.fr I.loc D R hp hv fun v' e => (i_EAA G D R (by subst e; exact w))) hd
  | none =>
    rw [hp] at h
    obtain ⟨hg, h⟩ := cnd h
    refine o_EA (mpd h) fun v hv e93 => ?_; subst e93
    exact glob_ok O I.fr R (eq_of_beq hg) hv (fun v' e => (i_EAA G D R (by subst e; exact w))) hd
theorem s_bin {l r : Expr} {op : Operator} {a b : CE} (ha : SE W σ l a) (hb : SE W σ r b) : SE W σ (.BinOp l op r p) (.bin op a b) := fun A n cs cd env m H G s K I D R w => by
  refine wpAny_BinOp (wpAny_mono (ha.use I D R w) (fun x s1 q => ?_) fun z9 z9 z => z)
  refine o_EAA q fun G1 D1 R1 w1 => ?_; try clear q
  refine wpAny_mono (hb.use I D1 R1 w1) (fun y s2 q => ?_) fun z9 z9 z => z
  refine o_EAA q fun G2 D2 R2 w2 => ?_; try clear q
  exact bin_use I.room D2 R2 w2
theorem s_un {op : UnaryOp} {x : Expr} {o : Option CE} {ce : CE} (hx : ∀ a, o = some a → SE W σ x a) (h : trU op o = some ce) : SE W σ (.UnaryOp op x p) ce := fun A n cs cd env m H G s K I D R w => by
  cases op with
  | USub =>
    refine o_EA (mpd h) fun a ha e93 => ?_; subst e93
    refine wpAny_UnaryOp (wpAny_mono ((hx a ha).use I D R w) (fun x s1 q => ?_) fun z9 z9 z => z)
    refine o_EAA q fun G1 D1 R1 w1 => ?_; try clear q
    exact neg_ok rfl D1 R1 w1
  | Not =>
    refine o_EA (mpd h) fun a ha e93 => ?_; subst e93
    refine wpAny_UnaryOp (wpAny_mono ((hx a ha).use I D R w) (fun x s1 q => ?_) fun z9 z9 z => z)
    refine o_EAA q fun G1 D1 R1 w1 => ?_; try clear q
    refine (?_ : WP W A (holding [x] (do return Value.bool (!(← truthy x)) : Sem Value)) _ s1)
    refine wpAny_holding (wpAny_bind (wpAny_mono (truth_ok rfl D1 R1 w1) (fun t s2 q => ?_) fun z9 z9 z => z))
    refine o_EAA q fun G2 D2 R2 w2 => ?_; try clear q
    exact wpAny_pure (i_EAA G2 D2 R2 w2)
  | _ => wide_open using h
theorem s_ite {t a b : Expr} {ct : CB} {ca cb : CE} (ht : SB W σ t ct) (ha : SE W σ a ca) (hb : SE W σ b cb) : SE W σ (.IfExp t a b p) (.ite ct ca cb) := fun A n cs cd env m H G s K I D R w => by
  refine wpAny_IfExp (wpAny_mono (ht.use I D R w) (fun x s1 q => ?_) fun z9 z9 z => z)
  refine o_EAA q fun G1 D1 R1 w1 => ?_; try clear q
  cases x with
  | true => exact ha.use I D1 R1 w1
  | false => exact hb.use I D1 R1 w1
theorem s_cmp {f : Expr → Option CE} {l : Expr} {ops : List CmpOp} {rs : List Expr} {c : CB} (ih : ∀ e ce, f e = some ce → SE W σ e ce) (h : cmpE f l ops rs = some c) : SE W σ (.Compare l ops rs p) (.ofB c) ∧ SB W σ (.Compare l ops rs p) c := by
  have fin : ∀ {A : Around} {H : GH} {K : KV} {e : Sem Value} {s : Shared}, WP W A e (Post W H fun v G' => ∃ b, v = .bool b ∧ K (.bool b) G') s → WP W A e (Post W H fun v => K (er v)) s := fun z => wpAny_mono z (fun v s1 q => by
    refine o_EAAEA q fun G1 D1 R1 t e95 w1 => ?_; try clear q; subst e95
    exact (i_EAA G1 D1 R1 w1)) fun z9 z9 z => z
  rcases ops with _ | ⟨op, ops⟩
  · wide_open using h
  rcases rs with _ | ⟨r, rs⟩
  · wide_open using h
  rcases ops with _ | ⟨o2, ops⟩
  · rcases rs with _ | ⟨r2, rs⟩
    · obtain ⟨hm, h⟩ := cnd' h
      refine o_EA (bnd h) fun a ha h => ?_
      refine o_EA (bnd h) fun b hb h => ?_
      wide_open using h
      refine ⟨fun A n cs cd env m H G s K I D R w => fin (cmp1_ok hm (ih _ _ ha) (ih _ _ hb) I D R w), fun A n cs cd env m H G s K I D R w => ?_⟩
      refine wpAny_isTrue_Compare1 (wpAny_mono ((ih _ _ ha).use I D R w) (fun x s1 q => ?_) fun z9 z9 z => z) hm
      refine o_EAA q fun G1 D1 R1 w1 => ?_; try clear q
      refine wpAny_mono ((ih _ _ hb).use I D1 R1 w1) (fun y s2 q => ?_) fun z9 z9 z => z
      refine o_EAA q fun G2 D2 R2 w2 => ?_; try clear q
      refine wpAny_mono (cmp_use I.room D2 R2 w2) (fun t s3 q => ?_) fun z9 z9 z => z
      refine o_EAAEA q fun G3 D3 R3 b' e95 w3 => ?_; try clear q; subst e95
      exact wpAny_truthy_bool (i_EAA G3 D3 R3 w3)
    · wide_open using h
  rcases rs with _ | ⟨r2, rs⟩
  · wide_open using h
  rcases ops with _ | ⟨o3, ops⟩
  · rcases rs with _ | ⟨r3, rs⟩
    · obtain ⟨hm, h⟩ := cnd' h
      refine o_EA (bnd h) fun a ha h => ?_
      refine o_EA (bnd h) fun b hb h => ?_
      refine o_EA (bnd h) fun c hc h => ?_
      wide_open using h
      exact ⟨fun A n cs cd env m H G s K I D R w => fin (cmp2_ok hm (ih _ _ ha) (ih _ _ hb) (ih _ _ hc) I D R w).1, fun A n cs cd env m H G s K I D R w => (cmp2_ok hm (ih _ _ ha) (ih _ _ hb) (ih _ _ hc) I D R w).2 _⟩
    · wide_open using h
  · wide_open using h
end
section
variable {k : Nat} {σ : Sg} {p : Pos} (O : WdOK W mg mb) (ih : ∀ e ce, trE W.AT W.globs k σ e = some ce → SE W σ e ce)
include O ih
theorem s_meth {o : Expr} {name : Str} {apos : Pos} {args : List Expr} {i : Nat} {a : CE} {as : List CE} (hc : (plainBase o && apos.endLine == p.line && decide (args.length < 30)) = true) (hi : W.AT.idxOf? name = some i)
    (ha : trE W.AT W.globs k σ o = some a) (has : trL (trE W.AT W.globs k σ) args = some as) : SE W σ (.Call (.Attribute o name apos) args [] p) (.meth a i as) := fun A n cs cd env m H G s K I D R w => by
  simp only [Bool.and_eq_true, beq_iff_eq, decide_eq_true_eq] at hc
  obtain ⟨⟨hb, hp⟩, hn⟩ := hc
  (wide_line using arm_eval_Call; wide_open with attributeBase_plain hb)
  refine wpAny_bind (wpAny_mono ((ih _ _ ha).use I D R w) (fun x s1 q => ?_) fun z9 z9 z => z)
  refine o_EAAEA q fun G1 D1 R1 fv hf w1 => ?_; try clear q
  refine wpAny_bind (wpAny_standAt ?_)
  have hargs := (star_any (pos := p) (env := env) args as has).1
  unfold methodCall
  have hfew : methodCallForm (args.length + ([] : List Keyword).length) (backTo p (starEach args env)) (backToKw p (keywordEach [] env)) = true := by
    unfold methodCallForm
    have : (backTo p (starEach args env)).all (fun x => !x.1) = true := by
      wide_open with List.all_eq_not_any_not
      simp only [Bool.not_not]
      wide_open with hargs; rfl
    rw [this]
    exact decide_eq_true hn
  wide_open with hfew
  refine wpAny_bind (wpAny_holding (meth_ok O rfl (AT_of hi) R1 hf ?_))
  dsimp only
  have hpos : methodCallPos true o env apos p = pure p := if_pos (by wide_open with hp; exact beq_self_eq_true _)
  wide_open with hpos
  refine wpAny_bind (wpAny_pure ?_)
  refine callWith_ok O hargs D1 R1 I.room ?_
  have he : er fv = fv := meth_er hf
  wide_open with he
  exact spl_args ih has I w1
theorem s_call {x : Str} {q : Pos} {args : List Expr} {a : CE} {as : List CE} (ha : trE W.AT W.globs k σ (.Name x q) = some a) (has : trL (trE W.AT W.globs k σ) args = some as) : SE W σ (.Call (.Name x q) args [] p) (.call a as) := fun A n cs cd env m H G s K I D R w => by
  refine (?_ : WP W A (eval (.Name x q) env >>= fun f => callWith p f [] (backTo p (starEach args env)) []) _ s)
  refine wpAny_bind (wpAny_mono ((ih _ _ ha).use I D R w) (fun f s1 q => ?_) fun z9 z9 z => z)
  refine o_EAA q fun G1 D1 R1 w1 => ?_; try clear q
  exact callWith_ok O (star_any args as has).1 D1 R1 I.room (spl_args ih has I w1)
theorem s_attr {o : Expr} {name : Str} {i : Nat} {a : CE} (hb : plainBase o = true) (hi : W.AT.idxOf? name = some i) (ha : trE W.AT W.globs k σ o = some a) : SE W σ (.Attribute o name p) (.attr a i) := fun A n cs cd env m H G s K I D R w => by
  (wide_line using arm_eval_Attribute; wide_open with attributeBase_plain hb)
  refine wpAny_bind (wpAny_mono ((ih _ _ ha).use I D R w) (fun x s1 q => ?_) fun z9 z9 z => z)
  refine o_EAA q fun G1 D1 R1 w1 => ?_; try clear q
  refine wpAny_bind (wpAny_standAt (wpAny_bind (wpAny_holding (wpAny_mono (attr_ok O rfl (AT_of hi) D1 R1 w1) (fun v s2 q => ?_) fun z9 z9 z => z))))
  exact wpAny_bind (wpAny_letTemporaryGo (wpAny_pure q))
omit O
theorem s_slice {o : Expr} {l u st : Option Expr} {q : Pos} {a cl cu cst : CE} (ha : trE W.AT W.globs k σ o = some a) (hl : trO (trE W.AT W.globs k σ) l = some cl) (hu : trO (trE W.AT W.globs k σ) u = some cu) (hst : trO (trE W.AT W.globs k σ) st = some cst) :
    SE W σ (.Subscript o (.Slice l u st q) p) (.slice a cl cu cst) := fun A n cs cd env m H G s K I D R w => by
  refine Subscript_ (wpAny_mono ((ih _ _ ha).use I D R w) (fun x s1 q => ?_) fun z9 z9 z => z)
  refine o_EAA q fun G1 D1 R1 w1 => ?_; try clear q
  refine wpAny_Slice (wpAny_mono (evalPart_ok ih hl I D1 R1 w1) (fun vl s2 q => ?_) fun z9 z9 z => z)
  refine o_EAA q fun G2 D2 R2 w2 => ?_; try clear q
  refine wpAny_mono (evalPart_ok ih hu I D2 R2 w2) (fun vu s3 q => ?_) fun z9 z9 z => z
  refine o_EAA q fun G3 D3 R3 w3 => ?_; try clear q
  refine wpAny_mono (evalPart_ok ih hst I D3 R3 w3) (fun vs s4 q => ?_) fun z9 z9 z => z
  refine o_EAA q fun G4 D4 R4 w4 => ?_; try clear q
  have R5 := R4.pushH { cls := .type "slice", data := .fields #[vl, vu, vs] } (.raw { cls := .type "slice", data := .fields #[vl, vu, vs] }) rfl rfl (tk := s4.toks) (dr := s4.drawn) fun d e => e
  refine wpAny_mono (w4 A x vl vu vs s4.heap.objs.size o (.Slice l u st _) I.room rfl rfl rfl rfl (by cases st <;> exact ⟨_, rfl⟩) _ _ (GH.set_self _ _ _) (D4.setH R4.fr.2) R5) (fun v s5 q => ?_) fun z9 z9 z => z
  exact post_del R4.fr.1 q
theorem s_sub {o i : Expr} {a b : CE} (hns : ∀ l u st q, i ≠ .Slice l u st q) (ha : trE W.AT W.globs k σ o = some a) (hb : trE W.AT W.globs k σ i = some b) : SE W σ (.Subscript o i p) (.sub a b) := fun A n cs cd env m H G s K I D R w => by
  refine Subscript_ (wpAny_mono ((ih _ _ ha).use I D R w) (fun x s1 q => ?_) fun z9 z9 z => z)
  refine o_EAA q fun G1 D1 R1 w1 => ?_; try clear q
  refine wpAny_mono ((ih _ _ hb).use I D1 R1 w1) (fun y s2 q => ?_) fun z9 z9 z => z
  refine o_EAA q fun G2 D2 R2 w2 => ?_; try clear q
  exact sub_ok rfl rfl D2 R2 w2 fun o' i' => by
    cases i <;> first | rfl | (exact absurd rfl (hns _ _ _ _))
theorem s_list {es : List Expr} {as : List CE} (hl : es.length ≤ 100) (has : trL (trE W.AT W.globs k σ) es = some as) : SE W σ (.List es p) (.list as) := fun A n cs cd env m H G s K I D R w => by
  refine List_ (wpAny_mono ((spl_ok ih _ _ has).use _ I D R w).2.2 (fun vs s1 q => ?_) fun z9 z9 z => z)
  refine o_AEAA q fun hlen G1 D1 R1 w1 => ?_; try clear q
  exact new_list D1 R1 (by (wide_line using sizeLine_eq; wide_open with hlen); exact Nat.le_trans hl (by decide)) w1
theorem s_tup {es : List Expr} {j : Nat} {as : List CE} (hl : es.length ≤ 100) (has : trL (trE W.AT W.globs k σ) es = some as) : SE W σ (.Tuple es j p) (.tup as) := fun A n cs cd env m H G s K I D R w => by
  refine Tuple_ (wpAny_mono ((spl_ok ih _ _ has).use _ I D R w).2.2 (fun vs s1 q => ?_) fun z9 z9 z => z)
  refine o_AEAA q fun hlen G1 D1 R1 w1 => ?_; try clear q
  exact new_tup D1 R1 (by (wide_line using sizeLine_eq; wide_open with hlen); exact Nat.le_trans hl (by decide)) w1
end
theorem lc_parts {P : Prop} {fE : Sg → Expr → Option CE} {fB : Sg → Expr → Option CB} {σ : Sg} {elt : Expr} {gens : List Comprehension} {scope : Scope} {ce : CE} (h : trLC fE fB σ elt gens scope = some ce) (go : ∀ t iter ifs it ct cb cel caps, gens = [⟨t, iter, ifs, 0⟩] →
    notSet iter = true → scope.kind = .function → compNamesOk scope.names = true → fE σ iter = some it → trT (compSg scope.names) t = some ct → ((ifs = [] ∧ cb = .tt) ∨ ∃ c0, ifs = [c0] ∧ fB (compSg scope.names) c0 = some cb) → fE (compSg scope.names) elt = some cel →
    trL (fun (x : Str) => (if x == ("__classdict__" : Str) then none else σ.cels.idxOf? x)) (freesOf scope.names) = some caps → ce = .comp cel ct it cb (locsOf scope.names).length caps → P) : P := by
  cases gens with
  | nil => wide_open using h
  | cons g r =>
    obtain ⟨t, iter, ifs, j⟩ := g
    obtain ⟨hc, h'⟩ := cnd h
    clear h
    obtain ⟨hc, h4⟩ := Bool.and_eq_true_iff.mp hc
    obtain ⟨hc, h3⟩ := Bool.and_eq_true_iff.mp hc
    obtain ⟨hc, h2⟩ := Bool.and_eq_true_iff.mp hc
    obtain ⟨h0, h1⟩ := Bool.and_eq_true_iff.mp hc
    obtain rfl := List.isEmpty_iff.mp h0
    obtain rfl : j = 0 := eq_of_beq h1
    refine o_EA (bnd h') fun it hit h => ?_
    refine o_EA (bnd h) fun ct hct h => ?_
    refine o_EA (bnd h) fun cb hcb h => ?_
    refine o_EA (bnd h) fun cel he h => ?_
    refine o_EA (bnd h) fun caps hcaps h => ?_
    refine go t iter ifs it ct cb cel caps rfl h2 (eq_of_beq h3) h4 hit hct ?_ he hcaps (Option.some.inj h).symm
    clear h go h' he hit hct hcaps
    rcases ifs with _ | ⟨c0, ifs⟩
    · wide_open using hcb; exact .inl ⟨rfl, rfl⟩
    · rcases ifs with _ | ⟨c1, ifs⟩
      · exact .inr (i_EA c0 rfl hcb)
      · wide_open using hcb
theorem s_lc {fE : Sg → Expr → Option CE} {fB : Sg → Expr → Option CB} {σ : Sg} {elt : Expr} {gens : List Comprehension} {scope : Scope} {ce : CE} {p : Pos} (ihE : ∀ σ e ce, fE σ e = some ce → SE W σ e ce) (ihB : ∀ σ e cb, fB σ e = some cb → SB W σ e cb)
    (h : trLC fE fB σ elt gens scope = some ce) : SE W σ (.ListComp elt gens scope p) ce :=
  lc_parts h fun t iter ifs it ct cb cel caps e h1 h2 h3 hit hct hcb he hcaps e2 A n cs cd env m H G s K I D R w => by
    subst e e2
    exact comp_ok I D R (ihE _ _ _ hit) (ihE _ _ _ he) (hcb.imp id fun ⟨c, e, q⟩ => (i_EA c e (ihB _ _ _ q))) hct h1 h2 h3 hcaps w
theorem lcc_parts {P : Prop} {fE : Sg → Expr → Option CE} {fB : Sg → Expr → Option CB} {σ : Sg} {elt : Expr} {gens : List Comprehension} {scope : Scope} {ce : CE} (h : trLCC fE fB σ elt gens scope = some ce) (go : ∀ t iter ifs it ct cb cel caps, gens = [⟨t, iter, ifs, 0⟩] →
    notSet iter = true → scope.kind = .function → compNamesOkC scope.names = true → fE σ iter = some it → trT (compSgC scope.names) t = some ct → ((ifs = [] ∧ cb = .tt) ∨ ∃ c0, ifs = [c0] ∧ fB (compSgC scope.names) c0 = some cb) → fE (compSgC scope.names) elt = some cel →
    trL (fun (x : Str) => (if x == ("__classdict__" : Str) then none else σ.cels.idxOf? x)) (freesOf scope.names) = some caps → ce = .compC cel ct it cb (locsOf scope.names).length 1 caps → P) : P := by
  cases gens with
  | nil => wide_open using h
  | cons g r =>
    obtain ⟨t, iter, ifs, j⟩ := g
    obtain ⟨hc, h'⟩ := cnd h
    clear h
    obtain ⟨hc, h4⟩ := Bool.and_eq_true_iff.mp hc
    obtain ⟨hc, h3⟩ := Bool.and_eq_true_iff.mp hc
    obtain ⟨hc, h2⟩ := Bool.and_eq_true_iff.mp hc
    obtain ⟨h0, h1⟩ := Bool.and_eq_true_iff.mp hc
    obtain rfl := List.isEmpty_iff.mp h0
    obtain rfl : j = 0 := eq_of_beq h1
    refine o_EA (bnd h') fun it hit h => ?_
    refine o_EA (bnd h) fun ct hct h => ?_
    refine o_EA (bnd h) fun cb hcb h => ?_
    refine o_EA (bnd h) fun cel he h => ?_
    refine o_EA (bnd h) fun caps hcaps h => ?_
    refine go t iter ifs it ct cb cel caps rfl h2 (eq_of_beq h3) h4 hit hct ?_ he hcaps (Option.some.inj h).symm
    clear h go h' he hit hct hcaps
    rcases ifs with _ | ⟨c0, ifs⟩
    · wide_open using hcb; exact .inl ⟨rfl, rfl⟩
    · rcases ifs with _ | ⟨c1, ifs⟩
      · exact .inr (i_EA c0 rfl hcb)
      · wide_open using hcb
theorem s_lcc {fE : Sg → Expr → Option CE} {fB : Sg → Expr → Option CB} {σ : Sg} {elt : Expr} {gens : List Comprehension} {scope : Scope} {ce : CE} {p : Pos} (ihE : ∀ σ e ce, fE σ e = some ce → SE W σ e ce) (ihB : ∀ σ e cb, fB σ e = some cb → SB W σ e cb)
    (h : trLCC fE fB σ elt gens scope = some ce) : SE W σ (.ListComp elt gens scope p) ce :=
  lcc_parts h fun t iter ifs it ct cb cel caps e h1 h2 h3 hit hct hcb he hcaps e2 A n cs cd env m H G s K I D R w => by
    subst e e2
    obtain ⟨⟨x0, hx0⟩, _⟩ := compNamesC_kind h3
    exact comp_okC I D R (ihE _ _ _ hit) (ihE _ _ _ he) (hcb.imp id fun ⟨c, e, q⟩ => (i_EA c e (ihB _ _ _ q))) hct h1 h2 h3 hx0 hcaps w
theorem s_lc2 {fE : Sg → Expr → Option CE} {fB : Sg → Expr → Option CB} {σ : Sg} {elt : Expr} {gens : List Comprehension} {scope : Scope} {ce : CE} {p : Pos} (ihE : ∀ σ e ce, fE σ e = some ce → SE W σ e ce) (ihB : ∀ σ e cb, fB σ e = some cb → SB W σ e cb)
    (h : trLC2 fE fB σ elt gens scope = some ce) : SE W σ (.ListComp elt gens scope p) ce := by
  unfold trLC2 at h
  cases q : trLC fE fB σ elt gens scope with
  | some c => wide_line with q using h; exact s_lc ihE ihB q
  | none => rw [q] at h; exact s_lcc ihE ihB h
theorem sound_step (O : WdOK W mg mb) (k : Nat) (ihE : ∀ σ e ce, trE W.AT W.globs k σ e = some ce → SE W σ e ce) (ihB : ∀ σ e cb, trB W.AT W.globs k σ e = some cb → SB W σ e cb) (σ : Sg) (e : Expr) (ce : CE) (h : trE W.AT W.globs (k + 1) σ e = some ce) : SE W σ e ce := by
  cases e with
  | Constant c j p => exact s_const h
  | Name x p => exact s_name O h
  | BinOp l op r p =>
    refine o_EA (bnd h) fun a ha h => ?_
    refine o_EA (bnd h) fun b hb h => ?_
    wide_open using h
    exact s_bin (ihE _ _ _ ha) (ihE _ _ _ hb)
  | UnaryOp op x p => exact s_un (fun a ha => ihE _ _ _ ha) h
  | BoolOp op vs p =>
    refine o_EA (bnd h) fun as has h => ?_
    intro A n cs cd env m H G s K I D R w
    wide_open with arm_eval_BoolOp
    exact boolOp_ok (ihE σ) _ _ _ has h _ _ _ _ _ _ _ _ _ _ I D R w
  | Compare l ops rs p =>
    refine o_EA (mpd h) fun c hc e93 => ?_; subst e93
    exact (s_cmp (ihE σ) hc).1
  | IfExp t a b p =>
    refine o_EA (bnd h) fun ct ht h => ?_
    refine o_EA (bnd h) fun ca ha h => ?_
    refine o_EA (bnd h) fun cb hb h => ?_
    wide_open using h
    exact s_ite (ihB _ _ _ ht) (ihE _ _ _ ha) (ihE _ _ _ hb)
  | Call f args kws p =>
    cases kws with
    | cons _ _ => wide_open using h
    | nil =>
      cases f with
      | Attribute o name apos =>
        obtain ⟨hc, h⟩ := cnd h
        refine o_EA (bnd h) fun i hi h => ?_
        refine o_EA (bnd h) fun a ha h => ?_
        refine o_EA (bnd h) fun as has h => ?_
        wide_open using h
        exact s_meth O (ihE σ) hc hi ha has
      | Name x q =>
        refine o_EA (bnd h) fun a ha h => ?_
        refine o_EA (bnd h) fun as has h => ?_
        wide_open using h
        exact s_call O (ihE σ) ha has
      | _ => wide_open using h
  | Attribute o name p =>
    obtain ⟨hb, h⟩ := cnd h
    refine o_EA (bnd h) fun i hi h => ?_
    refine o_EA (bnd h) fun a ha h => ?_
    wide_open using h
    exact s_attr O (ihE σ) hb hi ha
  | Subscript o i p =>
    have sub : (∀ l u st q, i ≠ .Slice l u st q) → (trE W.AT W.globs k σ o).bind (fun a => (trE W.AT W.globs k σ i).bind fun b => some (.sub a b)) = some ce → SE W σ (.Subscript o i p) ce := fun hns h => by
      refine o_EA (bnd h) fun a ha h => ?_
      refine o_EA (bnd h) fun b hb h => ?_
      wide_open using h
      exact s_sub (ihE σ) hns ha hb
    cases i with
    | Slice l u st q =>
      refine o_EA (bnd h) fun a ha h => ?_
      refine o_EA (bnd h) fun cl hl h => ?_
      refine o_EA (bnd h) fun cu hu h => ?_
      refine o_EA (bnd h) fun cst hst h => ?_
      wide_open using h
      exact s_slice (ihE σ) ha hl hu hst
    | _ => exact sub (fun z9 z9 z9 z9 z => by wide_open using z) h
  | List es p =>
    obtain ⟨hl, h⟩ := cnd h
    refine o_EA (mpd h) fun as has e93 => ?_; subst e93
    exact s_list (ihE σ) (of_decide_eq_true hl) has
  | Tuple es j p =>
    obtain ⟨hl, h⟩ := cnd h
    refine o_EA (mpd h) fun as has e93 => ?_; subst e93
    exact s_tup (ihE σ) (of_decide_eq_true hl) has
  | Dict ks vs p =>
    obtain ⟨hc, h⟩ := cnd h
    simp only [Bool.and_eq_true, beq_iff_eq, decide_eq_true_eq] at hc
    refine o_EA (bnd h) fun js hjs h => ?_
    refine o_EA (mpd h) fun as has e93 => ?_; subst e93
    intro A n cs cd env m H G s K I D R w
    exact dict_ok O (ihE σ) has hjs hc.1 hc.2 I D R w
  | ListComp elt gens scope p => exact s_lc2 ihE ihB h
  | _ => wide_open using h
end Mine
end
section
open PySem PySem.W PySem.Calls PyProof.Rows
namespace Mine
variable {W : Wd} {n : Nat} {A : Around} {H G : GH} {s : Shared} {mg mb : Str → Option Value}
theorem tr_ok {σ : Sg} {e : Expr} {a : CE} (ih : SE W σ e a) (he : ∀ env whole, isTrue e env whole = (do let v ← whole; standAt e.pos; holding [v] (truthy v))) : SB W σ e (.tr a) := by
  intro A n cs cd env m H G s K I D R w
  refine wpAny_isTrue_value (wpAny_mono (ih.use I D R w) (fun v s1 q => ?_) fun z9 z9 z => z) (he _ _)
  refine o_EAA q fun G1 D1 R1 w1 => ?_; try clear q
  exact truth_ok rfl D1 R1 w1
theorem plain_test {e : Expr} (h : plainTest e = true) (env : Env) (whole : Sem Value) : isTrue e env whole = (do let v ← whole; standAt e.pos; holding [v] (truthy v)) := by
  cases e <;> first | rfl | wide_open using h
theorem sound_stepB (k : Nat) (ihE : ∀ σ e ce, trE W.AT W.globs k σ e = some ce → SE W σ e ce) (ihB : ∀ σ e cb, trB W.AT W.globs k σ e = some cb → SB W σ e cb) (σ : Sg) (e : Expr) (cb : CB) (h : trB W.AT W.globs (k + 1) σ e = some cb) : SB W σ e cb := by
  have h : (bif plainTest e then (trE W.AT W.globs k σ e).map .tr else _) = some cb := h
  cases hp : plainTest e with
  | true =>
    rw [hp] at h
    refine o_EA (mpd h) fun a ha e93 => ?_; subst e93
    exact tr_ok (ihE _ _ _ ha) (plain_test hp)
  | false =>
    rw [hp] at h
    cases e with
    | UnaryOp op x p =>
      cases op with
      | Not =>
        refine o_EA (mpd h) fun a ha e93 => ?_; subst e93
        intro A n cs cd env m H G s K I D R w
        wide_open with arm_isTrue_UnaryOp
        refine wpAny_bind (wpAny_mono ((ihB _ _ _ ha).use I D R w) (fun t s1 q => ?_) fun z9 z9 z => z)
        exact wpAny_pure q
      | _ =>
        refine o_EA (mpd h) fun a ha e93 => ?_; subst e93
        exact tr_ok (ihE _ _ _ ha) fun z9 z9 => rfl
    | BoolOp op vs p =>
      refine o_EA (bnd h) fun as has h => ?_
      intro A n cs cd env m H G s K I D R w
      wide_open with arm_isTrue_BoolOp
      exact allTrue_ok (ihB σ) _ _ _ has h _ _ _ _ _ _ _ _ _ _ I D R w
    | IfExp t a b p =>
      refine o_EA (bnd h) fun ct ht h => ?_
      refine o_EA (bnd h) fun ca ha h => ?_
      refine o_EA (bnd h) fun cb hb h => ?_
      wide_open using h
      intro A n cs cd env m H G s K I D R w
      wide_open with arm_isTrue_IfExp
      refine wpAny_bind (wpAny_mono ((ihB _ _ _ ht).use I D R w) (fun x s1 q => ?_) fun z9 z9 z => z)
      refine o_EAA q fun G1 D1 R1 w1 => ?_; try clear q
      cases x with
      | true => exact (ihB _ _ _ ha).use I D1 R1 w1
      | false => exact (ihB _ _ _ hb).use I D1 R1 w1
    | Compare l ops rs p => exact (s_cmp (ihE σ) h).2
    | Starred _ _ => wide_open using h
    | _ => wide_open using hp
theorem sound (O : WdOK W mg mb) : ∀ k, (∀ σ e ce, trE W.AT W.globs k σ e = some ce → SE W σ e ce) ∧ (∀ σ e cb, trB W.AT W.globs k σ e = some cb → SB W σ e cb)
  | 0 => ⟨(fun σ e ce h => by wide_open using h), (fun σ e cb h => by wide_open using h)⟩
  | k + 1 => ⟨sound_step O k (sound O k).1 (sound O k).2, sound_stepB k (sound O k).1 (sound O k).2⟩
end Mine
end
section
open PySem PySem.W PySem.Calls PyProof.Rows
namespace Mine
variable {W : Wd} {n : Nat} {A : Around} {H G : GH} {s : Shared} {mg mb : Str → Option Value}
noncomputable def notComp (e : Expr) : Bool := e.ctorIdx != 8 && e.ctorIdx != 9 && e.ctorIdx != 10
noncomputable def isTupleE (e : Expr) : Bool := e.ctorIdx == 25
noncomputable def isSlice (e : Expr) : Bool := e.ctorIdx == 26
noncomputable def hasCell (σ : Sg) (es : List Expr) : Bool := es.any fun
  | .Name x _ => σ.names.lookup x == some .cell || σ.names.lookup x == some .free
  | _ => false
noncomputable def plainArgs : Arguments → Bool
  | ⟨[], as, none, [], [], none, []⟩ => as.all (·.annotation.isNone)
  | _ => false
noncomputable def trA (AT : Names) (fE : Expr → Option CE) (σ : Sg) (t v : Expr) : Option CS := match t with
  | .Name x p => (fE v).bind fun e => bif notCC e then (trT σ (.Name x p)).bind fun t => some (.set t e) else none
  | .Tuple es j p => bif !isTupleE v || hasCell σ es then (fE v).bind fun e => (trT σ (.Tuple es j p)).bind fun t => some (.set t e) else none
  | .Attribute o name _ => (AT.idxOf? name).bind fun i => (fE v).bind fun e => (fE o).bind fun o => some (.seta o i e)
  | .Subscript o i _ => bif isSlice i then none else (fE v).bind fun e => (fE o).bind fun o => (fE i).bind fun i => some (.seti o i e)
  | _ => none
noncomputable def stepS (AT : Names) (fE : Expr → Option CE) (fB : Expr → Option CB) (fS : Stmt → Option CS) (σ : Sg) : Stmt → Option CS
  | .Expr v _ => bif notComp v then (fE v).map .expr else none
  | .Pass _ => some (.expr (.val .none))
  | .Return v _ => (trO fE v).map .ret
  | .Assign ts v _ => (match ts with
    | [] => none
    | t :: r => bif r.isEmpty then trA AT fE σ t v else none)
  | .If t a b _ => (fB t).bind fun t => (trL fS a).bind fun a => (trL fS b).bind fun b => some (.ite t a b)
  | .While t b e _ => bif e.isEmpty then (fB t).bind fun t => (trL fS b).bind fun b => some (.while t b) else none
  | .For t it b e _ => bif e.isEmpty && notSet it then (trT σ t).bind fun t => (fE it).bind fun it => (trL fS b).bind fun b => some (.for t it b) else none
  | .Continue _ => some .cont
  | .FunctionDef name args body decs ret typs scope tscope bind pos => bif plainArgs args && bind == name && decs.isEmpty && ret.isNone && typs.isEmpty && tscope.isNone then (trP σ name).bind fun p => some (.fdef p (.FunctionDef name args body [] none [] scope none name pos)) else none
  | _ => none
noncomputable def trS (AT : Names) (gl : List (Str × Value)) (k : Nat) : Nat → Sg → Stmt → Option CS
  | 0, _, _ => none
  | n + 1, σ, st => stepS AT (trE AT gl k σ) (trB AT gl k σ) (trS AT gl k n σ) σ st
inductive FlR : Flow → Fl → Prop
  | next : FlR .next .next
  | cont : FlR .cont .cont
  | ret (v : Value) : FlR (.ret v) (.ret (er v))
noncomputable abbrev PostS (W : Wd) (H : GH) (L : Addr) (ls : List Str) (K : Fl → Mm → GH → Prop) (f : Flow) (s' : Shared) : Prop := ∃ fl m' G', FlR f fl ∧ Disj H G' ∧ W.R ((H.set L (.frame ls m')).un G') s' ∧ K fl m' G'
noncomputable def SS (W : Wd) (σ : Sg) (celn : List Str) (st : Stmt) (c : CS) : Prop := ∀ A n cs cd env m H G s (K : Fl → Mm → GH → Prop), In W A n σ cs cd env m H → Disj H G → W.R (H.un G) s → wpS W n cd celn cs c m G K →
  WP W A (exec st env) (PostS W H env.locals σ.locs K) s
theorem SS.use {σ celn st c} (h : SS W σ celn st c) {A n cs cd env m H G s} {K : Fl → Mm → GH → Prop} (I : In W A n σ cs cd env m H) (D : Disj H G) (R : W.R (H.un G) s) (w : wpS W n cd celn cs c m G K) : WP W A (exec st env) (PostS W H env.locals σ.locs K) s := h _ _ _ _ _ _ _ _ _ _ I D R w
theorem postS_set {L : Addr} {g : GO} {ls : List Str} {m : Mm} {K : Fl → Mm → GH → Prop} {f : Flow} (h : H L = some g) (q : PostS W (H.set L (.frame ls m)) L ls K f s) : PostS W H L ls K f s := by
  refine o_EEEAAA q fun fl m2 G2 hf D2 R2 w2 => ?_; try clear q
  rw [GH.set_set] at R2
  exact (i_EEEAAA fl m2 G2 hf (D2.unL h) R2 w2)
theorem seq_ok {σ : Sg} {celn : List Str} {f : Stmt → Option CS} (ih : ∀ st c, f st = some c → SS W σ celn st c) : ∀ (ss : List Stmt) (cs' : List CS), trL f ss = some cs' →
    ∀ A n cs cd env m H G s (K : Fl → Mm → GH → Prop), In W A n σ cs cd env m H → Disj H G → W.R (H.un G) s → wpSs W n cd celn cs cs' m G K → WP W A (execs ss env) (PostS W H env.locals σ.locs K) s
  | [], _, h, _, _, _, _, _, m, _, G, _, _, I, D, R, w => by
    wide_open using h
    exact wpAny_pure (i_EEEAAA .next m G .next D (by wide_open with I.same; exact R) w)
  | st :: ss, _, h, A, n, cs, cd, env, m, H, G, s, K, I, D, R, w => by
    refine o_EEAA (trL_cons h) fun c r h1 h2 e95 => ?_; subst e95
    refine wpAny_execs_cons (wpAny_mono ((ih st c h1).use I D R w) (fun f s1 q => ?_) fun z9 z9 z => z)
    refine o_EEEAAA q fun fl m1 G1 hf D1 R1 w1 => ?_; try clear q
    cases hf with
    | next => exact wpAny_mono (seq_ok ih ss r h2 _ _ _ _ _ _ _ _ _ _ (I.set (m' := m1)) (D1.setL I.loc) R1 w1) (fun f2 s2 q => postS_set I.loc q) fun z9 z9 z => z
    | cont => exact (i_EEEAAA .cont m1 G1 .cont D1 R1 w1)
    | ret v => exact (i_EEEAAA (.ret (er v)) m1 G1 (.ret v) D1 R1 w1)
theorem swaps_not {v : Expr} (h : notComp v = true) (t : Option Expr) (l : Nat) (env : Env) : swapsWith v t l env = pure false := by
  cases v <;> first | rfl | wide_open using h
theorem swaps_tuple {v : Expr} {es : List Expr} {j : Nat} {p : Pos} (l : Nat) (env : Env) : swapsWith v (some (.Tuple es j p)) l env = pure false := by
  cases v <;> rfl
theorem swaps_name {v : Expr} {x : Str} {p : Pos} (l : Nat) (env : Env) : ∃ b, swapsWith v (some (.Name x p)) l env = pure b ∧ (b = true → notComp v = false) := by
  cases hv : notComp v with
  | true => exact (i_EA false (swaps_not hv _ _ _) (fun h => by wide_open using h))
  | false => cases v <;> first | exact (i_EA _ rfl (fun z9 => rfl)) | cases hv
set_option tactic.hygienic true in
theorem swapped_none {σ : Sg} {cs : List Addr} {cd : Value} {env : Env} {es : List Expr} {x1 : Nat} {p : Pos} {v : Expr} (F : FrOK σ cs cd env) (h : (!isTupleE v || hasCell σ es) = true) : swappedStores [.Tuple es x1 p] v env = pure none := by
  unfold swappedStores
  cases v <;> try rfl
  rename_i vs x2 p2
  replace h : hasCell σ es = true := h
  dsimp only
  have key : (es.filterMap fun | .Name id pos => if (env.kindOf id == some .local && pos.line == (es.head?.map (·.pos.line)).getD 0) = true then some id else none | _ => none).length < es.length := by
    generalize (es.head?.map (·.pos.line)).getD 0 = line
    unfold hasCell at h
    induction es with
    | nil => wide_open using h
    | cons e r ih =>
      have le : ∀ (r : List Expr), (r.filterMap fun | .Name id pos => if (env.kindOf id == some .local && pos.line == line) = true then some id else none | _ => none).length ≤ r.length := fun r => List.length_filterMap_le _ _
      simp only [List.any_cons, Bool.or_eq_true] at h
      wide_open with List.filterMap_cons
      rcases h with h | h
      · cases e <;> try (wide_open using h; done)
        rename_i x px
        simp only [Bool.or_eq_true, beq_iff_eq] at h
        have hk := F.kcel x h
        have hn : (env.kindOf x == some .local) = false := by rcases hk with hk | hk <;> wide_open with hk <;> rfl
        simp only [hn, Bool.false_and, Bool.false_eq_true, if_false]
        exact Nat.lt_succ_of_le (le r)
      · have := ih h
        split
        · exact Nat.lt_succ_of_lt this
        · simpa using Nat.succ_lt_succ this
  split
  · rfl
  · split
    · rfl
    · wide_open with if_pos (by simp only [Bool.or_eq_true, bne_iff_ne, ne_eq]; left; exact Nat.ne_of_lt key)
theorem setItem_plain {l : Addr} {items : Array Value} {k : Int} {t : Tok} {v : Value} {Q : Unit → Shared → Prop} (hl : s.heap.PlainList l items) (h0 : 0 ≤ k) (hk : k < items.size) (hz : items.size ≤ sizeLine)
    (hQ : ∀ h', h'.PlainList l (items.setIfInBounds k.toNat v) → Heap.SameBut l s.heap h' → Q () { s with heap := h' }) : WP W A (setItem (.ref l) (.int k t) v) Q s := by
  have hi := hl.isList
  obtain ⟨m, hg⟩ := hl
  have hfit : k < 2 ^ 63 := by have := sizeLine_lt; lia
  unfold setItem
  refine wpAny_holding ?_
  refine wpAny_bind (wpAny_sequenceKey hi.typeIs (by decide) ?_)
  refine wpAny_bind (wpAny_callSpecial?_slot (name := Str.ofString "__setitem__") hi.typeIs slot_list_setitem (wpAny_call_entry slot_list_setitem hi.typeIs entry_list_setitem ?_ (args_list_setitem _ _ _)))
  refine (?_ : wpAny _ _ (Builtin.List.listSubscript? (.int k t) >>= _) _ _ s)
  refine wpAny_bind (wpAny_listSubscript_int (fitsIndex_of h0 hfit) ?_)
  clear hfit
  obtain ⟨j, rfl⟩ := Int.eq_ofNat_of_zero_le h0
  have hj : j < items.size := by lia
  refine (?_ : wpAny _ _ ((seqItemAt l j >>= fun r => pure (r.map (j, ·))) >>= _) _ _ s)
  refine wpAny_bind (wpAny_bind (wpAny_seqItemAt hg rfl (wpAny_pure ?_)))
  wide_open with Array.getElem?_eq_getElem hj
  refine (?_ : wpAny _ _ (setSeqItemAt l j v >>= _) _ _ s)
  have fin : (s.heap.update l (Obj.mapSeq (·.setIfInBounds j v))).PlainList l (items.setIfInBounds j v) := by
    refine ⟨m, ?_⟩
    wide_open with Heap.get?_update_self _ hg rfl
    simp [Obj.mapSeq]
  refine wpAny_bind (wpAny_setSeqItemAt hg rfl ?_)
  have last := hQ _ fin (Heap.SameBut.update ..)
  first
    | exact wpAny_pure (i_EA .none rfl (wpAny_pure last))
    | exact wpAny_bind (wpAny_pure (wpAny_pure ⟨.none, rfl, wpAny_pure last⟩))
set_option tactic.hygienic true in
theorem seti_ok {vo vi v o i : Value} {K : GH → Prop} (ho : er vo = o) (hi : er vi = i) (D : Disj H G) (R : W.R (H.un G) s) (h : setiG o i (er v) G K) : WP W A (setItem vo vi v) (Post W H fun z9 => K) s := by
  subst ho hi
  generalize hev : er v = ev at h
  cases vo with
  | ref a =>
    cases vi with
    | int k u =>
      simp only [setiG, er] at h
      subst hev
      split at h
      · rename_i xs hg
        refine o_EA h fun ys h1 h2 => ?_; try clear h
        refine o_EAA (R.list (GH.un_right hg)) fun vs hl e93 hz => ?_; subst e93
        unfold setIdx at h1
        split at h1
        · rename_i hb
          wide_open using h1
          simp only [List.length_map, Array.length_toList] at hb
          have hlt : k.toNat < vs.size := by lia
          refine setItem_plain hl hb.1 hb.2 hz fun h' hl' hs => (i_EAA _ (D.setG (D.right hg)) ?_ h2)
          wide_open with GH.un_set
          refine R.ext (GH.un_right hg) rfl rfl hs.extBut fun d z9 => (i_EAA _ hl' ?_ (by simpa using hz))
          simp [List.map_set, er]
        · wide_open using h1
      · rename_i es ep hg
        obtain ⟨h1, h2⟩ := h
        refine o_EEAAA (R.at (GH.un_right hg)) fun z9 kvs hd he hz hne => ?_
        have hlen : kvs.length ≤ 4000000 := by rw [← he] at h1; simpa [small] using h1
        refine wpAny_setItem_pairs (knd := intKind W.prog W.w) (k := k) (by simp [intKind, Value.isInt]) hd.dictOf (fun h' hd' hsb => ?_) (by wide_open with sizeLine_eq; lia)
        obtain ⟨ep', ha⟩ := DictAt_of hd'
        refine (i_EAA _ (D.setG (D.right hg)) ?_ (h2 ep'))
        wide_open with GH.un_set
        refine R.ext (GH.un_right hg) rfl rfl hsb.extBut fun dd z9 => (i_EAAA _ ha ?_ ?_ hne)
        · (wide_line using put_map; wide_open with he)
        · have := stored_len kvs k v; wide_open with sizeLine_eq; lia
      · exact h.elim
    | _ => exact h.elim
  | _ => exact h.elim
end Mine
end
section
open PySem PySem.W PySem.Calls PyProof.Rows
namespace Mine
variable {W : Wd} {n : Nat} {A : Around} {H G : GH} {s : Shared} {mg mb : Str → Option Value}
theorem while_ok {σ : Sg} {celn : List Str} {f : Stmt → Option CS} (ih : ∀ st c, f st = some c → SS W σ celn st c) {t : Expr} {body : List Stmt} {pos : Pos} {ct : CB} {cb : List CS}
    (ht : SB W σ t ct) (hb : trL f body = some cb) : SS W σ celn (.While t body [] pos) (.while ct cb) := by
  intro A n cs cd env m H G s K I D R w
  refine o_EEA w fun Inv j0 h0 step => ?_; try clear w
  refine wpAny_While ?_
  refine codeAny_whileLoop (fun j s => ∃ m G, Disj H G ∧ W.R ((H.set env.locals (.frame σ.locs m)).un G) s ∧ Inv j m G) (fun j s hI => ?_) j0 (i_EEAA m G D (by wide_open with I.same; exact R) h0)
  refine o_EEAA hI fun m1 G1 D1 R1 hi => ?_; try clear hI
  have I1 := I.set (m' := m1)
  refine wpAny_mono (ht.use I1 (D1.setL I.loc) R1 (step j m1 G1 hi)) (fun b s2 q => ?_) fun z9 z9 z => z.elim
  refine o_EAA q fun G2 D2 R2 w2 => ?_; try clear q
  cases b with
  | true =>
    wide_open with if_pos rfl
    refine wpAny_mono (seq_ok ih body cb hb _ _ _ _ _ _ _ _ _ _ I1 D2 R2 w2) (fun f s3 q => ?_) fun z9 z9 z => z.elim
    refine o_EEEAAA q fun fl m3 G3 hf D3 R3 w3 => ?_; try clear q
    rw [GH.set_set] at R3
    cases hf with
    | next => refine o_EA w3 fun i hi w3 => ?_; exact (i_EAEEAA i hi m3 G3 (D3.unL I.loc) R3 w3)
    | cont => refine o_EA w3 fun i hi w3 => ?_; exact (i_EAEEAA i hi m3 G3 (D3.unL I.loc) R3 w3)
    | ret v => exact (i_EEEAAA (.ret (er v)) m3 G3 (.ret v) (D3.unL I.loc) R3 w3)
  | false =>
    simp only [Bool.false_eq_true, if_false]
    exact wpAny_pure (i_EEEAAA .next m1 G2 .next (D2.unL I.loc) R2 w2)
theorem forLoop_ok {σ : Sg} {celn : List Str} {f : Stmt → Option CS} (ih : ∀ st c, f st = some c → SS W σ celn st c) {t : Expr} {body : List Stmt} {ct : CT} {cb : List CS} {cs : List Addr} {cd : Value} {env : Env} {m : Mm} {Ia : Addr} {ik : IterK} {xs : List Value} {chk : GH → Prop} {K : Fl → Mm → GH → Prop}
    (ht : trT σ t = some ct) (hb : trL f body = some cb) (I : In W A n σ cs cd env m H) (hI0 : H Ia = none) (D : Disj (H.set Ia (.iter ik)) G) (R : W.R ((H.set Ia (.iter ik)).un G) s) (hr : ik.Rel xs chk)
    (w : forG chk (fun x m G k => setT cs ct x m G fun m' G' => wpSs W n cd celn cs cb m' G' k) xs m G K) :
    codeAny W.M A (.forLoop t (.ref Ia) body [] env) (fun r s' => ∃ f, r = .ok f ∧ PostS W H env.locals σ.locs K f s') s := by
  have hLI : env.locals ≠ Ia := by intro e; have := I.loc; rw [e, hI0] at this; wide_open using this
  refine codeAny_loop' rfl (fun q s => ∃ xs m ik G, q = xs.length ∧ Disj ((H.set env.locals (.frame σ.locs m)).set Ia (.iter ik)) G ∧ W.R (((H.set env.locals (.frame σ.locs m)).set Ia (.iter ik)).un G) s ∧ ik.Rel xs chk ∧
    forG chk (fun x m G k => setT cs ct x m G fun m' G' => wpSs W n cd celn cs cb m' G' k) xs m G K) ?_ xs.length (i_EEEEAAAA xs m ik G rfl (by wide_open with I.same; exact D) (by wide_open with I.same; exact R) hr w)
  clear w hr R D
  intro q s hx9; refine o_EEEEAAAA hx9 fun xs m ik G e95 D R hr w => ?_; try clear hx9; subst e95
  show wpAny _ A ((forTurn t (.ref Ia) body [] env).onRaise (fun x => do noteFrame x env; theTreesLotGoes x)) _ _ s
  refine wpAny_noted ?_
  simp only [forTurn]
  refine wpAny_bind (wpAny_standAt (wpAny_bind (wpAny_onRaise ?_)))
  have gI : G Ia = none := D.left (GH.set_self _ _ _)
  have unI : ∀ {m' ik'}, ((H.set env.locals (.frame σ.locs m')).set Ia (.iter ik')).del Ia = H.set env.locals (.frame σ.locs m') := fun {m' ik'} => by
    funext a; simp only [GH.del, GH.set]
    by_cases e : a = Ia
    · subst e; simp [hI0, Ne.symm hLI]
    · simp [e]
  have unD : ∀ {m' ik' G'}, Disj ((H.set env.locals (.frame σ.locs m')).set Ia (.iter ik')) G' → Disj H G' := fun {m' ik' G'} D a ha => by
    have := D a ha
    by_cases e : a = Ia
    · subst e; exact hI0
    · rw [GH.set_ne _ _ e] at this
      by_cases e2 : a = env.locals
      · subst e2; wide_line with GH.set_self using this
      · rwa [GH.set_ne _ _ e2] at this
  cases xs with
  | nil =>
    obtain ⟨w1, w2⟩ := w
    refine wpAny_mono (next_end I.room.1 D R (GH.set_self _ _ _) hr w1) (fun r s1 q => ?_) fun z9 z9 z => z.elim
    obtain ⟨rfl, R1⟩ := q
    rw [unI] at R1
    exact wpAny_pure (.inr ⟨rfl, codeAny_block (wpAny_pure (i_EAEEEAAA .next rfl .next m G .next (unD D) R1 w2))⟩)
  | cons x xs =>
    obtain ⟨w1, w2⟩ := w
    refine wpAny_mono (next_item D R (GH.set_self _ _ _) hr w1) (fun r s1 q => ?_) fun z9 z9 z => z.elim
    refine o_EEAAA q fun v ik' e93 e94 hr' R1 => ?_; try clear q; subst e93; subst e94
    rw [GH.set_set] at R1
    have D1 : Disj ((H.set env.locals (.frame σ.locs m)).set Ia (.iter ik')) G := by
      have := D.setL (L := Ia) (o := .iter ik') (GH.set_self _ _ _)
      rwa [GH.set_set] at this
    have I1 : In W A n σ cs cd env m ((H.set env.locals (.frame σ.locs m)).set Ia (.iter ik')) := ⟨I.room, I.fr, by wide_open with GH.set_ne _ _ hLI; exact GH.set_self _ _ _⟩
    refine wpAny_bind (wpAny_mono (letOwned_ok (Q := fun z9 s' => s' = s1) D1 R1 (GH.set_self _ _ _) rfl) (fun z9 s' q => ?_) fun z9 z9 z => z.elim)
    subst q
    refine wpAny_bind (wpAny_mono (assign_ok I1 D1 R1 ht w2) (fun z9 s2 q => ?_) fun z9 z9 z => z.elim)
    refine o_EEAA q fun m2 G2 D2 R2 w3 => ?_; try clear q
    have comm : ∀ {m m' : Mm}, ((H.set env.locals (.frame σ.locs m)).set Ia (.iter ik')).set env.locals (.frame σ.locs m') = (H.set env.locals (.frame σ.locs m')).set Ia (.iter ik') := fun {m m'} => by
      (wide_line using GH.set_comm _ _ _ (Ne.symm hLI); wide_open with GH.set_set)
    rw [comm] at R2
    have D2' : Disj ((H.set env.locals (.frame σ.locs m2)).set Ia (.iter ik')) G2 := by
      have := D2.setL (L := env.locals) (o := .frame σ.locs m2) I1.loc
      rwa [comm] at this
    have I2 : In W A n σ cs cd env m2 ((H.set env.locals (.frame σ.locs m2)).set Ia (.iter ik')) := ⟨I.room, I.fr, by wide_open with GH.set_ne _ _ hLI; exact GH.set_self _ _ _⟩
    refine wpAny_bind (wpAny_mono (seq_ok ih body cb hb _ _ _ _ _ _ _ _ _ _ I2 D2' R2 w3) (fun f s3 q => ?_) fun z9 z9 z => z.elim)
    refine o_EEEAAA q fun fl m3 G3 hf D3 R3 w4 => ?_; try clear q
    rw [comm] at R3
    have D3' : Disj ((H.set env.locals (.frame σ.locs m3)).set Ia (.iter ik')) G3 := by
      have := D3.setL (L := env.locals) (o := .frame σ.locs m3) I2.loc
      rwa [comm] at this
    cases hf with
    | next => exact wpAny_pure (.inl (i_AEAEEEEAAAA rfl xs.length (by simp) xs m3 ik' G3 rfl D3' R3 hr' w4))
    | cont => exact wpAny_pure (.inl (i_AEAEEEEAAAA rfl xs.length (by simp) xs m3 ik' G3 rfl D3' R3 hr' w4))
    | ret v =>
      have gI3 : G3 Ia = none := D3'.left (GH.set_self _ _ _)
      have R4 := R3.drop (U' := (H.set env.locals (.frame σ.locs m3)).un G3) fun a g e => by
        cases hg : G3 a with
        | some g3 => rw [GH.un_right hg] at e ⊢; exact e
        | none =>
          rw [GH.un_left hg] at e ⊢
          have : a ≠ Ia := by
            rintro rfl
            rw [GH.set_ne _ _ (Ne.symm hLI), hI0] at e; wide_open using e
          wide_open with GH.set_ne _ _ this; exact e
      exact wpAny_pure (i_EAEEEAAA (.ret v) rfl (.ret (er v)) m3 G3 (.ret v) (unD D3') R4 w4)
theorem for_ok {σ : Sg} {celn : List Str} {f : Stmt → Option CS} (ih : ∀ st c, f st = some c → SS W σ celn st c) {t it : Expr} {body : List Stmt} {pos : Pos} {ct : CT} {ci : CE} {cb : List CS}
    (hs : notSet it = true) (ht : trT σ t = some ct) (hi : SE W σ it ci) (hb : trL f body = some cb) : SS W σ celn (.For t it body [] pos) (.for ct ci cb) := by
  intro A n cs cd env m H G s K I D R w
  refine wpAny_For (wpAny_mono (hi.use I D R w) (fun x s1 q => ?_) fun z9 z9 z => z) (fun x => by cases it <;> first | rfl | wide_open using hs)
  refine o_EAA q fun G1 D1 R1 w1 => ?_; try clear q
  refine wpAny_mono (iter_ok rfl D1 R1 w1) (fun r s2 q => ?_) fun z9 z9 z => z
  refine o_EEEEAAAAAA q fun Ia ik xs chk e95 hIa gIa R2 hr hchk w2 => ?_; try clear q; subst e95
  refine codeAny_mono (forLoop_ok ih ht hb I hIa (D1.setH gIa) R2 hr w2) fun r s3 q => ?_
  obtain ⟨f, rfl, q⟩ := q
  exact q
end Mine
end
section
open PySem PySem.W PySem.Calls PyProof.Rows
namespace Mine
variable {W : Wd} {n : Nat} {A : Around} {H G : GH} {s : Shared} {mg mb : Str → Option Value}
theorem ann_nil (env : Env) : ∀ (as : List Arg), as.all (·.annotation.isNone) = true → annotationsOf as env = []
  | [], _ => rfl
  | ⟨x, none, p⟩ :: r, h => by wide_open with arm_annotationsOf_cons_2; exact ann_nil env r h
  | ⟨x, some e, p⟩ :: r, h => by wide_open using h
theorem fdef_ok {σ : Sg} {celn : List Str} {name : Str} {args : Arguments} {body : List Stmt} {scope : Scope} {pos : Pos} {p : CP} (hce : celn = σ.cels) (ha : plainArgs args = true) (hp : trP σ name = some p) :
    SS W σ celn (.FunctionDef name args body [] none [] scope none name pos) (.fdef p (.FunctionDef name args body [] none [] scope none name pos)) := by
  intro A n cs cd env m H G s K I D R w
  wide_open with exec_def
  have hd : defaultsOf args env = ([], []) ∧ annTrees args none env = [] := by
    obtain ⟨po, as, va, ko, kd, kw, de⟩ := args
    rcases po with _ | _
    · rcases va with _ | _
      · rcases ko with _ | _
        · rcases kd with _ | _
          · rcases kw with _ | _
            · rcases de with _ | _
              · refine ⟨rfl, ?_⟩
                unfold annTrees
                refine (?_ : annotationsOf (as ++ [] ++ [] ++ [] ++ []) env ++ _ = [])
                simp only [List.append_nil]
                wide_open with ann_nil env as ha
                rfl
              · wide_open using ha
            · wide_open using ha
          · wide_open using ha
        · wide_open using ha
      · wide_open using ha
    · wide_open using ha
  (wide_line using hd.1; wide_open with hd.2)
  refine wpAny_bind (wpAny_standAt (wpAny_bind (wpAny_holding ?_)))
  refine wpAny_bind (wpAny_pure (wpAny_bind (wpAny_holding (wpAny_pure (wpAny_holding (wpAny_bind (wpAny_pure ?_)))))))
  refine wpAny_mono (w A env I.room I.fr.kind I.fr.glob I.fr.blt I.fr.code (by wide_open with hce; exact I.fr.cel) H s trivial D R) (fun f s1 q => ?_) fun z9 z9 z => z
  refine o_EAA q fun G1 D1 R1 w1 => ?_; try clear q
  refine wpAny_bind (wpAny_standAt (wpAny_bind (wpAny_bindName (wpAny_mono (store_ok I D1 R1 hp w1) (fun z9 s2 q => ?_) fun z9 z9 z => z))))
  refine o_EEAA q fun m' G2 D2 R2 w2 => ?_; try clear q
  exact wpAny_pure (i_EEEAAA .next m' G2 .next D2 R2 w2)
theorem assign_sts {σ : Sg} {cs : List Addr} {cd : Value} {env : Env} {m : Mm} {t : Expr} {ct : CT} {v : Value} {K : Fl → Mm → GH → Prop} (I : In W A n σ cs cd env m H) (D : Disj H G) (R : W.R (H.un G) s)
    (ht : trT σ t = some ct) (hsep : (assignEach [t] env).map (·.2) = [assign t env]) (h : setT cs ct (er v) m G fun m' G' => K .next m' G') :
    WP W A (assignStores env v none ((assignEach [t] env).map (·.2))) (PostS W H env.locals σ.locs K) s := by
  wide_open with hsep
  refine (?_ : WP W A (assign t env v >>= fun z9 => (pure Flow.next : Sem Flow)) _ s)
  refine wpAny_bind (wpAny_mono (assign_ok I D R ht h) (fun z9 s2 q => ?_) fun z9 z9 z => z)
  refine o_EEAA q fun m' G2 D2 R2 w2 => ?_; try clear q
  exact wpAny_pure (i_EEEAAA .next m' G2 .next D2 R2 w2)
section
variable {σ : Sg} {celn : List Str} {pos : Pos}
theorem s_ret {f : Expr → Option CE} (ih : ∀ e ce, f e = some ce → SE W σ e ce) {v : Option Expr} {c : CE} (h : trO f v = some c) : SS W σ celn (.Return v pos) (.ret c) := fun A n cs cd env m H G s K I D R w => by
  cases v with
  | none => wide_open using h; exact wpAny_Return_none (i_EEEAAA (.ret .none) m G (.ret .none) D (by wide_open with I.same; exact R) w)
  | some e =>
    refine wpAny_Return_some (wpAny_mono ((ih e c h).use I D R w) (fun v s1 q => ?_) fun z9 z9 z => z)
    refine o_EAA q fun G1 D1 R1 w1 => ?_; try clear q
    exact (i_EEEAAA (.ret (er v)) m G1 (.ret v) D1 (by wide_open with I.same; exact R1) w1)
theorem s_expr {v : Expr} {c : CE} (hn : notComp v = true) (hv : SE W σ v c) : SS W σ celn (.Expr v pos) (.expr c) := fun A n cs cd env m H G s K I D R w => by
  refine wpAny_Expr_any (wpAny_mono (hv.use I D R w) (fun v s1 q => ?_) fun z9 z9 z => z) (by unfold interactive; wide_open with I.fr.kind; rfl) (swaps_not hn _ _ _)
  refine o_EAA q fun G1 D1 R1 w1 => ?_; try clear q
  exact (i_EEEAAA .next m G1 .next D1 (by wide_open with I.same; exact R1) w1)
theorem s_if {t : Expr} {a b : List Stmt} {ct : CB} {ca cb : List CS} {f : Stmt → Option CS} (ih : ∀ st c, f st = some c → SS W σ celn st c) (ht : SB W σ t ct) (ha : trL f a = some ca) (hb : trL f b = some cb) : SS W σ celn (.If t a b pos) (.ite ct ca cb) := fun A n cs cd env m H G s K I D R w => by
  refine wpAny_If (wpAny_mono (ht.use I D R w) (fun x s1 q => ?_) fun z9 z9 z => z)
  refine o_EAA q fun G1 D1 R1 w1 => ?_; try clear q
  cases x with
  | true => exact seq_ok ih _ _ ha _ _ _ _ _ _ _ _ _ _ I D1 R1 w1
  | false => exact seq_ok ih _ _ hb _ _ _ _ _ _ _ _ _ _ I D1 R1 w1
theorem s_tuple {es : List Expr} {j : Nat} {p : Pos} {v : Expr} {t : CT} {e : CE} (hs : (!isTupleE v || hasCell σ es) = true) (he : SE W σ v e) (ht : trT σ (.Tuple es j p) = some t) : SS W σ celn (.Assign [.Tuple es j p] v pos) (.set t e) := fun A n cs cd env m H G s K I D R w => by
  wide_open with arm_exec_Assign
  refine wpAny_bind (wpAny_standAt ?_)
  refine (?_ : WP W A (swapsWith v (some (.Tuple es j p)) pos.line env >>= _) _ s)
  wide_open with swaps_tuple
  refine wpAny_bind (wpAny_pure ?_)
  refine wpAny_bind (wpAny_mono (he.use I D R w) (fun v1 s1 q => ?_) fun z9 z9 z => z)
  refine o_EAA q fun G1 D1 R1 w1 => ?_; try clear q
  wide_open with swapped_none I.fr hs
  exact wpAny_bind (wpAny_pure (assign_sts I D1 R1 ht rfl w1))
theorem s_attrS (O : WdOK W mg mb) {o v : Expr} {name : Str} {p : Pos} {i : Nat} {e ob : CE} (hi : W.AT.idxOf? name = some i) (he : SE W σ v e) (ho : SE W σ o ob) : SS W σ celn (.Assign [.Attribute o name p] v pos) (.seta ob i e) := fun A n cs cd env m H G s K I D R w => by
  wide_open with arm_exec_Assign
  refine wpAny_bind (wpAny_standAt ?_)
  have hsw : swapsWith v (some (.Attribute o name p)) pos.line env = pure false := by cases v <;> rfl
  refine (?_ : WP W A (swapsWith v (some (.Attribute o name p)) pos.line env >>= _) _ s)
  wide_open with hsw
  refine wpAny_bind (wpAny_pure ?_)
  refine wpAny_bind (wpAny_mono (he.use I D R w) (fun v1 s1 q => ?_) fun z9 z9 z => z)
  refine o_EAA q fun G1 D1 R1 w1 => ?_; try clear q
  refine wpAny_bind (wpAny_pure ?_)
  refine (?_ : WP W A (assign (.Attribute o name p) env v1 >>= fun z9 => (pure Flow.next : Sem Flow)) _ s1)
  wide_open with arm_assign_Attribute
  refine wpAny_bind (wpAny_bind (wpAny_holding (wpAny_mono (ho.use I D1 R1 w1) (fun ov s2 q => ?_) fun z9 z9 z => z)))
  refine o_EAA q fun G2 D2 R2 w2 => ?_; try clear q
  refine wpAny_bind (wpAny_standAt (wpAny_bind (wpAny_holding (wpAny_mono (seta_ok O rfl (AT_of hi) D2 R2 w2) (fun z9 s3 q => ?_) fun z9 z9 z => z))))
  refine o_EAA q fun G3 D3 R3 w3 => ?_; try clear q
  exact wpAny_release (wpAny_pure (i_EEEAAA .next m G3 .next D3 (by wide_open with I.same; exact R3) w3))
theorem s_item {o i v : Expr} {p : Pos} {e ob ix : CE} (he : SE W σ v e) (ho : SE W σ o ob) (hi : SE W σ i ix) : SS W σ celn (.Assign [.Subscript o i p] v pos) (.seti ob ix e) := fun A n cs cd env m H G s K I D R w => by
  wide_open with arm_exec_Assign
  refine wpAny_bind (wpAny_standAt ?_)
  have hsw : swapsWith v (some (.Subscript o i p)) pos.line env = pure false := by cases v <;> rfl
  refine (?_ : WP W A (swapsWith v (some (.Subscript o i p)) pos.line env >>= _) _ s)
  wide_open with hsw
  refine wpAny_bind (wpAny_pure ?_)
  refine wpAny_bind (wpAny_mono (he.use I D R w) (fun v1 s1 q => ?_) fun z9 z9 z => z)
  refine o_EAA q fun G1 D1 R1 w1 => ?_; try clear q
  refine wpAny_bind (wpAny_pure ?_)
  refine (?_ : WP W A (assign (.Subscript o i p) env v1 >>= fun z9 => (pure Flow.next : Sem Flow)) _ s1)
  wide_open with arm_assign_Subscript
  refine wpAny_bind (wpAny_bind (wpAny_holding (wpAny_mono (ho.use I D1 R1 w1) (fun ov s2 q => ?_) fun z9 z9 z => z)))
  refine o_EAA q fun G2 D2 R2 w2 => ?_; try clear q
  refine wpAny_bind (wpAny_holding (wpAny_mono (hi.use I D2 R2 w2) (fun iv s3 q => ?_) fun z9 z9 z => z))
  refine o_EAA q fun G3 D3 R3 w3 => ?_; try clear q
  refine wpAny_bind (wpAny_standAt (wpAny_bind (wpAny_holding (wpAny_mono (seti_ok rfl rfl D3 R3 w3) (fun z9 s4 q => ?_) fun z9 z9 z => z))))
  refine o_EAA q fun G4 D4 R4 w4 => ?_; try clear q
  exact wpAny_release (wpAny_pure (i_EEEAAA .next m G4 .next D4 (by wide_open with I.same; exact R4) w4))
theorem s_nameS {k : Nat} {x : Str} {p : Pos} {v : Expr} {t : CT} {e : CE} (O : WdOK W mg mb) (he : trE W.AT W.globs k σ v = some e) (hq : notCC e = true) (ht : trT σ (.Name x p) = some t) : SS W σ celn (.Assign [.Name x p] v pos) (.set t e) := fun A n cs cd env m H G s K I D R w => by
  wide_open with arm_exec_Assign
  refine wpAny_bind (wpAny_standAt ?_)
  refine o_EA (swaps_name (v := v) (x := x) (p := p) pos.line env) fun b hb hbc => ?_
  refine (?_ : WP W A (swapsWith v (some (.Name x p)) pos.line env >>= _) _ s)
  wide_open with hb
  refine wpAny_bind (wpAny_pure ?_)
  cases b with
  | false =>
    refine wpAny_bind (wpAny_mono (((sound O k).1 _ _ _ he).use I D R w) (fun v1 s1 q => ?_) fun z9 z9 z => z)
    refine o_EAA q fun G1 D1 R1 w1 => ?_; try clear q
    exact wpAny_bind (wpAny_pure (assign_sts I D1 R1 ht rfl w1))
  | true =>
    cases k with
    | zero => wide_open using he
    | succ k =>
      cases v with
      | ListComp elt gens scope pos2 =>
        have he : trLC2 (trE W.AT W.globs k) (trB W.AT W.globs k) σ elt gens scope = some e := he
        have he1 : trLC (trE W.AT W.globs k) (trB W.AT W.globs k) σ elt gens scope = some e := by
          unfold trLC2 at he
          cases q : trLC (trE W.AT W.globs k) (trB W.AT W.globs k) σ elt gens scope with
          | some c => rw [q] at he; exact he
          | none =>
            rw [q] at he
            refine lcc_parts he fun z9 z9 z9 z9 z9 z9 z9 z9 z9 z9 z9 z9 z9 z9 z9 z9 z9 e2 => ?_
            subst e2
            wide_open using hq
        refine lc_parts he1 fun tt iter ifs it ct cb cel caps e1 h1 h2 h3 hit hct hcb hel hcaps e2 => ?_
        subst e1 e2
        refine wpAny_bind (Q := PostS W H env.locals σ.locs K) ?_
        refine (?_ : WP W A (evalThenUse (.ListComp elt _ scope pos2) env fun v => assign (.Name x p) env v) _ s)
        unfold evalThenUse
        refine wpAny_bind (wpAny_mono (comp_use_ok I D R ((sound O k).1 _ _ _ hit) ((sound O k).1 _ _ _ hel) (hcb.imp id fun ⟨c, e, q⟩ => (i_EA c e ((sound O k).2 _ _ _ q))) hct h1 h2 h3 hcaps ht w) (fun z9 s1 q => wpAny_pure ?_) fun z9 z9 z => z)
        refine o_EEAA q fun m' G2 D2 R2 w2 => ?_; try clear q
        exact wpAny_pure (i_EEEAAA .next m' G2 .next D2 R2 w2)
      | SetComp _ _ _ _ => wide_open using he
      | DictComp _ _ _ _ _ => wide_open using he
      | _ => cases hbc rfl
end
theorem sound_S (O : WdOK W mg mb) (k : Nat) : ∀ j σ celn, celn = σ.cels → ∀ st c, trS W.AT W.globs k j σ st = some c → SS W σ celn st c
  | 0, σ, celn, _, st, c, h => by wide_open using h
  | j + 1, σ, celn, hce, st, c, h => by
    have ih := sound_S O k j σ celn hce
    have ihE := (sound O k).1 σ
    have ihB := (sound O k).2 σ
    cases st with
    | Expr v p =>
      obtain ⟨hn, h⟩ := cnd h
      refine o_EA (mpd h) fun e he e93 => ?_; subst e93
      exact s_expr hn (ihE _ _ he)
    | Pass p =>
      wide_open using h
      exact fun A n cs cd env m H G s K I D R w => wpAny_Pass (i_EEEAAA .next m G .next D (by wide_open with I.same; exact R) w)
    | Return v p =>
      refine o_EA (mpd h) fun e he e93 => ?_; subst e93
      exact s_ret ihE he
    | Assign ts v p =>
      cases ts with
      | nil => wide_open using h
      | cons t r =>
        cases r with
        | cons _ _ => wide_open using h
        | nil =>
          cases t with
          | Name x q =>
            refine o_EA (bnd h) fun e he h => ?_
            obtain ⟨hq, h⟩ := cnd h
            refine o_EA (bnd h) fun t ht h => ?_
            wide_open using h
            exact s_nameS O he hq ht
          | Tuple es i q =>
            obtain ⟨hc, h⟩ := cnd h
            refine o_EA (bnd h) fun e he h => ?_
            refine o_EA (bnd h) fun t ht h => ?_
            wide_open using h
            exact s_tuple hc (ihE _ _ he) ht
          | Attribute o name q =>
            refine o_EA (bnd h) fun i hi h => ?_
            refine o_EA (bnd h) fun e he h => ?_
            refine o_EA (bnd h) fun ob ho h => ?_
            wide_open using h
            exact s_attrS O hi (ihE _ _ he) (ihE _ _ ho)
          | Subscript o i q =>
            obtain ⟨_, h⟩ := cnd' h
            refine o_EA (bnd h) fun e he h => ?_
            refine o_EA (bnd h) fun ob ho h => ?_
            refine o_EA (bnd h) fun ix hi h => ?_
            wide_open using h
            exact s_item (ihE _ _ he) (ihE _ _ ho) (ihE _ _ hi)
          | _ => wide_open using h
    | If t a b p =>
      refine o_EA (bnd h) fun ct ht h => ?_
      refine o_EA (bnd h) fun ca ha h => ?_
      refine o_EA (bnd h) fun cb hb h => ?_
      wide_open using h
      exact s_if ih (ihB _ _ ht) ha hb
    | While t b e p =>
      cases e with
      | cons _ _ => wide_open using h
      | nil =>
        refine o_EA (bnd h) fun ct ht h => ?_
        refine o_EA (bnd h) fun cb hb h => ?_
        wide_open using h
        exact while_ok ih (ihB _ _ ht) hb
    | For t it b e p =>
      cases e with
      | cons _ _ => wide_open using h
      | nil =>
        obtain ⟨hs, h⟩ := cnd h
        refine o_EA (bnd h) fun ct ht h => ?_
        refine o_EA (bnd h) fun ci hi h => ?_
        refine o_EA (bnd h) fun cb hb h => ?_
        wide_open using h
        exact for_ok ih hs ht (ihE _ _ hi) hb
    | Continue p =>
      wide_open using h
      exact fun A n cs cd env m H G s K I D R w => wpAny_Continue (i_EEEAAA .cont m G .cont D (by wide_open with I.same; exact R) w)
    | FunctionDef name args body decs ret typs scope tscope bind pos =>
      obtain ⟨hc, h⟩ := cnd h
      refine o_EA (bnd h) fun p hp h => ?_
      wide_open using h
      cases tscope with
      | some _ => cases (Bool.and_eq_true_iff.mp hc).2
      | none =>
        obtain ⟨hc, h4⟩ := Bool.and_eq_true_iff.mp (Bool.and_eq_true_iff.mp hc).1
        obtain ⟨hc, h3⟩ := Bool.and_eq_true_iff.mp hc
        obtain ⟨hc, h2⟩ := Bool.and_eq_true_iff.mp hc
        obtain ⟨h0, h1⟩ := Bool.and_eq_true_iff.mp hc
        obtain rfl := eq_of_beq h1
        obtain rfl := List.isEmpty_iff.mp h2
        obtain rfl := List.isEmpty_iff.mp h4
        cases ret with
        | some _ => wide_open using h3
        | none => exact fdef_ok hce h0 hp
    | _ => wide_open using h
end Mine
end
section
open PySem PySem.W PySem.Calls PyProof.Rows
namespace Mine
variable {W : Wd} {n : Nat} {A : Around} {H G : GH} {s : Shared} {mg mb : Str → Option Value}
noncomputable def GH.empty : GH := fun z9 => none
theorem Repr.grow {prog w AT B os₀} {U N : GH} (R : Repr prog w AT B os₀ U s) {h' : Heap} {tk : Nat} {dr : Drawn} (hk : ∀ b o, s.heap.get? b = some o → h'.get? b = some o)
    (hN : ∀ a g, N a = some g → s.heap.objs.size ≤ a ∧ g.isInst = false ∧ ∀ d, Own prog w AT h' d a g) : Repr prog w AT B os₀ (GH.un U N) ⟨h', s.gens, dr, tk, s.os⟩ := by
  have lt := fun {a g} (e : U a = some g) => R.lt e
  have fb := fun {a : Addr} (ha : s.heap.objs.size ≤ a) => R.freshB ha
  obtain ⟨d, k, o, i, gn, os⟩ := R
  have low : ∀ {b C fs}, (GH.un U N) b = some (.inst C fs) → U b = some (.inst C fs) := fun {b C fs} e => by
    cases hn : N b with
    | some g =>
      wide_line with GH.un_right hn using e
      have := (hN b _ hn).2.1
      wide_open using this
    | none => rwa [GH.un_left hn] at e
  refine ⟨d, fun b ob eb => hk _ _ (k _ _ eb), fun b g e => ?_, fun b C fs e => ?_, gn, os⟩
  · cases hn : N b with
    | some g' =>
      wide_line with GH.un_right hn using e
      refine o_AA (hN b _ hn) fun h1 z9 h3 => ?_
      exact ⟨fb h1, h3 d⟩
    | none =>
      rw [GH.un_left hn] at e
      exact ⟨(o b g e).1, (o b g e).2.move _ _ _ (hk b) (fun z9 => rfl) fun z9 => hk _⟩
  · refine o_AA (i b C fs (low e)) fun i1 i2 i3 => ?_
    refine (i_AA i1 ?_ (fun c C' fs' ec hc => i3 c C' fs' (low ec) hc))
    cases hn : N (d b) with
    | none => wide_open with GH.un_left hn; exact i2
    | some g =>
      have h1 := (hN _ _ hn).1
      refine o_AAEA ((o b _ (low e)).2) fun z9 z9 mm n94 z9 => ?_; obtain ⟨od, _, _, ed, _⟩ := n94
      exact absurd (lt_of_get ed) (Nat.not_lt.mpr h1)
structure FnSpec where
  params : List Str
  locs : List Str
  cels : List Str
  lsrc : List (Option Nat)
  csrc : List (Option Nat)
  body : List CS
noncomputable def fnFuel : Nat := 40
structure FnOK (W : Wd) (fd : FuncData) (sp : FnSpec) : Prop where
  kind : fd.scope.kind = .function
  co : fd.scope.isCoroutine = false
  gen : fd.scope.isGenerator = false
  body : ∃ b, fd.body = .stmts b ∧ trL (trS W.AT W.globs fnFuel fnFuel ⟨fd.scope.names, sp.locs, sp.cels⟩) b = some sp.body
  glob : fd.globals = mainGlobals
  blt : fd.builtins = builtinsNs
  nd : sp.params.Nodup
  cnd : sp.cels.Nodup
  lsrc : ∀ (x : Str) (i j : Nat), sp.locs.idxOf? x = some i → (sp.lsrc[i]?).join = some j → sp.params[j]? = some x ∧ fd.scope.names.lookup x = some .local
  csrc : ∀ (i j : Nat), (sp.csrc[i]?).join = some j → ∃ x, sp.cels[i]? = some x ∧ sp.params[j]? = some x
  csrc0 : ∀ (x : Str) (i : Nat), sp.cels.idxOf? x = some i → (sp.csrc[i]?).join = none → x ∉ sp.params
  clen : sp.csrc.length = sp.cels.length
  pk : ∀ x ∈ sp.params, fd.scope.names.lookup x = some .local ∨ fd.scope.names.lookup x = some .cell
noncomputable def srcM (src : List (Option Nat)) (vals : List Value) : Mm := src.map fun o => o.bind fun j => vals[j]?
noncomputable def setCs (G : GH) : List Addr → Mm → GH
  | c :: cs, v :: vs => (setCs G cs vs).set c (.cell v)
  | _, _ => G
theorem setCs_cons {G : GH} {c : Addr} {cs : List Addr} {v : Option Value} {vs : Mm} : setCs G (c :: cs) (v :: vs) = (setCs G cs vs).set c (.cell v) := rfl
theorem setCs_nil {G : GH} {vs : Mm} : setCs G [] vs = G := rfl
theorem setCs_nil2 {G : GH} {c : Addr} {cs : List Addr} : setCs G (c :: cs) [] = G := rfl
theorem setCs_other {G : GH} : ∀ {cs : List Addr} {vs : Mm} {a : Addr}, a ∉ cs → setCs G cs vs a = G a
  | [], vs, a, _ => rfl
  | c :: cs, [], a, _ => rfl
  | c :: cs, v :: vs, a, h => by
    simp only [List.mem_cons, not_or] at h
    refine (?_ : ((setCs G cs vs).set c (.cell v)) a = G a)
    wide_open with GH.set_ne _ _ h.1
    exact setCs_other h.2
theorem setCs_un {U : GH} : ∀ {cs : List Addr} {vs : Mm}, setCs U cs vs = GH.un U (setCs (fun z9 => none) cs vs)
  | [], vs => by funext a; simp [setCs_nil, GH.un]
  | c :: cs, [] => by funext a; simp [setCs_nil2, GH.un]
  | c :: cs, v :: vs => by
    refine (?_ : (setCs U cs vs).set c (.cell v) = GH.un U ((setCs (fun z9 => none) cs vs).set c (.cell v)))
    (wide_line using GH.un_set; (first | refine setCs_un ▸ ?_ | rewrite [← setCs_un]); try with_reducible rfl)
theorem setCs_get : ∀ {cs : List Addr} {vs : Mm} {a : Addr} {g : GO}, setCs (fun z9 => none) cs vs a = some g → ∃ (i : Nat) (v : Option Value), cs[i]? = some a ∧ vs[i]? = some v ∧ g = .cell v
  | [], vs, a, g, h => by simp [setCs_nil] at h
  | c :: cs, [], a, g, h => by simp [setCs_nil2] at h
  | c :: cs, v :: vs, a, g, h => by
    by_cases e : a = c
    · subst e
      have h' : ((setCs (fun z9 => none) cs vs).set a (.cell v)) a = some g := h
      rw [GH.set_self] at h'
      wide_open using h'
      exact (i_EEAA 0 v rfl rfl rfl)
    · have h' : ((setCs (fun z9 => none) cs vs).set c (.cell v)) a = some g := h
      rw [GH.set_ne _ _ e] at h'
      refine o_EEAA (setCs_get h') fun i w h1 h2 h3 => ?_
      exact (i_EEAA (i + 1) w (by simpa using h1) (by simpa using h2) h3)
theorem zip_fst_sub : ∀ (ks : List Str) (vs : List Value), ((ks.zip vs).map (·.1)).Sublist ks
  | [], _ => List.Sublist.slnil
  | k :: ks, [] => List.nil_sublist _
  | k :: ks, v :: vs => (zip_fst_sub ks vs).cons₂ k
theorem lookup_zip_rev {ks : List Str} {vs : List Value} (hn : ks.Nodup) {x : Str} {j : Nat} {v : Value} (hx : ks[j]? = some x) (hv : vs[j]? = some v) : (ks.zip vs).reverse.lookup x = some v := by
  have key : ∀ (l : List (Str × Value)), (l.map (·.1)).Nodup → (x, v) ∈ l → l.lookup x = some v := by
    intro l
    induction l with
    | nil => intro _ h; cases h
    | cons p r ih =>
      intro hn h
      obtain ⟨y, w⟩ := p
      simp only [List.map_cons, List.nodup_cons] at hn
      wide_open with List.lookup_cons
      rcases List.mem_cons.mp h with e | h
      · wide_open using e; simp
      · have hne : x ≠ y := by intro e; exact hn.1 (List.mem_map.mpr (i_EA (x, v) h e))
        have : (x == y) = false := by simpa using hne
        wide_open with this; exact ih hn.2 h
  refine key _ ?_ ?_
  · wide_open with List.map_reverse
    unfold List.Nodup
    wide_open with List.pairwise_reverse
    exact (hn.sublist (zip_fst_sub ks vs)).imp fun h => Ne.symm h
  · (wide_line using List.mem_reverse; wide_open with List.mem_iff_getElem?)
    exact ⟨j, by wide_open with List.getElem?_zip_eq_some; exact ⟨hx, hv⟩⟩
theorem srcM_get {src : List (Option Nat)} {vals : List Value} {i : Nat} {v : Value} (h : ((srcM src (vals.map er))[i]?).join = some v) : ∃ j w, (src[i]?).join = some j ∧ vals[j]? = some w ∧ er w = v := by
  unfold srcM at h
  rw [List.getElem?_map] at h
  cases hs : src[i]? with
  | none => wide_line with hs using h
  | some o =>
    rw [hs] at h
    cases o with
    | none => wide_open using h
    | some j =>
      simp only [Option.map_some, Option.bind_some, Option.join_some, List.getElem?_map] at h
      refine o_EA (Option.map_eq_some_iff.mp h) fun w h1 h2 => ?_
      exact (i_EEAA j w rfl h1 h2)
noncomputable def bodyK (K : KV) : Fl → Mm → GH → Prop := fun fl z9 G' => ∃ G'', Sub G'' G' ∧ K (match fl with | .ret v => v | _ => .none) G''
theorem body_end {L : Addr} {ls : List Str} {K : KV} {f : Flow} (hL : H L = none) (q : PostS W (H.set L (.frame ls ([] : Mm))) L ls (bodyK K) f s) :
    Post W H (fun v => K (er v)) (match f with | .ret v => v | _ => .none) s := by
  refine o_EEEAAAEA q fun fl m' G' hf D R G'' hs k => ?_; try clear q
  rw [GH.set_set] at R
  have Dj : Disj H G'' := fun a ha => by
    obtain ⟨g, hg⟩ := Option.isSome_iff_exists.mp ha
    have := D a (by wide_open with hs a g hg; rfl)
    by_cases e : a = L
    · subst e; exact hL
    · rwa [GH.set_ne _ _ e] at this
  refine (i_EAA G'' Dj (R.drop fun a g e => ?_) ?_)
  · cases hg : G'' a with
    | some g2 => rw [GH.un_right hg] at e; wide_open with GH.un_right (hs a g2 hg); exact e
    | none =>
      rw [GH.un_left hg] at e
      have hne : a ≠ L := by rintro rfl; wide_line with hL using e
      have hg' : G' a = none := by
        cases q : G' a with
        | none => rfl
        | some g3 =>
          have := D a (by wide_open with q; rfl)
          rw [GH.set_ne _ _ hne, e] at this; wide_open using this
      (wide_line using GH.un_left hg'; wide_open with GH.set_ne _ _ hne); exact e
  · cases hf with
    | next => exact k
    | cont => exact k
    | ret v => exact k
theorem Room.deeper {A : Around} {n : Nat} (h : Room A (n + 1)) (env : Env) : Room (A.deeper env) n := (i_AA h.1 (by have := h.2.1; refine (?_ : A.depth + 1 + 3 * n < _); lia) (by have := h.2.2; refine (?_ : A.units + 3 + 16 * n < _); lia))
noncomputable abbrev RP (W : Wd) (H : GH) (K : KV) : Result → Shared → Prop := fun r s' => match r with
  | .ok (.ret v) => Post W H (fun v => K (er v)) v s'
  | .ok _ => False
  | .error e => NoE e s'
theorem call_fn (O : WdOK W mg mb) {f : Addr} {fo : Obj} {fd : FuncData} {sp : FnSpec} {cs : List Addr} {args ds : List Value} {K : KV} {vs : List Value} (hA : Room A (n + 1)) (D : Disj H G) (R : W.R (H.un G) s)
    (hf : s.heap.get? f = some fo) (hd : fo.data = .func fd) (hcode : s.heap.CodeRec fd.code fd.qualname) (F : FnOK W fd sp)
    (hcell : ∀ x ∈ fd.scope.names, x.2 ≠ .cell) (hcs : ∀ x i, sp.cels.idxOf? x = some i → ∃ c, fd.closure.lookup x = some c ∧ cs[i]? = some c) 
    (hb : Looks W.M s.heap (bindArgs fd ⟨args, []⟩) (sp.params.zip (args ++ ds))) (hvs : args.map er ++ ds.map er = vs)
    (w : wpSs W n fd.code sp.cels cs sp.body (srcM sp.lsrc vs) G (bodyK K)) :
    codeAny W.M A (.call (.ref f) ⟨args, []⟩) (RP W H K) s := by
  subst hvs
  refine o_EA F.body fun b hb1 hb2 => ?_
  refine codeAny_call_function (Nat.lt_of_le_of_lt (Nat.le_add_right _ _) hA.2.1) hf hd F.co F.gen hb1 hcode (hb.here ?_)
  have hloc : ∀ x ∈ sp.params.zip (args ++ ds), fd.scope.names.lookup x.1 = some .local := fun x hx => by
    have hm : x.1 ∈ sp.params := (List.of_mem_zip hx).1
    rcases F.pk _ hm with h | h
    · exact h
    · exact absurd rfl (hcell _ (mem_of_lookup h))
  refine wpAny_newFunctionEnv hcell hloc (fun h' hns hsb => ⟨(O.lim.keeps R.keep).fresh _ hsb, codeAny_func ?_⟩) F.kind
  have fr := R.fr
  have R1 := R.grow (N := GH.empty.set s.heap.objs.size (.frame sp.locs (srcM sp.lsrc (args.map er ++ ds.map er)))) (h' := h') (tk := s.toks + (sp.params.zip (args ++ ds)).length) (dr := s.drawn)
    (fun b o e => hsb.extBut b o (Nat.ne_of_lt (Heap.lt_size e)) (Heap.get?_push_of_some _ e)) (fun a g e => by
      by_cases ea : a = s.heap.objs.size
      · subst ea
        wide_line with GH.set_self using e
        refine (i_AA (Nat.le_refl _) rfl (fun d => (i_EA _ hns (fun x i v hx hv => ?_))))
        rw [← List.map_append] at hv
        refine o_EEAA (srcM_get hv) fun j wv h1 h2 h3 => ?_
        have h4 := (F.lsrc x i j hx h1).1
        (wide_line using lookup_zip_rev F.nd h4 h2; wide_line using Option.map_some; wide_open with h3)
      · wide_line with GH.set_ne _ _ ea using e)
  generalize hL : s.heap.objs.size = L at *
  have eU : GH.un (H.un G) (GH.empty.set L (.frame sp.locs (srcM sp.lsrc (args.map er ++ ds.map er)))) = (H.set L (.frame sp.locs (srcM sp.lsrc (args.map er ++ ds.map er)))).un G := by
    (wide_line using GH.un_set; wide_open with GH.set_un _ fr.2)
    rfl
  rw [eU] at R1
  have I : In W (A.deeper (newEnv fd.scope L fd.globals fd.closure (fd.qualname ++ ".<locals>.") (some f) fd.code none fd.builtins)) n ⟨fd.scope.names, sp.locs, sp.cels⟩ cs fd.code (newEnv fd.scope L fd.globals fd.closure (fd.qualname ++ ".<locals>.") (some f) fd.code none fd.builtins)
      (srcM sp.lsrc (args.map er ++ ds.map er)) (H.set L (.frame sp.locs (srcM sp.lsrc (args.map er ++ ds.map er)))) :=
    ⟨hA.deeper _, ⟨F.kind, fun x hx => hx, fun x hx => hx, fun x hx => hx, fun x i hx => hcs x i hx, (fun x hx hf => by
      have h2 : fd.scope.names.lookup x = some .free := hf
      have h1 : fd.scope.names.lookup x = some .cell := hx
      wide_line with h1 using h2), F.glob, F.blt, rfl⟩, GH.set_self _ _ _⟩
  have run := seq_ok (sound_S O fnFuel fnFuel ⟨fd.scope.names, sp.locs, sp.cels⟩ sp.cels rfl) b sp.body hb2 _ _ _ _ _ _ _ _ _ _ I (D.setH fr.2) R1 w
  refine wpAny_mono run (fun fl s2 q => ?_) fun z9 z9 z => z.elim
  have q' : PostS W (H.set L (.frame sp.locs ([] : Mm))) L sp.locs (bodyK K) fl s2 := by
    refine o_EEEAAA q fun fl' m' G' h1 h2 h3 h4 => ?_; try clear q
    have h3' : W.R (((H.set L (.frame sp.locs (srcM sp.lsrc (args.map er ++ ds.map er)))).set L (.frame sp.locs m')).un G') s2 := h3
    rw [GH.set_set] at h3'
    refine (i_EEEAAA fl' m' G' h1 (fun a ha => ?_) ?_ h4)
    · have := h2 a ha
      by_cases e : a = L
      · subst e; wide_line with GH.set_self using this
      · rw [GH.set_ne _ _ e] at this ⊢; exact this
    · wide_open with GH.set_set; exact h3'
  have := body_end fr.1 q'
  cases fl <;> exact this
end Mine
end
section
open PySem PySem.W PySem.Calls PyProof.Rows
namespace Mine
variable {W : Wd} {n : Nat} {A : Around} {H G : GH} {s : Shared} {mg mb : Str → Option Value}
theorem bindC_out {k : Str → Option NameKind} {x : Str} : ∀ {l : List (Str × Value)} {m : Str → Option Value}, x ∉ l.map (·.1) → bindC k l m x = m x
  | [], m, _ => rfl
  | (y, v) :: r, m, h => by
    simp only [List.map_cons, List.mem_cons, not_or] at h
    unfold bindC
    wide_open with bindC_out h.2
    split
    · rfl
    · simp [h.1]
theorem bindC_in {k : Str → Option NameKind} {x : Str} {v : Value} (hk : k x ≠ some .local) : ∀ {l : List (Str × Value)} {m : Str → Option Value}, (l.map (·.1)).Nodup → (x, v) ∈ l → bindC k l m x = some v
  | (y, w) :: r, m, hn, h => by
    simp only [List.map_cons, List.nodup_cons] at hn
    unfold bindC
    rcases List.mem_cons.mp h with e | h
    · wide_open using e
      (wide_line using bindC_out hn.1; wide_open with if_neg hk); simp
    · exact bindC_in hk hn.2 h
theorem bindL_out {k : Str → Option NameKind} {x : Str} : ∀ {l : List (Str × Value)} {m : Str → Option Value}, x ∉ l.map (·.1) → bindL k l m x = m x
  | [], m, _ => rfl
  | (y, v) :: r, m, h => by
    simp only [List.map_cons, List.mem_cons, not_or] at h
    unfold bindL
    wide_open with bindL_out h.2
    split
    · simp [h.1]
    · rfl
theorem bindL_in {k : Str → Option NameKind} {x : Str} {v : Value} (hk : k x = some .local) : ∀ {l : List (Str × Value)} {m : Str → Option Value}, (l.map (·.1)).Nodup → (x, v) ∈ l → bindL k l m x = some v
  | (y, w) :: r, m, hn, h => by
    simp only [List.map_cons, List.nodup_cons] at hn
    unfold bindL
    rcases List.mem_cons.mp h with e | h
    · wide_open using e
      (wide_line using bindL_out hn.1; wide_open with if_pos hk); simp
    · exact bindL_in hk hn.2 h
theorem zip_nodup {ks : List Str} {vs : List Value} (hn : ks.Nodup) : ((ks.zip vs).map (·.1)).Nodup := hn.sublist (zip_fst_sub ks vs)
theorem zip_mem {ks : List Str} {vs : List Value} {j : Nat} {x : Str} {v : Value} (h1 : ks[j]? = some x) (h2 : vs[j]? = some v) : (x, v) ∈ ks.zip vs :=
  List.mem_iff_getElem?.mpr ⟨j, by wide_open with List.getElem?_zip_eq_some; exact ⟨h1, h2⟩⟩
theorem idxOf?_get {l : List Str} {x : Str} {i : Nat} (h : l.idxOf? x = some i) : l[i]? = some x := AT_of h
theorem nodup_idx {l : List Str} (hn : l.Nodup) {x : Str} {i : Nat} (h : l[i]? = some x) : l.idxOf? x = some i := by
  induction l generalizing i with
  | nil => wide_open using h
  | cons y r ih =>
    simp only [List.nodup_cons] at hn
    cases i with
    | zero =>
      have e : y = x := by simpa using h
      subst e
      simp [List.idxOf?, List.findIdx?_cons]
    | succ i =>
      have h' : r[i]? = some x := by simpa using h
      have hne : y ≠ x := by
        rintro rfl
        exact hn.1 (List.mem_of_getElem? h')
      have hb : (y == x) = false := by simpa using hne
      have := ih hn.2 h'
      simp only [List.idxOf?] at this ⊢
      (wide_line using List.findIdx?_cons; wide_open with hb)
      simp only [Bool.false_eq_true, if_false, this, Option.map_some]
theorem call_cel (O : WdOK W mg mb) {f : Addr} {fo : Obj} {fd : FuncData} {sp : FnSpec} {args ds : List Value} {K : KV} {vs : List Value} (hA : Room A (n + 1)) (D : Disj H G) (R : W.R (H.un G) s)
    (hf : s.heap.get? f = some fo) (hd : fo.data = .func fd) (hcode : s.heap.CodeRec fd.code fd.qualname) (F : FnOK W fd sp) (hcl : fd.closure = [])
    (hck : ∀ x i, sp.cels.idxOf? x = some i → fd.scope.names.lookup x = some .cell)
    (hb : Looks W.M s.heap (bindArgs fd ⟨args, []⟩) (sp.params.zip (args ++ ds))) (hlen : (args ++ ds).length = sp.params.length) (hvs : args.map er ++ ds.map er = vs)
    (w : ∀ cs : List Addr, cs.length = sp.cels.length → cs.Nodup → (∀ c ∈ cs, G c = none) → wpSs W n fd.code sp.cels cs sp.body (srcM sp.lsrc vs) (setCs G cs (srcM sp.csrc vs)) (bodyK K)) :
    codeAny W.M A (.call (.ref f) ⟨args, []⟩) (RP W H K) s := by
  subst hvs
  refine o_EA F.body fun b hb1 hb2 => ?_
  refine codeAny_call_function (Nat.lt_of_le_of_lt (Nat.le_add_right _ _) hA.2.1) hf hd F.co F.gen hb1 hcode (hb.here ?_)
  wide_open with hcl
  have cellSome : ∀ m x, fd.scope.names.lookup x = some .cell → ((cellsFrom m fd.scope.names []).lookup x).isSome = true := fun m x h => cellsFrom_some _ _ _ (.inl h)
  have hkind : ∀ x ∈ sp.params.zip (args ++ ds), fd.scope.names.lookup x.1 = some .local ∨ (fd.scope.names.lookup x.1 = some .cell ∧ ((cellsFrom (s.heap.objs.size + 1) fd.scope.names []).lookup x.1).isSome = true) := fun x hx => by
    have hm : x.1 ∈ sp.params := (List.of_mem_zip hx).1
    rcases F.pk _ hm with h | h
    · exact .inl h
    · exact .inr ⟨h, cellSome _ _ h⟩
  refine wpAny_newFunctionEnv_cells F.kind hkind fun env he s' x => ?_
  subst he
  refine ⟨(O.lim.keeps R.keep).keeps x.toInCall.keep, codeAny_func ?_⟩
  refine o_EE x.toInCall.same fun h' tk e93 => ?_; subst e93
  have fr := R.fr
  have ns := x.toInCall.ns
  have cell := x.cell
  have apart := x.apart
  have above := x.above
  have keep := x.toInCall.keep
  clear x
  have eL : (newEnv fd.scope s.heap.objs.size fd.globals (cellsFrom (s.heap.objs.size + 1) fd.scope.names []) (fd.qualname ++ ".<locals>.") (some f) fd.code none fd.builtins).locals = s.heap.objs.size := rfl
  have eC : (newEnv fd.scope s.heap.objs.size fd.globals (cellsFrom (s.heap.objs.size + 1) fd.scope.names []) (fd.qualname ++ ".<locals>.") (some f) fd.code none fd.builtins).cells = cellsFrom (s.heap.objs.size + 1) fd.scope.names [] := rfl
  have eK : (newEnv fd.scope s.heap.objs.size fd.globals (cellsFrom (s.heap.objs.size + 1) fd.scope.names []) (fd.qualname ++ ".<locals>.") (some f) fd.code none fd.builtins).kindOf = fun x => fd.scope.names.lookup x := rfl
  rw [eL, eK] at ns
  rw [eC, eK] at cell
  rw [eC] at apart above
  rw [eL] at above
  generalize hcells : cellsFrom (s.heap.objs.size + 1) fd.scope.names [] = cells at *
  have csGet : ∀ y i, sp.cels.idxOf? y = some i → ∃ c, cells.lookup y = some c ∧ (sp.cels.map fun y => (cells.lookup y).getD 0)[i]? = some c := fun y i hy => by
    have h1 := cellSome (s.heap.objs.size + 1) y (hck y i hy)
    rw [hcells] at h1
    obtain ⟨c, hc⟩ := Option.isSome_iff_exists.mp h1
    exact (i_EA c hc (by (wide_line using List.getElem?_map; wide_line using idxOf?_get hy; wide_line using Option.map_some; wide_open with hc); rfl))
  have csInv : ∀ {i c}, (sp.cels.map fun y => (cells.lookup y).getD 0)[i]? = some c → ∃ y, sp.cels.idxOf? y = some i ∧ cells.lookup y = some c := fun {i c} h => by
    rw [List.getElem?_map] at h
    refine o_EA (Option.map_eq_some_iff.mp h) fun y h1 h2 => ?_
    have hy := nodup_idx F.cnd h1
    refine o_EA (csGet y i hy) fun c' h3 h4 => ?_
    rw [h3] at h2
    wide_open using h2
    exact (i_EA y hy h3)
  generalize hcs : (sp.cels.map fun y => (cells.lookup y).getD 0) = cs at csGet csInv
  have csNd : cs.Nodup := by
    ((first | refine hcs ▸ ?_ | rewrite [← hcs]); try with_reducible rfl)
    unfold List.Nodup
    wide_open with List.pairwise_map
    refine List.Pairwise.imp_of_mem ?_ F.cnd
    intro y z hy hz hne e
    obtain ⟨i, hi⟩ := List.mem_iff_getElem?.mp hy
    obtain ⟨j, hj⟩ := List.mem_iff_getElem?.mp hz
    refine o_EA (csGet y i (nodup_idx F.cnd hi)) fun c hc z9 => ?_
    refine o_EA (csGet z j (nodup_idx F.cnd hj)) fun c' hc' z9 => ?_
    rw [hc, hc'] at e
    have e' : c = c' := e
    subst e'
    exact hne (name_of_addr apart (mem_of_lookup hc) (mem_of_lookup hc'))
  have csAbove : ∀ c ∈ cs, s.heap.objs.size < c := fun c hc => by
    obtain ⟨i, hi⟩ := List.mem_iff_getElem?.mp hc
    refine o_EA (csInv hi) fun y z9 hy => ?_
    exact above y c (mem_of_lookup hy)
  have csFresh : ∀ c ∈ cs, (H.un G) c = none := fun c hc => by
    cases q : (H.un G) c with
    | none => rfl
    | some g => exact absurd (R.lt q) (Nat.not_lt.mpr (Nat.le_of_lt (csAbove c hc)))
  have csG : ∀ c ∈ cs, G c = none := fun c hc => by
    cases q : G c with
    | none => rfl
    | some g => have := csFresh c hc; wide_line with GH.un_right q using this
  have csH : ∀ c ∈ cs, H c = none := fun c hc => by
    have := csFresh c hc
    rwa [GH.un_left (csG c hc)] at this
  have Lnot : s.heap.objs.size ∉ cs := fun h => Nat.lt_irrefl _ (csAbove _ h)
  have R1 := R.grow (N := (setCs (fun z9 => none) cs (srcM sp.csrc (args.map er ++ ds.map er))).set s.heap.objs.size (.frame sp.locs (srcM sp.lsrc (args.map er ++ ds.map er)))) (h' := h') (tk := tk) (dr := s.drawn) keep (fun a g e => by
      by_cases ea : a = s.heap.objs.size
      · subst ea
        wide_line with GH.set_self using e
        refine (i_AA (Nat.le_refl _) rfl (fun d => (i_EA _ ns (fun y i v hy hv => ?_))))
        rw [← List.map_append] at hv
        refine o_EEAA (srcM_get hv) fun j wv h1 h2 h3 => ?_
        obtain ⟨h4, h5⟩ := F.lsrc y i j hy h1
        (wide_line using bindL_in h5 (zip_nodup F.nd) (zip_mem h4 h2); wide_line using Option.map_some; wide_open with h3)
      · rw [GH.set_ne _ _ ea] at e
        refine o_EEAA (setCs_get e) fun i v h1 h2 e95 => ?_; subst e95
        refine (i_AA (Nat.le_of_lt (csAbove a (List.mem_of_getElem? h1))) rfl (fun d => ?_))
        refine o_EA (csInv h1) fun y hy1 hy2 => ?_
        refine (i_EA _ (cell y a hy2) ?_)
        have hkc : (fun x => fd.scope.names.lookup x) y ≠ some .local := by
          refine (?_ : fd.scope.names.lookup y ≠ _)
          wide_open with hck y i hy1; decide
        unfold srcM at h2
        rw [List.getElem?_map] at h2
        refine o_EA (Option.map_eq_some_iff.mp h2) fun o h3 h4 => ?_
        cases o with
        | none =>
          have hout := F.csrc0 y i hy1 (by wide_open with h3; rfl)
          have : y ∉ (sp.params.zip (args ++ ds)).map (·.1) := fun hm => hout ((zip_fst_sub _ _).subset hm)
          wide_open with bindC_out this
          ((first | refine h4 ▸ ?_ | rewrite [← h4]); try with_reducible rfl); rfl
        | some j =>
          refine o_EA (F.csrc i j (by wide_open with h3; rfl)) fun y' e1 e2 => ?_
          rw [idxOf?_get hy1] at e1
          wide_open using e1
          have hj : j < (args ++ ds).length := by
            wide_open with hlen
            exact (List.getElem?_eq_some_iff.mp e2).1
          have h5 : (args ++ ds)[j]? = some (args ++ ds)[j] := List.getElem?_eq_getElem hj
          (wide_line using bindC_in hkc (zip_nodup F.nd) (zip_mem e2 h5); (first | refine h4 ▸ ?_ | rewrite [← h4]); try with_reducible rfl)
          simp only [Option.bind_some, ← List.map_append, List.getElem?_map, h5, Option.map_some])
  have eU : GH.un (H.un G) ((setCs (fun z9 => none) cs (srcM sp.csrc (args.map er ++ ds.map er))).set s.heap.objs.size (.frame sp.locs (srcM sp.lsrc (args.map er ++ ds.map er)))) =
      (H.set s.heap.objs.size (.frame sp.locs (srcM sp.lsrc (args.map er ++ ds.map er)))).un (setCs G cs (srcM sp.csrc (args.map er ++ ds.map er))) := by
    (wide_line using GH.un_set; wide_open with GH.set_un _ (by wide_open with setCs_other Lnot; exact fr.2))
    congr 1
    wide_open with setCs_un (U := G)
    funext a
    simp only [GH.un]
    cases setCs (fun z9 => none) cs (srcM sp.csrc (args.map er ++ ds.map er)) a <;> rfl
  rw [eU] at R1
  generalize hL : s.heap.objs.size = L at *
  have Dc : Disj H (setCs G cs (srcM sp.csrc (args.map er ++ ds.map er))) := fun a ha => by
    by_cases hm : a ∈ cs
    · exact csH a hm
    · rw [setCs_other hm] at ha; exact D a ha
  have I : In W (A.deeper (newEnv fd.scope L fd.globals cells (fd.qualname ++ ".<locals>.") (some f) fd.code none fd.builtins)) n ⟨fd.scope.names, sp.locs, sp.cels⟩ cs fd.code (newEnv fd.scope L fd.globals cells (fd.qualname ++ ".<locals>.") (some f) fd.code none fd.builtins)
      (srcM sp.lsrc (args.map er ++ ds.map er)) (H.set L (.frame sp.locs (srcM sp.lsrc (args.map er ++ ds.map er)))) :=
    ⟨hA.deeper _, ⟨F.kind, fun x hx => hx, fun x hx => hx, fun x hx => hx, fun x i hx => csGet x i hx, (fun x hx hf => by
      have h2 : fd.scope.names.lookup x = some .free := hf
      have h1 : fd.scope.names.lookup x = some .cell := hx
      wide_line with h1 using h2), F.glob, F.blt, rfl⟩, GH.set_self _ _ _⟩
  have run := seq_ok (sound_S O fnFuel fnFuel ⟨fd.scope.names, sp.locs, sp.cels⟩ sp.cels rfl) b sp.body hb2 _ _ _ _ _ _ _ _ _ _ I (Dc.setH (by wide_open with setCs_other Lnot; exact fr.2)) R1 (w cs (by ((first | refine hcs ▸ ?_ | rewrite [← hcs]); try with_reducible rfl); simp) csNd csG)
  refine wpAny_mono run (fun fl s2 q => ?_) fun z9 z9 z => z.elim
  have q' : PostS W (H.set L (.frame sp.locs ([] : Mm))) L sp.locs (bodyK K) fl s2 := by
    refine o_EEEAAA q fun fl' m' G' h1 h2 h3 h4 => ?_; try clear q
    have h3' : W.R (((H.set L (.frame sp.locs (srcM sp.lsrc (args.map er ++ ds.map er)))).set L (.frame sp.locs m')).un G') s2 := h3
    rw [GH.set_set] at h3'
    refine (i_EEEAAA fl' m' G' h1 (fun a ha => ?_) ?_ h4)
    · have := h2 a ha
      by_cases e : a = L
      · subst e; wide_line with GH.set_self using this
      · rw [GH.set_ne _ _ e] at this ⊢; exact this
    · wide_open with GH.set_set; exact h3'
  have := body_end fr.1 q'
  cases fl <;> exact this
end Mine
end
section
open PySem PySem.W PySem.Calls PyProof.Rows
namespace Mine
variable {W : Wd} {n : Nat} {A : Around} {H G : GH} {s : Shared} {mg mb : Str → Option Value}
structure FnAt (W : Wd) (f : Addr) (sp : FnSpec) (code : Value) (k : Nat) (dv : List Value) : Prop where
  ex : ∃ fo fd, W.B.get? f = some fo ∧ fo.data = .func fd ∧ fd.code = code ∧ W.B.CodeRec fd.code fd.qualname ∧ FnOK W fd sp ∧ fd.closure = [] ∧
    ((sp.cels = [] ∧ ∀ x ∈ fd.scope.names, x.2 ≠ .cell) ∨ (∀ x i, sp.cels.idxOf? x = some i → fd.scope.names.lookup x = some .cell)) ∧
    k + dv.length = sp.params.length ∧ ∀ args : List Value, args.length = k → ∃ ds, ds.map er = dv ∧ Looks W.M W.B (bindArgs fd ⟨args, []⟩) (sp.params.zip (args ++ ds))
noncomputable def CallC (W : Wd) (n : Nat) (f : Value) (args : List Value) (G : GH) (K : KV) : Prop :=
  ∀ A fv vs, Room A n → er fv = f → vs.map er = args → ∀ H s, Disj H G → W.R (H.un G) s → codeAny W.M A (.call fv ⟨vs, []⟩) (RP W H K) s
theorem CallC.T {f : Value} {args : List Value} {K : KV} (h : CallC W n f args G K) : CallT W n f args G K :=
  fun A fv vs hA hf hv H s z9 D R => wpAny_call (codeAny_mono (h A fv vs hA hf hv H s D R) fun r s' q => by
    rcases r with e | (v | _ | _ | _) <;> exact q)
theorem Sub.refl (G : GH) : Sub G G := fun z9 z9 h => h
theorem Room.mono {A : Around} {m : Nat} (h : Room A n) (hm : m ≤ n) : Room A m := (i_AA h.1 (by have := h.2.1; lia) (by have := h.2.2; lia))
theorem CallT.room {f : Value} {args : List Value} {m : Nat} {K : KV} (h : CallT W m f args G K) (hm : m ≤ n) : CallT W n f args G K :=
  fun A fv vs hA hf hv H s p D R => h A fv vs (hA.mono hm) hf hv H s p D R
theorem callT_fn (O : WdOK W mg mb) {f : Addr} {sp : FnSpec} {code : Value} {k : Nat} {dv args : List Value} {K : KV} (F : FnAt W f sp code k dv) (hk : args.length = k) (hc : sp.cels = [])
    (w : wpSs W n code [] [] sp.body (srcM sp.lsrc (args ++ dv)) G (bodyK K)) : CallC W (n + 1) (.ref f) args G K := by
  intro A fv vs hA hf hv H s D R
  wide_open with er_ref hf
  refine o_EEAAAAAAAA F.ex fun fo fd h1 h2 e95 h3 h4 h5 h6 h7 h8 => ?_; subst e95
  refine o_EA (h8 vs (by ((first | refine hk ▸ ?_ | rewrite [← hk]); (first | refine hv ▸ ?_ | rewrite [← hv]); try with_reducible rfl); simp)) fun ds e1 e2 => ?_
  have hcell : ∀ x ∈ fd.scope.names, x.2 ≠ .cell ∨ True := fun z9 z9 => .inr trivial
  rcases h6 with ⟨_, h6⟩ | h6
  · exact call_fn O hA D R (R.keep _ _ h1) h2 (h3.keeps R.keep) h4 h6 (cs := []) (fun x i hx => by wide_line with hc using hx) (e2.keeps R.keep) (by rw [hv, e1]) (by rw [hc]; exact w)
  · refine call_cel O hA D R (R.keep _ _ h1) h2 (h3.keeps R.keep) h4 h5 h6 (e2.keeps R.keep) (by rw [List.length_append, ← h7, ← hk, ← hv, ← e1]; simp) (by rw [hv, e1]) fun cs hl z9 z9 => ?_
    have : cs = [] := by rw [hc] at hl; exact List.length_eq_zero_iff.mp hl
    subst this
    wide_open with hc
    exact w
theorem callT_cel (O : WdOK W mg mb) {f : Addr} {sp : FnSpec} {code : Value} {k : Nat} {dv args : List Value} {K : KV} (F : FnAt W f sp code k dv) (hk : args.length = k) (hc : sp.cels ≠ [])
    (w : ∀ cs : List Addr, cs.length = sp.cels.length → cs.Nodup → (∀ c ∈ cs, G c = none) → wpSs W n code sp.cels cs sp.body (srcM sp.lsrc (args ++ dv)) (setCs G cs (srcM sp.csrc (args ++ dv))) (bodyK K)) :
    CallC W (n + 1) (.ref f) args G K := by
  intro A fv vs hA hf hv H s D R
  wide_open with er_ref hf
  refine o_EEAAAAAAAA F.ex fun fo fd h1 h2 e95 h3 h4 h5 h6 h7 h8 => ?_; subst e95
  refine o_EA (h8 vs (by ((first | refine hk ▸ ?_ | rewrite [← hk]); (first | refine hv ▸ ?_ | rewrite [← hv]); try with_reducible rfl); simp)) fun ds e1 e2 => ?_
  rcases h6 with ⟨h6, _⟩ | h6
  · exact absurd h6 hc
  · exact call_cel O hA D R (R.keep _ _ h1) h2 (h3.keeps R.keep) h4 h5 h6 (e2.keeps R.keep) (by (wide_line using List.length_append; (first | refine h7 ▸ ?_ | rewrite [← h7]); (first | refine hk ▸ ?_ | rewrite [← hk]); (first | refine hv ▸ ?_ | rewrite [← hv]); (first | refine e1 ▸ ?_ | rewrite [← e1]); try with_reducible rfl); simp) (by (wide_line using hv; wide_open with e1)) w
theorem callT_cls (O : WdOK W mg mb) {C : Addr} {sp : ClsSpec} {args : List Value} {K : KV} (hC : W.cls.lookup C = some sp)
    (w : ∀ a, G a = none → CallC W n (.ref sp.init) (.ref a :: args) (G.set a (.inst C [])) fun r G' => r = .none ∧ K (.ref a) G') : CallC W (n + 1) (.ref C) args G K := by
  intro A fv vs hA hf hv H s D R
  wide_open with er_ref hf
  refine o_AAA (cls_of O hC) fun c1 c2 c3 z9 => ?_
  have X := Repr.KIn O R
  have Rn := fun tk dr => R.pushInst C (tk := tk) (dr := dr)
  have fr := R.fr
  have fr1 : (H.un G) (s.heap.objs.size + 1) = none := by
    cases q : (H.un G) (s.heap.objs.size + 1) with
    | none => rfl
    | some g => exact absurd (R.lt q) (Nat.not_lt.mpr (Nat.le_succ _))
  have g1 : G (s.heap.objs.size + 1) = none := by
    cases q : G (s.heap.objs.size + 1) with
    | none => rfl
    | some g => wide_line with GH.un_right q using fr1
  have h1 : H (s.heap.objs.size + 1) = none := by rwa [GH.un_left g1] at fr1
  obtain ⟨hh, gg, dd, tt, oo⟩ := s
  refine make_core (makes_of X c1) (looks_findIn X c2) (fun self => bind_fn X self c3) (.inl rfl) ?_
  have R2 := Rn tt dd
  rw [← GH.un_set] at R2
  have hA2 : Room (A.under (.builtin "type.__call__" ⟨.ref C :: vs, []⟩)) n := by
    have e1 : (Code.builtin "type.__call__" ⟨.ref C :: vs, []⟩).weight = 1 := rfl
    have e2 : (Code.builtin "type.__call__" ⟨.ref C :: vs, []⟩).cUnits = 1 := rfl
    refine (i_AA hA.1 ?_ ?_)
    · refine (?_ : A.depth + _ + 3 * n < _); wide_open with e1; have := hA.2.1; lia
    · refine (?_ : A.units + _ + 16 * n < _); wide_open with e2; have := hA.2.2; lia
  refine codeAny_mono (w (hh.objs.size + 1) g1 _ (.ref sp.init) (.ref (hh.objs.size + 1) :: vs) hA2 rfl (by simp [hv, er]) H _ (D.setG h1) R2) fun r s' q => ?_
  rcases r with e | (_ | _ | _ | v)
  · exact q.elim
  · exact q.elim
  · exact q.elim
  · exact q.elim
  · refine o_EAAA q fun G' D' R' hr k => ?_; try clear q
    exact (i_AEAA (er_none hr) G' D' R' k)
end Mine
end
section
open PySem PySem.W PySem.Calls PyProof.Rows
namespace Mine
variable {W : Wd} {n : Nat} {G : GH}
noncomputable def Still (s s' : Shared) : Prop := s'.heap = s.heap ∧ s'.gens = s.gens ∧ s'.os = s.os
theorem Still.refl (s : Shared) : Still s s := (i_AA rfl rfl rfl)
theorem Still.tok (s : Shared) (k : Nat) : Still s { s with toks := k } := (i_AA rfl rfl rfl)
theorem binG_still {op : Operator} {a b r : Value} {K : KV} (k : K r G)
    (h : ∀ A va vb (H : GH) s, Room A n → er va = a → er vb = b → W.R (H.un G) s → wpAny W.M A (binaryOp op va vb) (fun v s' => er v = r ∧ Still s s') (fun z9 z9 => False) s) : binG W n op a b G K :=
  fun A va vb hA ha hb H s z9 D R => wpAny_mono (h A va vb H s hA ha hb R) (fun v s' q => (i_EAA G D (R.irr q.2.1 q.2.2.1 q.2.2.2) (by refine (?_ : K (er v) G); wide_open with q.1; exact k))) fun z9 z9 z => z
theorem cmpG_still {op : CmpOp} {a b : Value} {r : Bool} {K : Bool → GH → Prop} (k : K r G)
    (h : ∀ A va vb (H : GH) s, Room A n → er va = a → er vb = b → W.R (H.un G) s → wpAny W.M A (compareOp op va vb) (fun v s' => v = .bool r ∧ Still s s') (fun z9 z9 => False) s) : cmpG W n op a b G K :=
  fun A va vb hA ha hb H s z9 D R => wpAny_mono (h A va vb H s hA ha hb R) (fun v s' q => (i_EAAEA G D (R.irr q.2.1 q.2.2.1 q.2.2.2) r q.1 k)) fun z9 z9 z => z
theorem callT_still {f : Value} {as : List Value} {r : Value} {K : KV} (k : K r G)
    (h : ∀ A fv vs (H : GH) s, Room A n → er fv = f → vs.map er = as → W.R (H.un G) s → wpAny W.M A (call fv vs) (fun v s' => er v = r ∧ Still s s') (fun z9 z9 => False) s) : CallT W n f as G K :=
  fun A fv vs hA ha hb H s z9 D R => wpAny_mono (h A fv vs H s hA ha hb R) (fun v s' q => (i_EAA G D (R.irr q.2.1 q.2.2.1 q.2.2.2) (by refine (?_ : K (er v) G); wide_open with q.1; exact k))) fun z9 z9 z => z
variable {a b : Int} {K : KV}
theorem add_ok (k : K (.int (a + b) 0) G) : binG W n .Add (.int a 0) (.int b 0) G K := binG_still k fun A va vb H s hA ha hb R => by
  obtain ⟨t, rfl⟩ := er_int ha; obtain ⟨u, rfl⟩ := er_int hb; exact P.add_int ⟨rfl, Still.tok _ _⟩
theorem div_ok (h : b ≠ 0) (h2 : Builtin.divisionGoesByPylong a b = false) (k : K (.int (a.fdiv b) 0) G) : binG W n .FloorDiv (.int a 0) (.int b 0) G K := binG_still k fun A va vb H s hA ha hb R => by
  obtain ⟨t, rfl⟩ := er_int ha; obtain ⟨u, rfl⟩ := er_int hb; exact floordiv_int h ⟨rfl, Still.tok _ _⟩ (.inl h2)
theorem mod_ok (h : b ≠ 0) (k : K (.int (a.fmod b) 0) G) : binG W n .Mod (.int a 0) (.int b 0) G K := binG_still k fun A va vb H s hA ha hb R => by
  obtain ⟨t, rfl⟩ := er_int ha; obtain ⟨u, rfl⟩ := er_int hb; exact mod_int' h ⟨rfl, Still.tok _ _⟩
theorem and_ok (k : K (.int (Builtin.bitAnd a b) 0) G) : binG W n .BitAnd (.int a 0) (.int b 0) G K := binG_still k fun A va vb H s hA ha hb R => by
  obtain ⟨t, rfl⟩ := er_int ha; obtain ⟨u, rfl⟩ := er_int hb; exact and_int ⟨rfl, Still.tok _ _⟩
theorem pow_ok (h0 : 0 ≤ b) (h : b ≤ 1000000) (h1 : a.natAbs < 2 ^ 64) (k : K (.int (a ^ b.toNat) 0) G) : binG W n .Pow (.int a 0) (.int b 0) G K := binG_still k fun A va vb H s hA ha hb R => by
  obtain ⟨t, rfl⟩ := er_int ha; obtain ⟨u, rfl⟩ := er_int hb; exact pow_int_small h0 h h1 ⟨rfl, Still.tok _ _⟩
noncomputable def cmpI : CmpOp → Int → Int → Option Bool
  | .Eq, a, b => some (decide (a = b))
  | .NotEq, a, b => some (!decide (a = b))
  | .Lt, a, b => some (decide (a < b))
  | .LtE, a, b => some (decide (a ≤ b))
  | .Gt, a, b => some (decide (b < a))
  | .GtE, a, b => some (decide (b ≤ a))
  | _, _, _ => none
variable {C : Bool → GH → Prop}
theorem cmpI_ok {op : CmpOp} {r : Bool} (h : cmpI op a b = some r) (k : C r G) : cmpG W n op (.int a 0) (.int b 0) G C := cmpG_still k fun A va vb H s hA ha hb R => by
  obtain ⟨t, rfl⟩ := er_int ha; obtain ⟨u, rfl⟩ := er_int hb
  cases op <;> first | (have h := Option.some.inj h; subst h) | wide_open using h
  · exact P.eq_int ⟨by congr 1, Still.refl _⟩
  · exact P.ne_int ⟨by congr 1, Still.refl _⟩
  · exact P.lt_int ⟨rfl, Still.refl _⟩
  · exact P.le_int ⟨rfl, Still.refl _⟩
  · exact P.gt_int ⟨rfl, Still.refl _⟩
  · exact P.ge_int ⟨rfl, Still.refl _⟩
noncomputable def isN : Value → Bool
  | .none => true
  | _ => false
theorem beq_none (v : Value) : (v == .none) = isN (er v) := by cases v <;> rfl
theorem plainNone {v : Value} (h : isBlt (er v) = false) : PySem.plainIs v .none = true := by cases v <;> first | rfl | wide_open using h
theorem is_none_ok {a : Value} (h : isBlt a = false) (k : C (isN a) G) : cmpG W n .Is a .none G C := cmpG_still k fun A va vb H s hA ha hb R => by
  wide_open with er_none hb
  subst ha
  exact wpAny_is_plain (plainNone h) ⟨by wide_open with beq_none, Still.refl _⟩
theorem isNot_none_ok {a : Value} (h : isBlt a = false) (k : C (!isN a) G) : cmpG W n .IsNot a .none G C := cmpG_still k fun A va vb H s hA ha hb R => by
  wide_open with er_none hb
  subst ha
  exact wpAny_isNot_plain (plainNone h) ⟨by wide_open with beq_none, Still.refl _⟩
end Mine
end
section
open PySem PySem.W PySem.Calls PyProof.Rows PySem.SeqAt
namespace Mine
variable {W : Wd} {n : Nat} {G H : GH} {C : Bool → GH → Prop} {K : KV} {s : Shared}
mutual
inductive GRd (G : GH) : Value → PyData → Prop
  | none : GRd G .none .none
  | bool (b) : GRd G (.bool b) (.bool b)
  | int (i) : GRd G (.int i 0) (.int i)
  | str (x) : GRd G (.str x 0) (.str x)
  | list {a vs ds} : G a = some (.list vs) → GRds G vs ds → GRd G (.ref a) (.list ds)
  | tup {a vs ds} : G a = some (.tup vs) → GRds G vs ds → GRd G (.ref a) (.tuple ds)
inductive GRds (G : GH) : List Value → List PyData → Prop
  | nil : GRds G [] []
  | cons {v vs d ds} : GRd G v d → GRds G vs ds → GRds G (v :: vs) (d :: ds)
end
theorem reads_both (R : W.R (H.un G) s) :
    (∀ {u : Value} {d : PyData}, GRd G u d → ∀ v, er v = u → ∃ as, Reads s.heap v d as) ∧ (∀ {us : List Value} {ds : List PyData}, GRds G us ds → ∀ vs : List Value, vs.map er = us → ∃ as, ReadsAll s.heap vs ds as) := by
  refine ⟨fun {u d} h => GRd.rec (G := G) (motive_1 := fun u d z9 => ∀ v, er v = u → ∃ as, Reads s.heap v d as) (motive_2 := fun us ds z9 => ∀ vs : List Value, vs.map er = us → ∃ as, ReadsAll s.heap vs ds as) ?_ ?_ ?_ ?_ ?_ ?_ ?_ ?_ h,
    fun {u d} h => GRds.rec (G := G) (motive_1 := fun u d z9 => ∀ v, er v = u → ∃ as, Reads s.heap v d as) (motive_2 := fun us ds z9 => ∀ vs : List Value, vs.map er = us → ∃ as, ReadsAll s.heap vs ds as) ?_ ?_ ?_ ?_ ?_ ?_ ?_ ?_ h⟩
  all_goals first
    | (intro v e; wide_open with er_none e; exact ⟨_, .none⟩)
    | (intro b v e; wide_open with er_bool e; exact ⟨_, .bool b⟩)
    | (intro b v e; obtain ⟨t, rfl⟩ := er_int e; exact ⟨_, .int b t⟩)
    | (intro b v e; obtain ⟨t, rfl⟩ := er_str e; exact ⟨_, .str b t⟩)
    | (intro a vs ds hg _ ih v e
       wide_open with er_ref e
       refine o_EAA (R.list (GH.un_right hg)) fun us n92 he z9 => ?_; obtain ⟨m, hl⟩ := n92
       obtain ⟨as, h⟩ := ih _ he
       exact ⟨_, .list hl rfl rfl h⟩)
    | (intro a vs ds hg _ ih v e
       wide_open with er_ref e
       refine o_EAA (R.tup (GH.un_right hg)) fun us n92 he z9 => ?_; obtain ⟨_, hl, hc, m, hd⟩ := n92
       obtain ⟨as, h⟩ := ih _ he
       exact ⟨_, .tuple hl hc hd h⟩)
    | (intro vs e
       cases vs with
       | nil => exact ⟨_, .nil⟩
       | cons _ _ => wide_open using e)
    | (intro v vs d ds _ _ i1 i2 us e
       cases us with
       | nil => wide_open using e
       | cons x xs =>
         simp only [List.map_cons, List.cons.injEq] at e
         obtain ⟨as, k1⟩ := i1 _ e.1
         obtain ⟨bs, k2⟩ := i2 _ e.2
         exact ⟨_, .cons k1 k2⟩)
theorem reads_of (R : W.R (H.un G) s) {d : PyData} {u v : Value} (e : er v = u) (h : GRd G u d) : ∃ as, Reads s.heap v d as := (reads_both R).1 h v e
theorem room_units {A : Around} (h : Room A n) : A.units + 64 < cLine := by have := h.2.2; refine (?_ : _ < 9900); lia
theorem eq_data_ok {a b : Value} {da db : PyData} (ha : GRd G a da) (hb : GRd G b db) (sa : shaped da = true) (sb : shaped db = true) (hm : noMix da db = true) (k : C (PySem.Spec.same da db) G) : cmpG W n .Eq a b G C :=
  cmpG_still k fun A va vb H s hA ea eb R => by
    obtain ⟨as, r1⟩ := reads_of R ea ha
    obtain ⟨bs, r2⟩ := reads_of R eb hb
    exact eq_dataH_same r1 r2 sa sb (room_units hA) hm ⟨rfl, Still.refl _⟩
theorem ne_data_ok {a b : Value} {da db : PyData} (ha : GRd G a da) (hb : GRd G b db) (sa : shaped da = true) (sb : shaped db = true) (hm : noMix da db = true) (k : C (!PySem.Spec.same da db) G) : cmpG W n .NotEq a b G C :=
  cmpG_still k fun A va vb H s hA ea eb R => by
    obtain ⟨as, r1⟩ := reads_of R ea ha
    obtain ⟨bs, r2⟩ := reads_of R eb hb
    exact ne_dataH_same r1 r2 sa sb (room_units hA) hm ⟨rfl, Still.refl _⟩
theorem eq_str_ok {x y : Str} (k : C (x == y) G) : cmpG W n .Eq (.str x 0) (.str y 0) G C := cmpG_still k fun A va vb H s hA ha hb R => by
  obtain ⟨t, rfl⟩ := er_str ha; obtain ⟨u, rfl⟩ := er_str hb; exact PyProof.Rows.eq_str ⟨rfl, Still.refl _⟩
noncomputable def vInt (i : Int) : Value := .int i 0
noncomputable def vStr (x : Str) : Value := .str x 0
theorem ints_of : ∀ {ns : List Int} {vs : List Value}, vs.map er = ns.map vInt → IntsAre vs ns
  | [], [], _ => .nil
  | [], _ :: _, h => by wide_open using h
  | _ :: _, [], h => by wide_open using h
  | i :: ns, v :: vs, h => by
    simp only [List.map_cons, List.cons.injEq] at h
    obtain ⟨t, rfl⟩ := er_int h.1
    exact .cons i t (ints_of h.2)
theorem strs_of : ∀ {ns : List Str} {vs : List Value}, vs.map er = ns.map vStr → StrsAre vs ns
  | [], [], _ => .nil
  | [], _ :: _, h => by wide_open using h
  | _ :: _, [], h => by wide_open using h
  | i :: ns, v :: vs, h => by
    simp only [List.map_cons, List.cons.injEq] at h
    obtain ⟨t, rfl⟩ := er_str h.1
    exact .cons i t (strs_of h.2)
theorem notin_strs_ok {a : Addr} {ns : List Str} {i : Str} (h : G a = some (.tup (ns.map vStr))) (k : C (!ns.any (· == i)) G) : cmpG W n .NotIn (vStr i) (.ref a) G C := cmpG_still k fun A va vb H s hA ha hb R => by
  obtain ⟨t, rfl⟩ := er_str ha; wide_open with er_ref hb
  refine o_EAA (R.tup (GH.un_right h)) fun us hl he z9 => ?_
  exact notin_tuple_strs hl (strs_of he) ⟨rfl, Still.refl _⟩
noncomputable def BStrs (W : Wd) (a : Addr) (ns : List Str) : Prop := ∃ us, IsTup W.B a us ∧ StrsAre us.toList ns
theorem notin_base_ok {a : Addr} {ns : List Str} {i : Str} (h : BStrs W a ns) (k : C (!ns.any (· == i)) G) : cmpG W n .NotIn (vStr i) (.ref a) G C := cmpG_still k fun A va vb H s hA ha hb R => by
  obtain ⟨t, rfl⟩ := er_str ha; wide_open with er_ref hb
  refine o_EA h fun us hl he => ?_; try clear h
  exact notin_tuple_strs (hl.keeps R.keep) he ⟨rfl, Still.refl _⟩
theorem in_list_ok {a : Addr} {ns : List Int} {i : Int} (h : G a = some (.list (ns.map vInt))) (k : C (ns.any (· == i)) G) : cmpG W n .In (vInt i) (.ref a) G C := cmpG_still k fun A va vb H s hA ha hb R => by
  obtain ⟨t, rfl⟩ := er_int ha; wide_open with er_ref hb
  refine o_EAA (R.list (GH.un_right h)) fun us hl he z9 => ?_
  exact PyProof.Rows.in_list_ints (vs := us.toList) (by simpa using hl.isList) (ints_of he) ⟨rfl, Still.refl _⟩
theorem notin_list_ok {a : Addr} {ns : List Int} {i : Int} (h : G a = some (.list (ns.map vInt))) (k : C (!ns.any (· == i)) G) : cmpG W n .NotIn (vInt i) (.ref a) G C := cmpG_still k fun A va vb H s hA ha hb R => by
  obtain ⟨t, rfl⟩ := er_int ha; wide_open with er_ref hb
  refine o_EAA (R.list (GH.un_right h)) fun us hl he z9 => ?_
  exact PyProof.Rows.notin_list_ints (vs := us.toList) (by simpa using hl.isList) (ints_of he) ⟨rfl, Still.refl _⟩
end Mine
end
section
open PySem PySem.W PySem.Calls PyProof.Rows PySem.SeqAt
namespace Mine
variable {W : Wd} {n : Nat} {G H : GH} {C : Bool → GH → Prop} {K : KV} {s : Shared}
theorem GH.un_empty (U : GH) : GH.un U GH.empty = U := by funext a; rfl
theorem Repr.kept {prog w AT B os₀} {U : GH} (R : Repr prog w AT B os₀ U s) {h' : Heap} {tk : Nat} {dr : Drawn} (hk : ∀ b o, s.heap.get? b = some o → h'.get? b = some o) : Repr prog w AT B os₀ U ⟨h', s.gens, dr, tk, s.os⟩ := by
  have := Repr.grow (N := GH.empty) R (h' := h') (tk := tk) (dr := dr) hk (fun a g e => by wide_open using e)
  rwa [GH.un_empty] at this
theorem Repr.newAt (R : W.R (H.un G) s) {h' : Heap} {tk : Nat} {dr : Drawn} (hk : ∀ b o, s.heap.get? b = some o → h'.get? b = some o) {a : Addr} {g : GO} (ha : s.heap.objs.size ≤ a) (hg : g.isInst = false)
    (ho : ∀ d, Own W.prog W.w W.AT h' d a g) : H a = none ∧ G a = none ∧ W.R (H.un (G.set a g)) ⟨h', s.gens, dr, tk, s.os⟩ := by
  have fr : (H.un G) a = none := by
    cases q : (H.un G) a with
    | none => rfl
    | some x => exact absurd (R.lt q) (Nat.not_lt.mpr ha)
  have gn : G a = none := by
    cases q : G a with
    | none => rfl
    | some x => wide_line with GH.un_right q using fr
  have hn : H a = none := by rwa [GH.un_left gn] at fr
  refine (i_AA hn gn ?_)
  have := Repr.grow (N := GH.empty.set a g) R (h' := h') (tk := tk) (dr := dr) hk (fun b x e => by
    by_cases hb : b = a
    · subst hb
      rw [GH.set_self] at e
      wide_open using e
      exact (i_AA ha hg ho)
    · wide_line with GH.set_ne _ _ hb using e)
  rw [GH.un_set, GH.un_empty, ← GH.un_set] at this
  exact this
theorem vals1 {vs : List Value} {x : Value} (h : vs.map er = [x]) : ∃ v, vs = [v] ∧ er v = x := by
  obtain ⟨v, r, rfl, e, h⟩ := List.map_eq_cons_iff.mp h
  cases List.map_eq_nil_iff.mp h
  exact (i_EA v rfl e)
theorem vals2 {vs : List Value} {x y : Value} (h : vs.map er = [x, y]) : ∃ v u, vs = [v, u] ∧ er v = x ∧ er u = y := by
  obtain ⟨v, r, rfl, e, h⟩ := List.map_eq_cons_iff.mp h
  refine o_EA (vals1 h) fun u e92 e2 => ?_; subst e92
  exact (i_EEAA v u rfl e e2)
theorem vals3 {vs : List Value} {x y z : Value} (h : vs.map er = [x, y, z]) : ∃ v u t, vs = [v, u, t] ∧ er v = x ∧ er u = y ∧ er t = z := by
  obtain ⟨v, r, rfl, e, h⟩ := List.map_eq_cons_iff.mp h
  refine o_EEAA (vals2 h) fun u t e93 e2 e3 => ?_; subst e93
  exact (i_EEEAAA v u t rfl e e2 e3)
theorem fitLine {k : Nat} (h : k ≤ sizeLine) : (k : Int) < 2 ^ 63 := by unfold sizeLine at h; omega
theorem len_list_ok {a : Addr} {xs : List Value} (h : G a = some (.list xs)) (k : K (.int xs.length 0) G) : CallT W n (.builtin "len") [.ref a] G K := callT_still k fun A fv vs H s hA hf hv R => by
  refine o_EA (vals1 hv) fun v e92 e => ?_; subst e92
  (wide_line using er_ref e; wide_open with er_builtin hf)
  refine o_EAA (R.list (GH.un_right h)) fun us hl he hz => ?_
  refine Calls.call_len_list hl.isList (fitLine hz) ⟨?_, Still.tok _ _⟩
  ((first | refine he ▸ ?_ | rewrite [← he]); try with_reducible rfl); simp [er]
theorem len_tup_ok {a : Addr} {xs : List Value} (h : G a = some (.tup xs)) (k : K (.int xs.length 0) G) : CallT W n (.builtin "len") [.ref a] G K := callT_still k fun A fv vs H s hA hf hv R => by
  refine o_EA (vals1 hv) fun v e92 e => ?_; subst e92
  (wide_line using er_ref e; wide_open with er_builtin hf)
  refine o_EAA (R.tup (GH.un_right h)) fun us hl he hz => ?_
  refine PyProof.Rows.len_tuple hl (fitLine hz) ⟨?_, Still.tok _ _⟩
  ((first | refine he ▸ ?_ | rewrite [← he]); try with_reducible rfl); simp [er]
theorem range1_ok {i : Int} (k : newG (.range 0 i) G K) : CallT W n (.type "range") [.int i 0] G K := fun A fv vs hA hf hv H s z9 D R => by
  refine o_EA (vals1 hv) fun v e92 e => ?_; subst e92
  obtain ⟨t, rfl⟩ := er_int e
  wide_open with er_type hf
  exact call_range_1 (i_EAA _ (D.setG R.fr.1) (R.pushG _ (.range 0 i) rfl rfl (fun d z => (i_EEE _ _ _ z))) (k _ R.fr.2))
theorem range2_ok {i j : Int} (k : newG (.range i j) G K) : CallT W n (.type "range") [.int i 0, .int j 0] G K := fun A fv vs hA hf hv H s z9 D R => by
  refine o_EEAA (vals2 hv) fun v u e93 e1 e2 => ?_; subst e93
  obtain ⟨t, rfl⟩ := er_int e1
  obtain ⟨t', rfl⟩ := er_int e2
  wide_open with er_type hf
  exact call_range_2 (i_EAA _ (D.setG R.fr.1) (R.pushG _ (.range i j) rfl rfl (fun d z => (i_EEE _ _ _ z))) (k _ R.fr.2))
theorem abs_ok {i : Int} (k : K (.int (if i < 0 then -i else i) 0) G) : CallT W n (.builtin "abs") [.int i 0] G K := callT_still k fun A fv vs H s hA hf hv R => by
  refine o_EA (vals1 hv) fun v e92 e => ?_; subst e92
  obtain ⟨t, rfl⟩ := er_int e
  wide_open with er_builtin hf
  exact call_abs_int fun u tk => ⟨by split <;> rfl, Still.tok _ _⟩
theorem min_list_ok {a : Addr} {ns : List Int} (h : G a = some (.list (ns.map vInt))) (hne : 0 < ns.length) (k : ∀ M, M ∈ ns → (∀ x ∈ ns, M ≤ x) → K (.int M 0) G) : CallT W n (.builtin "min") [.ref a] G K := fun A fv vs hA hf hv H s z9 D R => by
  refine o_EA (vals1 hv) fun v e92 e1 => ?_; subst e92
  (wide_line using er_builtin hf; wide_open with er_ref e1)
  refine o_EAA (R.list (GH.un_right h)) fun us hl he hz => ?_
  have hi := ints_of he
  obtain ⟨xs, e⟩ := hi.allInts.items
  have hus : us.toList.toArray = us := by simp
  rw [hus] at e
  have hns : ns = xs.toList.map (·.1) := by
    ((first | refine hi.numsOf ▸ ?_ | rewrite [← hi.numsOf]); (first | refine nums_intItems ▸ ?_ | rewrite [← nums_intItems]); (first | refine e ▸ ?_ | rewrite [← e]); try with_reducible rfl)
  have hsz : 0 < xs.size := by
    have h3 := hne; rw [hns, List.length_map, Array.length_toList] at h3; exact h3
  refine min_intList hA.1 (by ((first | refine e ▸ ?_ | rewrite [← e]); try with_reducible rfl); exact hl.isList) hsz fun v h' tk hv hk => ?_
  obtain ⟨t, rfl⟩ := intItems_at hv
  obtain ⟨h1, h2⟩ := argBest_lt (numAt xs) (xs.size - 1)
  refine (i_EAA G D (R.kept hk) (k _ ?_ fun a ha => ?_))
  · (wide_line using hns; wide_open with numAt_eq); exact getD_mem (by (wide_line using List.length_map; wide_open with Array.length_toList); omega)
  · rw [hns] at ha
    refine o_EA (mem_getD ha) fun j hj e93 => ?_; subst e93
    rw [List.length_map, Array.length_toList] at hj
    ((first | refine numAt_eq ▸ ?_ | rewrite [← numAt_eq]); try with_reducible rfl); exact h2 j (by omega)
end Mine
end
section
open PySem PySem.W PySem.Calls PyProof.Rows PySem.SeqAt
namespace Mine
variable {W : Wd} {n : Nat} {G H : GH} {C : Bool → GH → Prop} {K : KV} {s : Shared}
theorem own_list {w h d} {prog : Program} {AT : Names} {a : Addr} {us : Array Value} {c : Nat} {xs : List Value} (e : h.get? a = some { cls := .type "list", data := .seq us c }) (he : us.toList.map er = xs) (hz : us.size ≤ sizeLine) : Own prog w AT h d a (.list xs) := (i_EAA us ⟨c, e⟩ he hz)
theorem own_tup {w h d} {prog : Program} {AT : Names} {a : Addr} {us : Array Value} {c : Nat} {xs : List Value} (e : h.get? a = some { cls := .type "tuple", data := .seq us c }) (he : us.toList.map er = xs) (hz : us.size ≤ sizeLine) : Own prog w AT h d a (.tup xs) := (i_EEAA us c e he hz)
theorem list_of_tup_ok {a : Addr} {xs : List Value} (h : G a = some (.tup xs)) (k : newG (.list xs) G K) : CallT W n (.type "list") [.ref a] G K := fun A fv vs hA hf hv H s z9 D R => by
  refine o_EA (vals1 hv) fun v e92 e1 => ?_; subst e92
  (wide_line using er_type hf; wide_open with er_ref e1)
  refine o_EAA (R.tup (GH.un_right h)) fun us n92 he hz => ?_; obtain ⟨o, hl, hc, m, hd⟩ := n92
  refine call_list_seq a (.inr rfl) hl hc hd (fun h' c' hk hg => ?_) hz
  refine o_AA (Repr.newAt R (tk := s.toks) (dr := s.drawn) hk (g := .list xs) (Nat.le_refl _) rfl fun d => own_list hg he hz) fun h1 h2 h3 => ?_
  exact (i_EAA _ (D.setG h1) h3 (k _ h2))
theorem tup_of_list_ok {a : Addr} {xs : List Value} (h : G a = some (.list xs)) (k : newG (.tup xs) G K) : CallT W n (.type "tuple") [.ref a] G K := fun A fv vs hA hf hv H s z9 D R => by
  refine o_EA (vals1 hv) fun v e92 e1 => ?_; subst e92
  (wide_line using er_type hf; wide_open with er_ref e1)
  refine o_EAA (R.list (GH.un_right h)) fun us hl he hz => ?_
  refine call_tuple_list hl.isList (fun h' hk => ?_) hz
  have R2 := Repr.kept R (h' := h') (tk := s.toks) (dr := s.drawn) hk
  exact (i_EAA _ (D.setG R2.fr.1) (R2.pushG _ (.tup xs) rfl rfl (fun d e => own_tup e he hz)) (k _ R2.fr.2))
theorem append_ok {a : Addr} {xs : List Value} {v : Value} (h : G a = some (.list xs)) (hz : small xs.length) (k : K .none (G.set a (.list (xs ++ [v])))) : CallT W n (.builtin "list.append") [.ref a, v] G K := fun A fv vs hA hf hv H s z9 D R => by
  refine o_EEAA (vals2 hv) fun u1 u2 e93 e1 e2 => ?_; subst e93
  (wide_line using er_builtin hf; wide_open with er_ref e1)
  refine o_EAA (R.list (GH.un_right h)) fun us n92 he hz' => ?_; obtain ⟨c, hl⟩ := n92
  refine append_at hl (fun h' hs hg => ?_) hz'
  refine (i_EAA _ (D.setG (D.right h)) ?_ k)
  wide_open with GH.un_set
  refine R.ext (GH.un_right h) rfl rfl hs.extBut fun d z9 => own_list hg ?_ ?_
  · (wide_line using Array.toList_push; wide_line using List.map_append; wide_open with he); simp [e2]
  · have : us.size = xs.length := by ((first | refine he ▸ ?_ | rewrite [← he]); try with_reducible rfl); simp
    (wide_line using Array.size_push; wide_open with this); unfold small at hz; unfold sizeLine; lia
theorem pop0_ok {a : Addr} {x : Value} {xs : List Value} (h : G a = some (.list (x :: xs))) (k : K x (G.set a (.list xs))) : CallT W n (.builtin "list.pop") [.ref a, .int 0 0] G K := fun A fv vs hA hf hv H s z9 D R => by
  refine o_EEAA (vals2 hv) fun u1 u2 e93 e1 e2 => ?_; subst e93
  obtain ⟨t, rfl⟩ := er_int e2
  (wide_line using er_builtin hf; wide_open with er_ref e1)
  refine o_EAA (R.list (GH.un_right h)) fun us n92 he hz' => ?_; obtain ⟨c, hl⟩ := n92
  obtain ⟨y, ul, rfl, hy, hu⟩ : ∃ y ul, us = (y :: ul).toArray ∧ er y = x ∧ ul.map er = xs := by
    obtain ⟨l⟩ := us
    match l, he with
    | y :: ul, he => exact (i_EEA y ul rfl (by simpa using he))
  have hup : ∀ tk, W.R (H.un (G.set a (.list xs))) ⟨s.heap.update a (Obj.mapSeq fun xs => xs.eraseIdxIfInBounds 0), s.gens, s.drawn, tk, s.os⟩ := fun tk => by
    wide_open with GH.un_set
    refine R.ext (GH.un_right h) rfl rfl (Heap.SameBut.update ..).extBut fun d z9 => ?_
    have hg := get?_update_seq hl (fun xs => xs.eraseIdxIfInBounds 0)
    refine own_list hg ?_ ?_
    · ((first | refine hu ▸ ?_ | rewrite [← hu]); try with_reducible rfl); simp [Array.eraseIdxIfInBounds]
    · simp [Array.eraseIdxIfInBounds] at hz' ⊢; lia
  refine call_meets PySem.F.slot_list_pop (i_EA _ hl rfl) PySem.F.entry_list_pop (PySem.F.args_list_pop_2 _ _) (PySem.MeetsSeq.list_pop_at a _ c 0 t 0 y (by decide) (by simp [seqIndex?]) (by simp) hz') ⟨hl, ?_⟩
  exact (i_EAA _ (D.setG (D.right h)) (hup _) (by refine (?_ : K (er y) _); wide_open with hy; exact k))
theorem get_of_stored {kvs : List (Int × Value)} {es : List (Int × Value)} (he : kvs.map (fun p => (p.1, er p.2)) = es) (k : Int) : (valueAt kvs k).map er = es.lookup k := by
  subst he
  induction kvs with
  | nil => rfl
  | cons p r ih =>
    obtain ⟨a, b⟩ := p
    simp only [List.map_cons, List.lookup_cons]
    by_cases h : k = a
    · subst h; simp [valueAt]
    · have h' : ¬ a = k := fun e => h e.symm
      simp only [valueAt, List.find?_cons, decide_eq_false h'] at ih ⊢
      wide_open with ih
      have : (k == a) = false := by simpa using h
      rw [this]
theorem dict_get_ok {a : Addr} {es : List (Int × Value)} {ep : Nat} {i : Int} {dv : Value} (h : G a = some (.dict es ep)) (k : K ((es.lookup i).getD dv) G) : CallT W n (.builtin "dict.get") [.ref a, .int i 0, dv] G K := callT_still k fun A fv vs H s hA hf hv R => by
  refine o_EEEAAA (vals3 hv) fun u1 u2 u3 e94 e1 e2 e3 => ?_; subst e94
  obtain ⟨t, rfl⟩ := er_int e2
  (wide_line using er_builtin hf; wide_open with er_ref e1)
  refine o_EEAAA (R.at (GH.un_right h)) fun z9 kvs hd he hz hy => ?_
  have hm := hd.dictOf.mapOf
  refine call_meetsIn PySem.F.slot_dict_get hm.typeIs PySem.F.entry_dict_get (PySem.F.args_dict_get_3 _ _ _) (meets_dict_get_default (intKind W.prog W.w) (k := i) a (by simp [intKind, Value.isInt]) (by simpa using hy) u3) (i_EAA _ hm ?_ (Still.tok _ _))
  ((first | refine (get_of_stored he i) ▸ ?_ | rewrite [← get_of_stored he i]); (first | refine e3 ▸ ?_ | rewrite [← e3]); try with_reducible rfl)
  cases valueAt kvs i <;> rfl
end Mine
end
section
open PySem PySem.W PySem.Calls PyProof.Rows PySem.SeqAt
namespace Mine
variable {W : Wd} {n : Nat} {G H : GH} {C : Bool → GH → Prop} {K : KV} {s : Shared}
theorem concat_ok {a b : Addr} {xs ys : List Value} (h : G a = some (.list xs)) (h2 : G b = some (.list ys)) (hz : small (xs.length + ys.length)) (k : newG (.list (xs ++ ys)) G K) : binG W n .Add (.ref a) (.ref b) G K := fun A va vb hA ha hb H s z9 D R => by
  (wide_line using er_ref ha; wide_open with er_ref hb)
  refine o_EAA (R.list (GH.un_right h)) fun us n92 he hz1 => ?_; obtain ⟨c, hl⟩ := n92
  refine o_EAA (R.list (GH.un_right h2)) fun ws n92 he2 hz2 => ?_; obtain ⟨c2, hl2⟩ := n92
  have l1 : us.size = xs.length := by ((first | refine he ▸ ?_ | rewrite [← he]); try with_reducible rfl); simp
  have l2 : ws.size = ys.length := by ((first | refine he2 ▸ ?_ | rewrite [← he2]); try with_reducible rfl); simp
  have hz3 : us.size + ws.size ≤ sizeLine := by (wide_line using l1; wide_open with l2); unfold small at hz; unfold sizeLine; lia
  refine wpAny_binaryOp_concat (T := "list") (i_EA _ hl rfl) (i_EA _ hl2 rfl) PySem.noFill_list_add PySem.seq_list_add
    (call_meets PySem.F.slot_list_add (i_EA _ hl rfl) PySem.F.entry_list_add (PySem.F.args_list_add_2 _ _) (AutoSeq1.list___add___list_list_0 a us c b ws c2 hz3) (i_AA hl hl2 ?_))
  exact (i_EAA _ (D.setG R.fr.1) (R.pushG _ (.list (xs ++ ys)) rfl rfl (fun d e => own_list e (by (wide_line using Array.toList_append; wide_line using List.map_append; wide_line using he; wide_open with he2)) (by wide_open with Array.size_append; exact hz3))) (k _ R.fr.2))
noncomputable def cut (xs : List Value) (lo hi : Option Nat) : List Value := (xs.take (hi.getD xs.length)).drop (lo.getD 0)
noncomputable def partV : Option Nat → Value
  | none => .none
  | some k => .int k 0
noncomputable def partI : Option Nat → Option Int := Option.map fun k => (k : Int)
theorem part_of {v : Value} {p : Option Nat} (h : er v = partV p) : IsPart v (partI p) := by
  cases p with
  | none => wide_open with er_none h; exact .none
  | some k => obtain ⟨t, rfl⟩ := er_int h; exact .int _ _
theorem slicePick_cut (us : Array Value) (lo hi : Option Nat) : (slicePick us (partI lo) (partI hi) none).toList = (us.toList.take (hi.getD us.size)).drop (lo.getD 0) := by
  have e : sliceBounds (partI lo) (partI hi) none us.size = (((min (lo.getD 0) us.size : Nat) : Int), ((min (hi.getD us.size) us.size : Nat) : Int), 1) := by
    simp only [sliceBounds, Option.getD_none]
    simp only [show (1 : Int) > 0 by decide, if_true]
    congr 1
    · cases lo with
      | none => simp [partI]
      | some a =>
        have : ¬ ((a : Int) < 0) := by lia
        simp only [partI, Option.map_some, this, if_false, Option.getD_some]; lia
    · congr 1
      cases hi with
      | none => simp [partI]
      | some a =>
        have : ¬ ((a : Int) < 0) := by lia
        simp only [partI, Option.map_some, this, if_false, Option.getD_some]; lia
  unfold slicePick
  wide_open with e
  simp only [sliceRange_one, pick_run]
  ((first | refine List.drop_take ▸ ?_ | rewrite [← List.drop_take]); try with_reducible rfl)
  rw [show ∀ a b : Nat, (List.take (min b us.size) us.toList).drop (min a us.size) = (List.take b us.toList).drop a from fun a b => by
    have h1 : List.take (min b us.size) us.toList = List.take b us.toList := by
      ((first | refine Array.length_toList ▸ ?_ | rewrite [← Array.length_toList]); wide_open with List.take_eq_take_iff); simp
    wide_open with h1
    rcases Nat.le_total a us.size with h | h
    · wide_open with Nat.min_eq_left h
    · (wide_line using Nat.min_eq_right h; wide_line using List.drop_eq_nil_of_le (by simp; lia); wide_open with List.drop_eq_nil_of_le (by simp; lia))]
theorem Repr.hid {o : Obj} {a : Addr} (D : Disj H G) (R : W.R (H.un G) s) (h : H a = some (.raw o)) : s.heap.get? a = some o := by
  obtain ⟨_, e⟩ := R.at (show (H.un G) a = some (.raw o) by wide_open with GH.un_left (D.left h); exact h)
  exact e
theorem slice_list_ok {a : Addr} {xs : List Value} {l u : Value} {lo hi : Option Nat} (h : G a = some (.list xs)) (hl : l = partV lo) (hu : u = partV hi) (k : newG (.list (cut xs lo hi)) G K) : sliceG W n (.ref a) l u .none G K :=
  fun A vo vl vu vs sl value slice hA ho el eu es hop H s hs D R => by
  obtain ⟨ops, hop⟩ := hop
  rw [er_ref ho] at hop ⊢
  refine o_EAA (R.list (GH.un_right h)) fun us hll he hz => ?_
  have l1 : us.size = xs.length := by ((first | refine he ▸ ?_ | rewrite [← he]); try with_reducible rfl); simp
  have hss : s.heap.IsSliceOf sl vl vu vs := (i_EAA _ (R.hid D hs) rfl rfl)
  refine tail_any hll.isList.typeIs slot_list_getitem.lookup ?_ hop
  refine wpAny_getItem_list_slice hll.isList hss (part_of (el.trans hl)) (part_of (eu.trans hu)) (by rw [er_none es]; exact .none) (by simp) ?_ hz
  refine (i_EAA _ (D.setG R.fr.1) (R.pushG _ (.list (cut xs lo hi)) rfl rfl (fun d e => own_list e ?_ (Nat.le_trans (slicePick_size_le ..) hz))) (k _ R.fr.2))
  (wide_line using slicePick_cut; wide_line using List.map_drop; wide_line using List.map_take; wide_line using he; wide_open with l1)
  rfl
theorem slice_base_ok {a : Addr} {us : Array Value} {l u : Value} {lo hi : Option Nat} (h : W.B.IsList a us) (hz : us.size ≤ sizeLine) (hl : l = partV lo) (hu : u = partV hi) (k : newG (.list (cut (us.toList.map er) lo hi)) G K) : sliceG W n (.ref a) l u .none G K :=
  fun A vo vl vu vs sl value slice hA ho el eu es hop H s hs D R => by
  obtain ⟨ops, hop⟩ := hop
  rw [er_ref ho] at hop ⊢
  have hll : s.heap.IsList a us := let ⟨o, e, r⟩ := h; (i_EA o (R.keep _ _ e) r)
  have hss : s.heap.IsSliceOf sl vl vu vs := (i_EAA _ (R.hid D hs) rfl rfl)
  refine tail_any hll.typeIs slot_list_getitem.lookup ?_ hop
  refine wpAny_getItem_list_slice hll hss (part_of (el.trans hl)) (part_of (eu.trans hu)) (by rw [er_none es]; exact .none) (by simp) ?_ hz
  refine (i_EAA _ (D.setG R.fr.1) (R.pushG _ (.list (cut (us.toList.map er) lo hi)) rfl rfl (fun d e => own_list e ?_ (Nat.le_trans (slicePick_size_le ..) hz))) (k _ R.fr.2))
  (wide_line using slicePick_cut; wide_line using List.map_drop; wide_open with List.map_take)
  simp [cut]
end Mine
end
section
open PySem PySem.W PySem.Calls PyProof.Rows PySem.SeqAt
namespace Mine
variable {W : Wd} {n : Nat} {G H : GH} {C : Bool → GH → Prop} {K : KV} {s : Shared}
theorem ints_er {vs : List Value} {ns : List Int} (h : IntsAre vs ns) : vs.map er = ns.map vInt := by
  induction h with
  | nil => rfl
  | cons n t _ ih => simp [ih, er, vInt]
theorem sort_tail {A : Around} {ns : List Int} {vs : List Value} {h' : Heap} {tk : Nat} (hI : IntsAre vs ns) (h64 : vs.length < 64) (D : Disj H G) (R : W.R (H.un G) ⟨h', s.gens, s.drawn, tk, s.os⟩)
    (k : ∀ ns' : List Int, ns'.Perm ns → ns'.Pairwise (· ≤ ·) → newG (.list (ns'.map vInt)) G K) :
    wpAny W.M A (call (.builtin "list.sort") [.ref h'.objs.size]) (fun z9 s' => ∃ G', Disj H G' ∧ W.R (H.un G') s' ∧ K (.ref h'.objs.size) G') (fun z9 z9 => False) ⟨h'.push { cls := .type "list", data := .seq vs.toArray }, s.gens, s.drawn, tk, s.os⟩ := by
  have ho : (h'.push { cls := .type "list", data := .seq vs.toArray }).get? h'.objs.size = some (seqObj "list" vs.toArray 0) := Heap.get?_push_size _ rfl
  have hz : vs.toArray.size ≤ sizeLine := by simp; unfold sizeLine; lia
  have fr := R.fr
  have R1 := R.pushG { cls := .type "list", data := .seq vs.toArray } (.list (ns.map vInt)) rfl rfl (tk := tk) (dr := s.drawn) fun d e => own_list e (ints_er hI) hz
  refine wpAny_call_entry slot_list_sort (i_EA _ ho rfl) entry_list_sort (list_sort_tree ho hI h64 fun out ns' a1 a2 a3 => (i_EA _ rfl ?_)) (args_list_sort _)
  obtain ⟨e, he⟩ := sortedHeap_at (out := out) ho
  have R2 : W.R ((H.un (G.set h'.objs.size (.list (ns'.map vInt))))) ⟨sortedHeap (h'.push { cls := .type "list", data := .seq vs.toArray }) h'.objs.size vs out, s.gens, s.drawn, tk, s.os⟩ := by
    have z : (H.un (G.set h'.objs.size (.list (ns.map vInt)))) h'.objs.size = some (.list (ns.map vInt)) := GH.un_right (GH.set_self _ _ _)
    have := R1.ext (h' := sortedHeap (h'.push { cls := .type "list", data := .seq vs.toArray }) h'.objs.size vs out) (tk := tk) (dr := s.drawn) (g' := .list (ns'.map vInt)) z rfl rfl (fun b o hb eb => by wide_open with sortedHeap_old hb (Heap.lt_size eb); exact eb)
      fun d z9 => own_list he (ints_er a1) (by
        have := a1.length
        have h2 := a2.length_eq
        have h3 := hI.length
        simp only [Array.length_toList] at this
        unfold sizeLine; lia)
    rw [GH.un_set, GH.set_set] at this
    wide_open with GH.un_set
    exact this
  exact (i_EAA _ (D.setG fr.1) R2 (k ns' a2 a3 _ fr.2))
theorem sorted_dict_ok {a : Addr} {es : List (Int × Value)} {ep : Nat} (h : G a = some (.dict es ep)) (h64 : es.length < 64)
    (k : ∀ ns' : List Int, ns'.Perm (es.map (·.1)) → ns'.Pairwise (· ≤ ·) → newG (.list (ns'.map vInt)) G K) : CallT W n (.builtin "sorted") [.ref a] G K := fun A fv vs hA hf hv H s z9 D R => by
  refine o_EA (vals1 hv) fun v e92 e1 => ?_; subst e92
  (wide_line using er_builtin hf; wide_open with er_ref e1)
  refine o_EEAAA (R.at (GH.un_right h)) fun z9 kvs hd he hz hy => ?_
  have hlen : es.length = kvs.length := by ((first | refine he ▸ ?_ | rewrite [← he]); try with_reducible rfl); simp
  refine call_function_entry kind_sorted plain_sorted entry_sorted (args_sorted1 _) ?_
  unfold Builtin.«sorted»
  refine wpAny_bind (m := checkCount "sorted" 1 1 _) (wpAny_pure ?_)
  refine wpAny_bind (kdu_collect (A := A.in1) (kdl_dict (knd := intKind W.prog W.w) (kvs := kvs) (ep := ep) (by simpa using hy)) hA.1 hd hz fun h' tk acc hk hacc => ?_)
  have hl : acc.toList.length = kvs.length := by wide_open with Array.length_toList; exact hacc.1
  refine wpAny_bind (wpAny_newList ?_ (by wide_open with hl; exact hz))
  have hI : IntsAre acc.toList (es.map (·.1)) := by
    refine ints_of ?_
    apply List.ext_getElem?
    intro i
    (wide_line using List.getElem?_map; wide_line using List.getElem?_map; wide_open with List.getElem?_map)
    cases hq : acc.toList[i]? with
    | none =>
      have : es[i]? = none := by rw [List.getElem?_eq_none_iff] at hq ⊢; lia
      wide_open with this; rfl
    | some v =>
      refine o_EEA (hacc.2 i v (by ((first | refine (Array.getElem?_toList) ▸ ?_ | rewrite [← Array.getElem?_toList]); try with_reducible rfl); exact hq)) fun kk x hx hkey => ?_
      have : es[i]? = some (kk, er x) := by ((first | refine he ▸ ?_ | rewrite [← he]); wide_line using List.getElem?_map; wide_open with hx); rfl
      rw [this]
      have hv : v.isInt kk = true := hkey
      cases v <;> simp_all [Value.isInt, er, vInt]
  refine wpAny_bind (wpAny_holding (wpAny_mono (sort_tail (H := H) (G := G) (K := K) (s := s) (tk := tk) hI (by wide_open with hl; lia) D (R.kept hk) k) (fun z9 s' x => ?_) fun z9 z9 e => e))
  exact wpAny_pure (i_EA _ rfl x)
end Mine
end
section
open PySem PySem.W PySem.Calls PyProof.Rows PySem.SeqAt
namespace Mine
variable {W : Wd} {n : Nat} {G H : GH} {C : Bool → GH → Prop} {K : KV} {s : Shared} {mg mb : Str → Option Value}
structure CloAt (W : Wd) (G : GH) (f : Addr) (sp : FnSpec) (cs : List Addr) (k : Nat) : Prop where
  ex : ∃ fd oc c' vs t, G f = some (.raw { cls := .type "function", data := .func fd }) ∧ fd.code = .ref c' ∧ G c' = some (.raw oc) ∧ oc.data = .fields vs ∧ vs[1]? = some (.str fd.qualname t) ∧ FnOK W fd sp ∧
    (∀ x ∈ fd.scope.names, x.2 ≠ .cell) ∧ (∀ x i, sp.cels.idxOf? x = some i → ∃ c, fd.closure.lookup x = some c ∧ cs[i]? = some c) ∧
    k = sp.params.length ∧ ∀ args : List Value, args.length = k → bindArgs fd ⟨args, []⟩ = pure (sp.params.zip args)
theorem CloAt.sub {G' : GH} {f : Addr} {sp : FnSpec} {cs : List Addr} {k : Nat} (x : CloAt W G f sp cs k) (h : Sub G G') : CloAt W G' f sp cs k := by
  obtain ⟨fd, oc, c', vs, t, h1, h2, h3, r⟩ := x
  exact ⟨fd, oc, c', vs, t, h _ _ h1, h2, h _ _ h3, r⟩
theorem CloAt.keep {f : Addr} {sp : FnSpec} {cs : List Addr} {k : Nat} (x : CloAt W G f sp cs k) : keepG W (.ref f) G := by
  obtain ⟨fd, oc, c', vs, t, h1, h2, h3, r⟩ := x
  exact .inr (i_EEA _ fd h1 rfl)
theorem callT_clo (O : WdOK W mg mb) {f : Addr} {sp : FnSpec} {cs : List Addr} {k : Nat} {args : List Value} {K : KV} (F : CloAt W G f sp cs k) (hk : args.length = k)
    (w : ∀ cd, wpSs W n cd sp.cels cs sp.body (srcM sp.lsrc args) G (bodyK K)) : CallC W (n + 1) (.ref f) args G K := by
  intro A fv vs hA hf hv H s D R
  wide_open with er_ref hf
  refine o_EEEEEAAAAAAAAA F.ex fun fd oc c' ov t h1 h2 h3 h4 h5 h6 h7 h8 h9 h10 => ?_
  have lk : ∀ {a : Addr} {o : Obj}, G a = some (.raw o) → s.heap.get? a = some o := fun {a o} e => by
    obtain ⟨_, x⟩ := R.at (GH.un_right e)
    exact x
  have hcode : s.heap.CodeRec fd.code fd.qualname := (i_EEEEAAA c' oc ov t h2 (lk h3) h4 h5)
  have hb := h10 vs (by ((first | refine hk ▸ ?_ | rewrite [← hk]); (first | refine hv ▸ ?_ | rewrite [← hv]); try with_reducible rfl); simp)
  refine call_fn O hA D R (lk h1) rfl hcode h6 h7 (cs := cs) h8 (ds := []) ?_ ?_ (w _)
  · wide_open with List.append_nil; exact Looks.of_pure hb
  · simpa using hv
theorem filterMap_at {α β : Type} (f : α → Option β) : ∀ (l : List α), (∀ y ∈ l, ∃ c, f y = some c) → ∀ (i : Nat) (c : β), (∃ x, l[i]? = some x ∧ f x = some c) → (l.filterMap f)[i]? = some c
  | [], _, i, c, ⟨x, h, _⟩ => by simp at h
  | a :: l, ha, i, c, ⟨x, h, hf⟩ => by
    obtain ⟨d, hd⟩ := ha a List.mem_cons_self
    (wide_line using List.filterMap_cons; wide_open with hd)
    cases i with
    | zero => simp at h; subst h; wide_line with hf using hd; rfl
    | succ i => simpa using filterMap_at f l (fun y hy => ha y (List.mem_cons_of_mem _ hy)) i c (i_EA x (by simpa using h) hf)
theorem Repr.extN {prog w AT B os₀} {U N : GH} (R : Repr prog w AT B os₀ U s) {a : Addr} {g g' : GO} {h' : Heap} {tk : Nat} {dr : Drawn} (e : U a = some g) (hi : g.isInst = false) (hi' : g'.isInst = false) (hx : Heap.ExtBut a s.heap h')
    (ho : ∀ d, Own prog w AT s.heap d a g → Own prog w AT h' d a g')
    (hN : ∀ a g, N a = some g → s.heap.objs.size ≤ a ∧ g.isInst = false ∧ ∀ d, Own prog w AT h' d a g) : Repr prog w AT B os₀ (GH.un (U.set a g') N) ⟨h', s.gens, dr, tk, s.os⟩ := by
  have lt := fun {a g} (e : U a = some g) => R.lt e
  have fb := fun {a : Addr} (ha : s.heap.objs.size ≤ a) => R.freshB ha
  obtain ⟨d, k, o, i, gn, os⟩ := R
  have hB : ∀ b, B.get? b = none ∨ b ≠ a := fun b => by
    by_cases hb : b = a
    · left; wide_open with hb; exact (o a g e).1
    · exact .inr hb
  have low : ∀ {b C fs}, (GH.un (U.set a g') N) b = some (.inst C fs) → b ≠ a ∧ U b = some (.inst C fs) := fun {b C fs} eb => by
    cases hn : N b with
    | some x =>
      wide_line with GH.un_right hn using eb
      have := (hN b _ hn).2.1
      wide_open using this
    | none =>
      rw [GH.un_left hn] at eb
      have hb : b ≠ a := by
        rintro rfl
        wide_line with GH.set_self using eb; wide_open using hi'
      rw [GH.set_ne _ _ hb] at eb
      exact ⟨hb, eb⟩
  refine ⟨d, fun b ob eb => ?_, fun b gb eb => ?_, fun b C fs eb => ?_, gn, os⟩
  · rcases hB b with h1 | h1
    · wide_line with h1 using eb
    · exact hx b ob h1 (k _ _ eb)
  · cases hn : N b with
    | some x =>
      wide_line with GH.un_right hn using eb
      refine o_AA (hN b _ hn) fun h1 z9 h3 => ?_
      exact ⟨fb h1, h3 d⟩
    | none =>
      rw [GH.un_left hn] at eb
      by_cases hb : b = a
      · subst hb
        wide_line with GH.set_self using eb
        exact ⟨(o b g e).1, ho d (o b g e).2⟩
      · rw [GH.set_ne _ _ hb] at eb
        refine ⟨(o b gb eb).1, (o b gb eb).2.move _ _ _ (fun ob h1 => hx b ob hb h1) (fun z9 => rfl) fun hg ob h1 => hx _ ob ?_ h1⟩
        intro q
        cases gb with
        | inst C fs => have := (i b C fs eb).2.1; rw [q, e] at this; wide_open using this
        | _ => wide_open using hg
  · obtain ⟨hb, eb⟩ := low eb
    refine o_AA (i b C fs eb) fun i1 i2 i3 => ?_
    have hda : d b ≠ a := by intro q; rw [q, e] at i2; wide_open using i2
    refine (i_AA i1 ?_ (fun c C' fs' ec hc => i3 c C' fs' (low ec).2 hc))
    have hdN : N (d b) = none := by
      cases hn : N (d b) with
      | none => rfl
      | some x =>
        have h1 := (hN _ _ hn).1
        refine o_AAEA ((o b _ eb).2) fun z9 z9 mm n94 z9 => ?_; obtain ⟨od, _, _, ed, _⟩ := n94
        exact absurd (lt_of_get ed) (Nat.not_lt.mpr h1)
    (wide_line using GH.un_left hdN; wide_open with GH.set_ne _ _ hda); exact i2
noncomputable def Tab (G : GH) (P : Addr) : Prop := ∃ ps, G P = some (.raw (tabObj ps))
theorem fdef_make {name : Str} {args : Arguments} {body : List Stmt} {decs : List Expr} {ret : Option Expr} {typs : List TypeParam} {scope : Scope} {isA : Option Scope} {bind : Str} {pos : Pos} {c P : Addr} {celn : List Str} {cs : List Addr} {sp : FnSpec} {k : Nat}
    (hg : W.B.Ns mainGlobals mg) (hC : CodeHd W.B c P) (hb : W.B.BuiltinsAt mg P) (hP : G P = some (.raw (tabObj #[])))
    (hfree : ∀ p ∈ scope.names, p.2 = .free → ∃ i, celn.idxOf? p.1 = some i)
    (hsp : ∀ x i, sp.cels.idxOf? x = some i → (x, NameKind.free) ∈ scope.names ∧ ∃ j c, celn.idxOf? x = some j ∧ cs[j]? = some c)
    (hok : ∀ qual clos doc pm cdv ct, FnOK W (fnX name qual args body scope clos .none .none doc pm none cdv ct) sp) (hcell : ∀ x ∈ scope.names, x.2 ≠ .cell) (hk : k = sp.params.length)
    (hbind : ∀ qual clos doc pm cdv ct, ∀ vs : List Value, vs.length = k → bindArgs (fnX name qual args body scope clos .none .none doc pm none cdv ct) ⟨vs, []⟩ = pure (sp.params.zip vs))
    (kk : ∀ f c' G', f ≠ c' → G f = none → G c' = none → (∀ a, a ≠ f → a ≠ c' → a ≠ P → G' a = G a) → Tab G' P → CloAt W G' f sp (sp.cels.filterMap fun x => (celn.idxOf? x).bind fun j => cs[j]?) k → K (.ref f) G') :
    FDefT W n (.ref c) celn cs (.FunctionDef name args body decs ret typs scope isA bind pos) G K := by
  intro A env hA hkind hge hbe hcd hcells H s _ D R
  have hfree' : ∀ p ∈ scope.names, p.2 = .free → ∃ c, env.cells.lookup p.1 = some c := fun p hp e => by
    obtain ⟨i, hi⟩ := hfree p hp e
    refine o_EA (hcells _ i hi) fun c h1 z9 => ?_
    exact ⟨c, h1⟩
  have hPs : s.heap.get? P = some (tabObj #[]) := by
    obtain ⟨_, x⟩ := R.at (GH.un_right hP)
    exact x
  have hgs : s.heap.Ns mainGlobals mg := hg.keeps R.keep
  have hgP : mainGlobals ≠ P := fun q => by
    refine o_EEEAA hgs fun o es ep e hd z9 => ?_; try clear hgs
    rw [q, hPs] at e; wide_open using e; wide_open using hd
  refine makeFunction_K (mg := mg) (closureFor_pure hfree') hge hgs hcd (hC.keeps R.keep) hPs trivial rfl hgP (hb.keeps R.keep) fun c' ctv doc h' tk hx hge' hlt hrec htb => ?_
  refine o_EEEEAAA hrec fun c₂ oc vs t e2 hoc hd hv => ?_; try clear hrec
  wide_open using e2
  have R1 := R.ext (h' := h') (tk := tk) (dr := s.drawn) (g' := .raw (tabObj (#[] ++ #[rawInt pos.line, rawInt pos.col, .ref c']))) (GH.un_right hP) rfl rfl hx fun z9 z9 => htb
  rw [← GH.un_set] at R1
  have hlt' := hlt
  have fr1 : ∀ b, s.heap.objs.size ≤ b → (H.un G) b = none := fun b hb => by
    cases q : (H.un G) b with
    | none => rfl
    | some x => exact absurd (R.lt q) (Nat.not_lt.mpr hb)
  have split : ∀ b, (H.un G) b = none → H b = none ∧ G b = none := fun b e => by
    have gn : G b = none := by
      cases q : G b with
      | none => rfl
      | some x => wide_line with GH.un_right q using e
    exact ⟨by rwa [GH.un_left gn] at e, gn⟩
  obtain ⟨hc1, gc1⟩ := split c' (fr1 _ hge')
  have hle : s.heap.objs.size ≤ h'.objs.size := Nat.le_trans hge' (Nat.le_of_lt hlt)
  obtain ⟨hf1, gf1⟩ := split h'.objs.size (fr1 _ hle)
  have hPlt : P < s.heap.objs.size := R.lt (GH.un_right hP)
  have hPc : c' ≠ P := Nat.ne_of_gt (Nat.lt_of_lt_of_le hPlt hge')
  have hPf : h'.objs.size ≠ P := Nat.ne_of_gt (Nat.lt_of_lt_of_le hPlt hle)
  have hfc : h'.objs.size ≠ c' := Nat.ne_of_gt hlt
  generalize hfo : fnMade name (qualnameIn env name bind) args body scope (clos env scope.names []) doc ((mg "__name__").getD .none) c' ctv = fo
  have hnf : fo.isFreed = false := by subst hfo; rfl
  have R2 := Repr.extN (N := (GH.empty.set c' (.raw oc)).set h'.objs.size (.raw fo)) R (h' := h'.push fo) (tk := tk) (dr := s.drawn) (g' := .raw (tabObj (#[] ++ #[rawInt pos.line, rawInt pos.col, .ref c']))) (GH.un_right hP) rfl rfl
    (fun b o hb e => Heap.get?_push_of_some _ (hx b o hb e)) (fun z9 z9 => Heap.get?_push_of_some _ htb) (fun b g e => by
      by_cases e1 : b = h'.objs.size
      · subst e1; wide_line with GH.set_self using e
        exact (i_AA hle rfl (fun z9 => Heap.get?_push_size _ hnf))
      · rw [GH.set_ne _ _ e1] at e
        by_cases e2 : b = c'
        · subst e2; wide_line with GH.set_self using e
          exact (i_AA hge' rfl (fun z9 => Heap.get?_push_of_some _ hoc))
        · wide_line with GH.set_ne _ _ e2 using e)
  have eU : GH.un ((H.un G).set P (.raw (tabObj (#[] ++ #[rawInt pos.line, rawInt pos.col, .ref c'])))) ((GH.empty.set c' (.raw oc)).set h'.objs.size (.raw fo)) =
      H.un (((G.set P (.raw (tabObj (#[] ++ #[rawInt pos.line, rawInt pos.col, .ref c'])))).set c' (.raw oc)).set h'.objs.size (.raw fo)) := by
    (wide_line using GH.un_set; wide_line using GH.un_set; wide_line using GH.un_empty; wide_line using GH.un_set; wide_line using GH.un_set; wide_open with GH.un_set)
  rw [eU] at R2
  refine (i_EAA _ (((D.setG (D.right hP)).setG hc1).setG hf1) R2 (kk _ c' _ hfc gf1 gc1 (fun a h1 h2 h3 => ?_) ⟨_, by rw [GH.set_ne _ _ (by rintro rfl; wide_line with gf1 using hP), GH.set_ne _ _ (by rintro rfl; wide_line with gc1 using hP)]; exact GH.set_self _ _ _⟩ ⟨fnX name (qualnameIn env name bind) args body scope (clos env scope.names []) .none .none doc ((mg "__name__").getD .none) none (.ref c') ctv, oc, c', vs, t, ?_, rfl, ?_, hd, hv, hok _ _ _ _ _ _, hcell, fun x i hx => ?_, hk, hbind _ _ _ _ _ _⟩))
  · (wide_line using GH.set_ne _ _ h1; wide_line using GH.set_ne _ _ h2; wide_open with GH.set_ne _ _ h3)
  · subst hfo; exact GH.set_self _ _ _
  · (wide_line using GH.set_ne _ _ hfc.symm; wide_open with GH.set_self)
  · refine o_AEEA (hsp x i hx) fun hm j c₀ hj hc₀ => ?_
    refine o_EA (hcells x j hj) fun c₁ hl hc₁ => ?_
    wide_line with hc₀ using hc₁
    refine (i_EA c₀ (clos_lookup _ _ _ _ (fun p hp => by cases hp) hl (.inl hm)) ?_)
    have all : ∀ y ∈ sp.cels, ∃ c, ((celn.idxOf? y).bind fun j => cs[j]?) = some c := fun y hy => by
      cases hq : sp.cels.idxOf? y with
      | none => exact absurd hy (by simpa [List.idxOf?_eq_none_iff] using hq)
      | some i' =>
        refine o_AEEA (hsp y i' hq) fun z9 j' c' hj' hc' => ?_
        exact ⟨c', by wide_open with hj'; exact hc'⟩
    exact filterMap_at _ sp.cels all i c₀ (by
      have := (List.findIdx?_eq_some_iff_getElem.mp hx)
      refine o_EA this fun hlt he z9 => ?_; try clear this
      exact (i_EA x (by wide_open with List.getElem?_eq_getElem hlt; simpa using he) (by wide_open with hj; exact hc₀)))
end Mine
end
section
open PySem PySem.W PySem.Calls PyProof.Rows
namespace Mine
noncomputable def AT1 : Names := [Str.ofString "code", Str.ofString "glyph", Str.ofString "cluster", Str.ofString "mask", Str.ofString "is_un\x73afe", Str.ofString "lig_id", Str.ofString "lig_part", Str.ofString "lig_count", Str.ofString "split_id", Str.ofString "kind", Str.ofString "x_advance", Str.ofString "y_advance", Str.ofString "x_offset", Str.ofString "y_offset", Str.ofString "parent", Str.ofString "bond", Str.ofString "row", Str.ofString "is_backward", Str.ofString "last_lig", Str.ofString "last_split", Str.ofString "glyphs", Str.ofString "index", Str.ofString "has", Str.ofString "back", Str.ofString "inside", Str.ofString "ahead", Str.ofString "actions", Str.ofString "form", Str.ofString "is_chained", Str.ofString "sets", Str.ofString "coverage", Str.ofString "classes", Str.ofString "rules", Str.ofString "flag", Str.ofString "mark_set", Str.ofString "tables", Str.ofString "buffer", Str.ofString "gdef", Str.ofString "lookups", Str.ofString "lookup", Str.ofString "depth", Str.ofString "steps", Str.ofString "end", Str.ofString "append", Str.ofString "pop", Str.ofString "get", Str.ofString "class_of", Str.ofString "glyph_class", Str.ofString "attach", Str.ofString "points", Str.ofString "carets", Str.ofString "attach_class", Str.ofString "is_in_set", Str.ofString "told"]
noncomputable def a_Info___init__ : Addr := 35
noncomputable def a_Info : Addr := 52
noncomputable def a_Buffer___init__ : Addr := 71
noncomputable def a_Buffer_glyphs : Addr := 76
noncomputable def a_Buffer : Addr := 105
noncomputable def a_hang : Addr := 114
noncomputable def a_Coverage___init__ : Addr := 128
noncomputable def a_Coverage_index : Addr := 135
noncomputable def a_Coverage_has : Addr := 142
noncomputable def a_Coverage : Addr := 152
noncomputable def a_coverage_of : Addr := 163
noncomputable def a_Rule___init__ : Addr := 177
noncomputable def a_Rule : Addr := 194
noncomputable def a_Contexts___init__ : Addr := 213
noncomputable def a_Contexts_rules : Addr := 232
noncomputable def a_Contexts : Addr := 235
noncomputable def a_tests_of : Addr := 249
noncomputable def a_rule_tests : Addr := 256
noncomputable def a_rules_at : Addr := 261
noncomputable def a_Lookup___init__ : Addr := 275
noncomputable def a_Lookup : Addr := 283
noncomputable def a_Scene___init__ : Addr := 302
noncomputable def a_Scene : Addr := 305
noncomputable def a_attach_wanted : Addr := 316
noncomputable def a_class_bit : Addr := 323
noncomputable def a_is_ignored : Addr := 330
noncomputable def a_passes : Addr := 337
noncomputable def a_nested_scene : Addr := 344
noncomputable def a_KINDS_IN_INPUT : Addr := 345
noncomputable def a_KINDS_AROUND : Addr := 346
noncomputable def a_fits : Addr := 353
noncomputable def a_is_borne : Addr := 360
noncomputable def a_found_at : Addr := 367
noncomputable def a_input_at : Addr := 374
noncomputable def a_last_at : Addr := 381
noncomputable def a_ahead_at : Addr := 388
noncomputable def a_back_at : Addr := 395
noncomputable def a_Places___init__ : Addr := 409
noncomputable def a_Places : Addr := 412
noncomputable def a_match_rule : Addr := 423
noncomputable def a_inner_scene : Addr := 430
noncomputable def a_grow : Addr := 435
noncomputable def a_shrink : Addr := 440
noncomputable def a_move : Addr := 447
noncomputable def a_do_action : Addr := 454
noncomputable def a_do_actions : Addr := 461
noncomputable def a_apply_context : Addr := 468
noncomputable def a_ClassDef___init__ : Addr := 482
noncomputable def a_ClassDef_class_of : Addr := 489
noncomputable def a_ClassDef : Addr := 511
noncomputable def a_Gdef___init__ : Addr := 530
noncomputable def a_Gdef_glyph_class : Addr := 537
noncomputable def a_Gdef_attach_class : Addr := 544
noncomputable def a_Gdef_is_in_set : Addr := 551
noncomputable def a_Gdef : Addr := 559
noncomputable def a__law_take : Addr := 570
noncomputable def k_Info : ClsSpec := ⟨a_Info___init__, [0, 1, 2, 3, 4, 5, 6, 7, 8, 9, 10, 11, 12, 13, 14, 15], []⟩
noncomputable def k_Buffer : ClsSpec := ⟨a_Buffer___init__, [16, 17, 18, 19], [(20, a_Buffer_glyphs)]⟩
noncomputable def k_Coverage : ClsSpec := ⟨a_Coverage___init__, [20], [(21, a_Coverage_index), (22, a_Coverage_has)]⟩
noncomputable def k_Rule : ClsSpec := ⟨a_Rule___init__, [23, 24, 25, 26], []⟩
noncomputable def k_Contexts : ClsSpec := ⟨a_Contexts___init__, [27, 28, 29, 30, 31], [(32, a_Contexts_rules)]⟩
noncomputable def k_Lookup : ClsSpec := ⟨a_Lookup___init__, [9, 33, 34, 35], []⟩
noncomputable def k_Scene : ClsSpec := ⟨a_Scene___init__, [36, 37, 38, 39, 3, 40, 41], []⟩
noncomputable def k_Places : ClsSpec := ⟨a_Places___init__, [16, 42], []⟩
noncomputable def k_ClassDef : ClsSpec := ⟨a_ClassDef___init__, [31], [(46, a_ClassDef_class_of)]⟩
noncomputable def k_Gdef : ClsSpec := ⟨a_Gdef___init__, [31, 48, 29, 49, 50], [(47, a_Gdef_glyph_class), (51, a_Gdef_attach_class), (52, a_Gdef_is_in_set)]⟩
noncomputable def b_Info___init__ : List CS := [
  .seta (.var (.loc 0)) 0 (.var (.loc 1)),
  .seta (.var (.loc 0)) 1 (.var (.loc 2)),
  .seta (.var (.loc 0)) 2 (.var (.loc 3)),
  .seta (.var (.loc 0)) 3 (.val (.int (0) 0)),
  .seta (.var (.loc 0)) 4 (.val (.bool false)),
  .seta (.var (.loc 0)) 5 (.val (.int (0) 0)),
  .seta (.var (.loc 0)) 6 (.val (.int (0) 0)),
  .seta (.var (.loc 0)) 7 (.val (.int (0) 0)),
  .seta (.var (.loc 0)) 8 (.val (.int (0) 0)),
  .seta (.var (.loc 0)) 9 (.val (.str "" 0)),
  .seta (.var (.loc 0)) 10 (.val (.int (0) 0)),
  .seta (.var (.loc 0)) 11 (.val (.int (0) 0)),
  .seta (.var (.loc 0)) 12 (.val (.int (0) 0)),
  .seta (.var (.loc 0)) 13 (.val (.int (0) 0)),
  .seta (.var (.loc 0)) 14 (.val (.int (0) 0)),
  .seta (.var (.loc 0)) 15 (.val (.str "" 0))]
noncomputable def sp_Info___init__ : FnSpec := ⟨["self", "code", "glyph", "cluster"], ["self", "code", "glyph", "cluster"], [], [some 0, some 1, some 2, some 3], [], b_Info___init__⟩
noncomputable def b_Buffer___init__ : List CS := [
  .seta (.var (.loc 0)) 16 (.var (.loc 1)),
  .seta (.var (.loc 0)) 17 (.var (.loc 2)),
  .seta (.var (.loc 0)) 18 (.val (.int (0) 0)),
  .seta (.var (.loc 0)) 19 (.val (.int (0) 0))]
noncomputable def sp_Buffer___init__ : FnSpec := ⟨["self", "infos", "is_backward"], ["self", "infos", "is_backward"], [], [some 0, some 1, some 2], [], b_Buffer___init__⟩
noncomputable def b_Buffer_glyphs : List CS := [
  .ret (.comp (.attr (.var (.loc 1)) 1) (.one (.loc 1)) (.attr (.var (.loc 0)) 16) .tt 2 [])]
noncomputable def sp_Buffer_glyphs : FnSpec := ⟨["self"], ["self"], [], [some 0], [], b_Buffer_glyphs⟩
noncomputable def b_hang : List CS := [
  .set (.one (.loc 3)) (.slice (.attr (.var (.loc 0)) 16) (.var (.loc 1)) (.var (.loc 2)) (.val .none)),
  .ite (.cmp .Lt (.call (.val (.builtin "len")) [(.var (.loc 3))]) (.val (.int (2) 0))) [
    .ret (.val .none)] [],
  .set (.one (.loc 5)) (.call (.val (.builtin "min")) [(.comp (.attr (.var (.loc 1)) 2) (.one (.loc 1)) (.var (.loc 3)) .tt 2 [])]),
  .for (.one (.loc 4)) (.var (.loc 3)) [
    .ite (.cmp .NotEq (.attr (.var (.loc 4)) 2) (.var (.loc 5))) [
      .seta (.var (.loc 4)) 4 (.val (.bool true))] []]]
noncomputable def sp_hang : FnSpec := ⟨["buffer", "begin", "end"], ["buffer", "begin", "end", "stretch", "info", "least_cluster"], [], [some 0, some 1, some 2, none, none, none], [], b_hang⟩
noncomputable def b_Coverage___init__ : List CS := [
  .seta (.var (.loc 0)) 20 (.var (.loc 1))]
noncomputable def sp_Coverage___init__ : FnSpec := ⟨["self", "glyphs"], ["self", "glyphs"], [], [some 0, some 1], [], b_Coverage___init__⟩
noncomputable def b_Coverage_index : List CS := [
  .set (.one (.loc 2)) (.val (.int (0) 0)),
  .set (.one (.loc 3)) (.call (.val (.builtin "len")) [(.attr (.var (.loc 0)) 20)]),
  .while (.cmp .Lt (.var (.loc 2)) (.var (.loc 3))) [
    .set (.one (.loc 4)) (.bin .FloorDiv (.bin .Add (.var (.loc 2)) (.var (.loc 3))) (.val (.int (2) 0))),
    .ite (.cmp .Lt (.sub (.attr (.var (.loc 0)) 20) (.var (.loc 4))) (.var (.loc 1))) [
      .set (.one (.loc 2)) (.bin .Add (.var (.loc 4)) (.val (.int (1) 0)))] [
      .set (.one (.loc 3)) (.var (.loc 4))]],
  .ite (.and (.cmp .Lt (.var (.loc 2)) (.call (.val (.builtin "len")) [(.attr (.var (.loc 0)) 20)])) (.cmp .Eq (.sub (.attr (.var (.loc 0)) 20) (.var (.loc 2))) (.var (.loc 1)))) [
    .ret (.var (.loc 2))] [],
  .ret (.neg (.val (.int (1) 0)))]
noncomputable def sp_Coverage_index : FnSpec := ⟨["self", "glyph"], ["self", "glyph", "low", "high", "middle"], [], [some 0, some 1, none, none, none], [], b_Coverage_index⟩
noncomputable def b_Coverage_has : List CS := [
  .ret (.ofB (.cmp .GtE (.meth (.var (.loc 0)) 21 [(.var (.loc 1))]) (.val (.int (0) 0))))]
noncomputable def sp_Coverage_has : FnSpec := ⟨["self", "glyph"], ["self", "glyph"], [], [some 0, some 1], [], b_Coverage_has⟩
noncomputable def b_coverage_of : List CS := [
  .set (.one (.loc 1)) (.dict [] []),
  .for (.one (.loc 2)) (.var (.loc 0)) [
    .seti (.var (.loc 1)) (.var (.loc 2)) (.val (.bool true))],
  .ret (.call (.val (.ref a_Coverage)) [(.call (.val (.type "tuple")) [(.call (.val (.builtin "sorted")) [(.var (.loc 1))])])])]
noncomputable def sp_coverage_of : FnSpec := ⟨["glyphs"], ["glyphs", "found", "glyph"], [], [some 0, none, none], [], b_coverage_of⟩
noncomputable def b_Rule___init__ : List CS := [
  .seta (.var (.loc 0)) 23 (.var (.loc 1)),
  .seta (.var (.loc 0)) 24 (.var (.loc 2)),
  .seta (.var (.loc 0)) 25 (.var (.loc 3)),
  .seta (.var (.loc 0)) 26 (.var (.loc 4))]
noncomputable def sp_Rule___init__ : FnSpec := ⟨["self", "back", "inside", "ahead", "actions"], ["self", "back", "inside", "ahead", "actions"], [], [some 0, some 1, some 2, some 3, some 4], [], b_Rule___init__⟩
noncomputable def b_Contexts___init__ : List CS := [
  .seta (.var (.loc 0)) 27 (.var (.loc 1)),
  .seta (.var (.loc 0)) 28 (.var (.loc 2)),
  .seta (.var (.loc 0)) 29 (.var (.loc 3)),
  .seta (.var (.loc 0)) 30 (.var (.loc 4)),
  .seta (.var (.loc 0)) 31 (.var (.loc 5))]
noncomputable def sp_Contexts___init__ : FnSpec := ⟨["self", "form", "is_chained", "sets", "coverage", "classes"], ["self", "form", "is_chained", "sets", "coverage", "classes"], [], [some 0, some 1, some 2, some 3, some 4, some 5], [], b_Contexts___init__⟩
noncomputable def b_Contexts_rules : List CS := [
  .set (.one (.loc 1)) (.list []),
  .for (.one (.loc 2)) (.call (.val (.builtin "sorted")) [(.attr (.var (.loc 0)) 29)]) [
    .for (.one (.loc 3)) (.sub (.attr (.var (.loc 0)) 29) (.var (.loc 2))) [
      .expr (.meth (.var (.loc 1)) 43 [(.var (.loc 3))])]],
  .ret (.var (.loc 1))]
noncomputable def sp_Contexts_rules : FnSpec := ⟨["self"], ["self", "found", "key", "rule"], [], [some 0, none, none, none], [], b_Contexts_rules⟩
noncomputable def b_tests_of : List CS := [
  .ite (.cmp .Eq (.var (.cel 0)) (.val (.str "class" 0))) [
    .ret (.comp (.tup [(.val (.str "class" 0)), (.var (.cel 0)), (.var (.loc 1))]) (.one (.loc 1)) (.var (.loc 0)) .tt 2 [1])] [],
  .ret (.comp (.tup [(.var (.cel 0)), (.var (.loc 1))]) (.one (.loc 1)) (.var (.loc 0)) .tt 2 [0])]
noncomputable def sp_tests_of : FnSpec := ⟨["row", "word", "classdef"], ["row"], ["word", "classdef"], [some 0], [some 1, some 2], b_tests_of⟩
noncomputable def b_rule_tests : List CS := [
  .set (.one (.loc 2)) (.sub (.list [(.val (.str "" 0)), (.val (.str "glyph" 0)), (.val (.str "class" 0)), (.val (.str "cover" 0))]) (.attr (.var (.loc 0)) 27)),
  .set (.many [(.loc 3), (.loc 4), (.loc 5)]) (.ite (.cmp .Eq (.attr (.var (.loc 0)) 27) (.val (.int (2) 0))) (.attr (.var (.loc 0)) 31) (.tup [(.val .none), (.val .none), (.val .none)])),
  .ret (.tup [(.call (.val (.ref a_tests_of)) [(.attr (.var (.loc 1)) 23), (.var (.loc 2)), (.var (.loc 3))]), (.call (.val (.ref a_tests_of)) [(.attr (.var (.loc 1)) 24), (.var (.loc 2)), (.var (.loc 4))]), (.call (.val (.ref a_tests_of)) [(.attr (.var (.loc 1)) 25), (.var (.loc 2)), (.var (.loc 5))]), (.attr (.var (.loc 1)) 26)])]
noncomputable def sp_rule_tests : FnSpec := ⟨["table", "rule"], ["table", "rule", "word", "back", "inside", "ahead"], [], [some 0, some 1, none, none, none, none], [], b_rule_tests⟩
noncomputable def b_rules_at : List CS := [
  .ite (.cmp .Eq (.attr (.var (.cel 0)) 27) (.val (.int (1) 0))) [
    .set (.one (.loc 0)) (.meth (.attr (.var (.cel 0)) 29) 45 [(.var (.cel 1)), (.list [])])] [
    .ite (.cmp .Eq (.attr (.var (.cel 0)) 27) (.val (.int (2) 0))) [
      .set (.one (.loc 0)) (.ite (.tr (.meth (.attr (.var (.cel 0)) 30) 22 [(.var (.cel 1))])) (.meth (.attr (.var (.cel 0)) 29) 45 [(.meth (.sub (.attr (.var (.cel 0)) 31) (.val (.int (1) 0))) 46 [(.var (.cel 1))]), (.list [])]) (.list []))] [
      .set (.one (.loc 0)) (.comp (.var (.loc 1)) (.one (.loc 1)) (.meth (.var (.cel 0)) 32 []) (.tr (.meth (.sub (.attr (.var (.loc 1)) 24) (.val (.int (0) 0))) 22 [(.var (.cel 0))])) 2 [1])]],
  .ret (.comp (.call (.val (.ref a_rule_tests)) [(.var (.cel 0)), (.var (.loc 1))]) (.one (.loc 1)) (.var (.loc 0)) .tt 2 [0])]
noncomputable def sp_rules_at : FnSpec := ⟨["table", "glyph"], ["rules"], ["table", "glyph"], [none], [some 0, some 1], b_rules_at⟩
noncomputable def b_Lookup___init__ : List CS := [
  .seta (.var (.loc 0)) 9 (.var (.loc 1)),
  .seta (.var (.loc 0)) 33 (.var (.loc 2)),
  .seta (.var (.loc 0)) 34 (.var (.loc 3)),
  .seta (.var (.loc 0)) 35 (.var (.loc 4))]
noncomputable def sp_Lookup___init__ : FnSpec := ⟨["self", "kind", "flag", "mark_set", "tables"], ["self", "kind", "flag", "mark_set", "tables"], [], [some 0, some 1, some 2, some 3, some 4], [], b_Lookup___init__⟩
noncomputable def b_Scene___init__ : List CS := [
  .seta (.var (.loc 0)) 36 (.var (.loc 1)),
  .seta (.var (.loc 0)) 37 (.var (.loc 2)),
  .seta (.var (.loc 0)) 38 (.var (.loc 3)),
  .seta (.var (.loc 0)) 39 (.var (.loc 4)),
  .seta (.var (.loc 0)) 3 (.var (.loc 5)),
  .seta (.var (.loc 0)) 40 (.var (.loc 6)),
  .seta (.var (.loc 0)) 41 (.list [(.val (.int (0) 0))])]
noncomputable def sp_Scene___init__ : FnSpec := ⟨["self", "buffer", "gdef", "lookups", "lookup", "mask", "depth"], ["self", "buffer", "gdef", "lookups", "lookup", "mask", "depth"], [], [some 0, some 1, some 2, some 3, some 4, some 5, some 6], [], b_Scene___init__⟩
noncomputable def b_attach_wanted : List CS := [
  .ret (.bin .Mod (.bin .FloorDiv (.var (.loc 0)) (.val (.int (256) 0))) (.val (.int (256) 0)))]
noncomputable def sp_attach_wanted : FnSpec := ⟨["flag"], ["flag"], [], [some 0], [], b_attach_wanted⟩
noncomputable def b_class_bit : List CS := [
  .ret (.meth (.dict [1, 2, 3] [(.val (.int (2) 0)), (.val (.int (4) 0)), (.val (.int (8) 0))]) 45 [(.var (.loc 0)), (.val (.int (0) 0))])]
noncomputable def sp_class_bit : FnSpec := ⟨["number"], ["number"], [], [some 0], [], b_class_bit⟩
noncomputable def b_is_ignored : List CS := [
  .set (.one (.loc 3)) (.meth (.var (.loc 0)) 47 [(.var (.loc 2))]),
  .ite (.tr (.bin .BitAnd (.attr (.var (.loc 1)) 33) (.call (.val (.ref a_class_bit)) [(.var (.loc 3))]))) [
    .ret (.val (.bool true))] [],
  .ite (.cmp .NotEq (.var (.loc 3)) (.val (.int (3) 0))) [
    .ret (.val (.bool false))] [],
  .ite (.tr (.bin .BitAnd (.attr (.var (.loc 1)) 33) (.val (.int (16) 0)))) [
    .ret (.ofB (.not (.tr (.meth (.var (.loc 0)) 52 [(.attr (.var (.loc 1)) 34), (.var (.loc 2))]))))] [],
  .set (.one (.loc 4)) (.call (.val (.ref a_attach_wanted)) [(.attr (.var (.loc 1)) 33)]),
  .ret (.and (.ofB (.cmp .Gt (.var (.loc 4)) (.val (.int (0) 0)))) (.ofB (.cmp .NotEq (.meth (.var (.loc 0)) 51 [(.var (.loc 2))]) (.var (.loc 4)))))]
noncomputable def sp_is_ignored : FnSpec := ⟨["gdef", "lookup", "glyph"], ["gdef", "lookup", "glyph", "number", "wanted"], [], [some 0, some 1, some 2, none, none], [], b_is_ignored⟩
noncomputable def b_passes : List CS := [
  .ret (.call (.val (.ref a_is_ignored)) [(.attr (.var (.loc 0)) 37), (.attr (.var (.loc 0)) 39), (.attr (.sub (.attr (.attr (.var (.loc 0)) 36) 16) (.var (.loc 1))) 1)])]
noncomputable def sp_passes : FnSpec := ⟨["scene", "at"], ["scene", "at"], [], [some 0, some 1], [], b_passes⟩
noncomputable def b_nested_scene : List CS := [
  .ite (.not (.cmp2 .LtE .Lt (.val (.int (0) 0)) (.var (.loc 1)) (.call (.val (.builtin "len")) [(.attr (.var (.loc 0)) 38)]))) [
    .ret (.val .none)] [],
  .set (.one (.loc 2)) (.call (.val (.ref a_Scene)) [(.attr (.var (.loc 0)) 36), (.attr (.var (.loc 0)) 37), (.attr (.var (.loc 0)) 38), (.sub (.attr (.var (.loc 0)) 38) (.var (.loc 1))), (.attr (.var (.loc 0)) 3), (.bin .Add (.attr (.var (.loc 0)) 40) (.val (.int (1) 0)))]),
  .seta (.var (.loc 2)) 41 (.attr (.var (.loc 0)) 41),
  .ret (.var (.loc 2))]
noncomputable def sp_nested_scene : FnSpec := ⟨["scene", "number"], ["scene", "number", "found"], [], [some 0, some 1, none], [], b_nested_scene⟩
noncomputable def b_fits : List CS := [
  .ite (.cmp .Eq (.sub (.var (.loc 0)) (.val (.int (0) 0))) (.val (.str "glyph" 0))) [
    .ret (.ofB (.cmp .Eq (.sub (.var (.loc 0)) (.val (.int (1) 0))) (.var (.loc 1))))] [],
  .ite (.cmp .Eq (.sub (.var (.loc 0)) (.val (.int (0) 0))) (.val (.str "class" 0))) [
    .ret (.ofB (.cmp .Eq (.meth (.sub (.var (.loc 0)) (.val (.int (1) 0))) 46 [(.var (.loc 1))]) (.sub (.var (.loc 0)) (.val (.int (2) 0)))))] [],
  .ret (.meth (.sub (.var (.loc 0)) (.val (.int (1) 0))) 22 [(.var (.loc 1))])]
noncomputable def sp_fits : FnSpec := ⟨["test", "glyph"], ["test", "glyph"], [], [some 0, some 1], [], b_fits⟩
noncomputable def b_is_borne : List CS := [
  .ret (.ofB (.cmp .NotEq (.bin .BitAnd (.attr (.var (.loc 1)) 3) (.attr (.var (.loc 0)) 3)) (.val (.int (0) 0))))]
noncomputable def sp_is_borne : FnSpec := ⟨["scene", "info"], ["scene", "info"], [], [some 0, some 1], [], b_is_borne⟩
noncomputable def b_found_at : List CS := [
  .set (.one (.loc 6)) (.bin .Add (.var (.loc 1)) (.var (.loc 2))),
  .while (.cmp2 .LtE .Lt (.val (.int (0) 0)) (.var (.loc 6)) (.call (.val (.builtin "len")) [(.attr (.attr (.var (.loc 0)) 36) 16)])) [
    .ite (.not (.tr (.call (.val (.ref a_passes)) [(.var (.loc 0)), (.var (.loc 6))]))) [
      .set (.one (.loc 7)) (.sub (.attr (.attr (.var (.loc 0)) 36) 16) (.var (.loc 6))),
      .ite (.and (.tr (.call (.val (.ref a_fits)) [(.var (.loc 3)), (.attr (.var (.loc 7)) 1)])) (.or (.tr (.call (.val (.ref a_is_borne)) [(.var (.loc 0)), (.var (.loc 7))])) (.not (.tr (.var (.loc 5)))))) [
        .ret (.var (.loc 6))] [],
      .ite (.cmp .NotIn (.attr (.var (.loc 7)) 9) (.var (.loc 4))) [
        .ret (.neg (.val (.int (1) 0)))] []] [],
    .set (.one (.loc 6)) (.bin .Add (.var (.loc 6)) (.var (.loc 2)))],
  .ret (.neg (.val (.int (1) 0)))]
noncomputable def sp_found_at : FnSpec := ⟨["scene", "at", "step", "test", "kinds", "is_input"], ["scene", "at", "step", "test", "kinds", "is_input", "here", "info"], [], [some 0, some 1, some 2, some 3, some 4, some 5, none, none], [], b_found_at⟩
noncomputable def b_input_at : List CS := [
  .ite (.not (.tr (.call (.val (.ref a_fits)) [(.sub (.var (.loc 2)) (.val (.int (0) 0))), (.attr (.sub (.attr (.attr (.var (.loc 0)) 36) 16) (.var (.loc 1))) 1)]))) [
    .ret (.val .none)] [],
  .set (.one (.loc 3)) (.list [(.var (.loc 1))]),
  .for (.one (.loc 4)) (.slice (.var (.loc 2)) (.val (.int (1) 0)) (.val .none) (.val .none)) [
    .set (.one (.loc 5)) (.call (.val (.ref a_found_at)) [(.var (.loc 0)), (.sub (.var (.loc 3)) (.neg (.val (.int (1) 0)))), (.val (.int (1) 0)), (.var (.loc 4)), (.val (.ref a_KINDS_IN_INPUT)), (.val (.bool true))]),
    .ite (.cmp .Lt (.var (.loc 5)) (.val (.int (0) 0))) [
      .ret (.val .none)] [],
    .expr (.meth (.var (.loc 3)) 43 [(.var (.loc 5))])],
  .ret (.var (.loc 3))]
noncomputable def sp_input_at : FnSpec := ⟨["scene", "at", "tests"], ["scene", "at", "tests", "found", "test", "here"], [], [some 0, some 1, some 2, none, none, none], [], b_input_at⟩
noncomputable def b_last_at : List CS := [
  .set (.one (.loc 4)) (.var (.loc 1)),
  .for (.one (.loc 5)) (.var (.loc 3)) [
    .set (.one (.loc 4)) (.call (.val (.ref a_found_at)) [(.var (.loc 0)), (.var (.loc 4)), (.var (.loc 2)), (.var (.loc 5)), (.val (.ref a_KINDS_AROUND)), (.val (.bool false))]),
    .ite (.cmp .Lt (.var (.loc 4)) (.val (.int (0) 0))) [
      .ret (.neg (.val (.int (1) 0)))] []],
  .ret (.var (.loc 4))]
noncomputable def sp_last_at : FnSpec := ⟨["scene", "at", "step", "tests"], ["scene", "at", "step", "tests", "here", "test"], [], [some 0, some 1, some 2, some 3, none, none], [], b_last_at⟩
noncomputable def b_ahead_at : List CS := [
  .ret (.call (.val (.ref a_last_at)) [(.var (.loc 0)), (.var (.loc 1)), (.val (.int (1) 0)), (.var (.loc 2))])]
noncomputable def sp_ahead_at : FnSpec := ⟨["scene", "at", "tests"], ["scene", "at", "tests"], [], [some 0, some 1, some 2], [], b_ahead_at⟩
noncomputable def b_back_at : List CS := [
  .ret (.call (.val (.ref a_last_at)) [(.var (.loc 0)), (.var (.loc 1)), (.neg (.val (.int (1) 0))), (.var (.loc 2))])]
noncomputable def sp_back_at : FnSpec := ⟨["scene", "at", "tests"], ["scene", "at", "tests"], [], [some 0, some 1, some 2], [], b_back_at⟩
noncomputable def b_Places___init__ : List CS := [
  .seta (.var (.loc 0)) 16 (.var (.loc 1)),
  .seta (.var (.loc 0)) 42 (.var (.loc 2))]
noncomputable def sp_Places___init__ : FnSpec := ⟨["self", "row", "end"], ["self", "row", "end"], [], [some 0, some 1, some 2], [], b_Places___init__⟩
noncomputable def b_match_rule : List CS := [
  .set (.many [(.loc 3), (.loc 4), (.loc 5), (.loc 6)]) (.var (.loc 2)),
  .set (.one (.loc 7)) (.call (.val (.ref a_input_at)) [(.var (.loc 0)), (.var (.loc 1)), (.var (.loc 4))]),
  .ite (.cmp .Is (.var (.loc 7)) (.val .none)) [
    .ret (.val .none)] [],
  .set (.one (.loc 8)) (.call (.val (.ref a_back_at)) [(.var (.loc 0)), (.var (.loc 1)), (.var (.loc 3))]),
  .ite (.cmp .Lt (.var (.loc 8)) (.val (.int (0) 0))) [
    .ret (.val .none)] [],
  .set (.one (.loc 9)) (.call (.val (.ref a_ahead_at)) [(.var (.loc 0)), (.sub (.var (.loc 7)) (.neg (.val (.int (1) 0)))), (.var (.loc 5))]),
  .ret (.ite (.cmp .Lt (.var (.loc 9)) (.val (.int (0) 0))) (.val .none) (.tup [(.var (.loc 7)), (.var (.loc 8)), (.var (.loc 9))]))]
noncomputable def sp_match_rule : FnSpec := ⟨["scene", "at", "tests"], ["scene", "at", "tests", "back", "inside", "ahead", "actions", "places", "begin", "end"], [], [some 0, some 1, some 2, none, none, none, none, none, none, none], [], b_match_rule⟩
noncomputable def b_inner_scene : List CS := [
  .ret (.ite (.cmp .GtE (.attr (.var (.loc 0)) 40) (.val (.int (6) 0))) (.val .none) (.call (.val (.ref a_nested_scene)) [(.var (.loc 0)), (.var (.loc 1))]))]
noncomputable def sp_inner_scene : FnSpec := ⟨["scene", "number"], ["scene", "number"], [], [some 0, some 1], [], b_inner_scene⟩
noncomputable def b_grow : List CS := [
  .set (.one (.loc 0)) (.comp (.bin .Add (.bin .Add (.sub (.attr (.var (.cel 1)) 16) (.var (.cel 0))) (.val (.int (1) 0))) (.var (.loc 1))) (.one (.loc 1)) (.call (.val (.type "range")) [(.var (.cel 2))]) .tt 2 [1, 0]),
  .seta (.var (.cel 0)) 16 (.bin .Add (.bin .Add (.slice (.attr (.var (.cel 0)) 16) (.val .none) (.bin .Add (.var (.cel 1)) (.val (.int (1) 0))) (.val .none)) (.var (.loc 0))) (.comp (.bin .Add (.var (.loc 1)) (.var (.cel 0))) (.one (.loc 1)) (.slice (.attr (.var (.cel 0)) 16) (.bin .Add (.var (.cel 1)) (.val (.int (1) 0))) (.val .none) (.val .none)) .tt 2 [2]))]
noncomputable def sp_grow : FnSpec := ⟨["places", "index", "more"], ["fresh"], ["places", "index", "more"], [none], [some 0, some 1, some 2], b_grow⟩
noncomputable def b_shrink : List CS := [
  .seta (.var (.loc 0)) 16 (.bin .Add (.slice (.attr (.var (.loc 0)) 16) (.val .none) (.bin .Add (.var (.loc 1)) (.val (.int (1) 0))) (.val .none)) (.comp (.bin .Sub (.var (.loc 1)) (.var (.cel 0))) (.one (.loc 1)) (.slice (.attr (.var (.loc 0)) 16) (.bin .Add (.bin .Add (.var (.loc 1)) (.val (.int (1) 0))) (.var (.cel 0))) (.val .none) (.val .none)) .tt 2 [0]))]
noncomputable def sp_shrink : FnSpec := ⟨["places", "index", "less"], ["places", "index"], ["less"], [some 0, some 1], [some 2], b_shrink⟩
noncomputable def b_move : List CS := [
  .seta (.var (.loc 0)) 42 (.bin .Add (.attr (.var (.loc 0)) 42) (.var (.loc 2))),
  .ite (.cmp .Lt (.attr (.var (.loc 0)) 42) (.sub (.attr (.var (.loc 0)) 16) (.var (.loc 1)))) [
    .set (.one (.loc 2)) (.bin .Sub (.bin .Add (.var (.loc 2)) (.sub (.attr (.var (.loc 0)) 16) (.var (.loc 1)))) (.attr (.var (.loc 0)) 42)),
    .seta (.var (.loc 0)) 42 (.sub (.attr (.var (.loc 0)) 16) (.var (.loc 1)))] [],
  .ite (.cmp .Gt (.var (.loc 2)) (.val (.int (0) 0))) [
    .expr (.call (.val (.ref a_grow)) [(.var (.loc 0)), (.var (.loc 1)), (.var (.loc 2))])] [
    .ite (.cmp .Lt (.var (.loc 2)) (.val (.int (0) 0))) [
      .expr (.call (.val (.ref a_shrink)) [(.var (.loc 0)), (.var (.loc 1)), (.neg (.var (.loc 2)))])] []]]
noncomputable def sp_move : FnSpec := ⟨["places", "index", "change"], ["places", "index", "change"], [], [some 0, some 1, some 2], [], b_move⟩
noncomputable def b_do_action : List CS := [
  .set (.many [(.loc 4), (.loc 5)]) (.var (.loc 2)),
  .ite (.or (.cmp .GtE (.var (.loc 4)) (.call (.val (.builtin "len")) [(.attr (.var (.loc 1)) 16)])) (.cmp .GtE (.sub (.attr (.var (.loc 1)) 16) (.var (.loc 4))) (.call (.val (.builtin "len")) [(.attr (.attr (.var (.loc 0)) 36) 16)]))) [
    .ret (.val (.bool true))] [],
  .set (.one (.loc 6)) (.call (.val (.ref a_inner_scene)) [(.var (.loc 0)), (.var (.loc 5))]),
  .ite (.or (.cmp .Is (.var (.loc 6)) (.val .none)) (.cmp .GtE (.sub (.attr (.var (.loc 0)) 41) (.val (.int (0) 0))) (.val (.int (256) 0)))) [
    .ret (.val (.bool true))] [],
  .seti (.attr (.var (.loc 0)) 41) (.val (.int (0) 0)) (.bin .Add (.sub (.attr (.var (.loc 0)) 41) (.val (.int (0) 0))) (.val (.int (1) 0))),
  .set (.one (.loc 7)) (.call (.val (.builtin "len")) [(.attr (.attr (.var (.loc 0)) 36) 16)]),
  .ite (.cmp .Lt (.call (.var (.loc 3)) [(.var (.loc 6)), (.sub (.attr (.var (.loc 1)) 16) (.var (.loc 4)))]) (.val (.int (0) 0))) [
    .ret (.val (.bool true))] [],
  .set (.one (.loc 8)) (.bin .Sub (.call (.val (.builtin "len")) [(.attr (.attr (.var (.loc 0)) 36) 16)]) (.var (.loc 7))),
  .ite (.and (.cmp .Gt (.var (.loc 8)) (.val (.int (0) 0))) (.cmp .Gt (.bin .Add (.var (.loc 8)) (.call (.val (.builtin "len")) [(.attr (.var (.loc 1)) 16)])) (.val (.int (64) 0)))) [
    .seta (.var (.loc 1)) 42 (.bin .Add (.attr (.var (.loc 1)) 42) (.var (.loc 8))),
    .ret (.val (.bool false))] [],
  .ite (.cmp .NotEq (.var (.loc 8)) (.val (.int (0) 0))) [
    .expr (.call (.val (.ref a_move)) [(.var (.loc 1)), (.var (.loc 4)), (.var (.loc 8))])] [],
  .ret (.val (.bool true))]
noncomputable def sp_do_action : FnSpec := ⟨["scene", "places", "action", "apply_at"], ["scene", "places", "action", "apply_at", "index", "number", "inner", "size", "change"], [], [some 0, some 1, some 2, some 3, none, none, none, none, none], [], b_do_action⟩
noncomputable def b_do_actions : List CS := [
  .for (.one (.loc 4)) (.var (.loc 2)) [
    .ite (.not (.tr (.call (.val (.ref a_do_action)) [(.var (.loc 0)), (.var (.loc 1)), (.var (.loc 4)), (.var (.loc 3))]))) [
      .ret (.attr (.var (.loc 1)) 42)] []],
  .ret (.attr (.var (.loc 1)) 42)]
noncomputable def sp_do_actions : FnSpec := ⟨["scene", "places", "actions", "apply_at"], ["scene", "places", "actions", "apply_at", "action"], [], [some 0, some 1, some 2, some 3, none], [], b_do_actions⟩
noncomputable def b_apply_context : List CS := [
  .ite (.cmp .Eq (.attr (.var (.loc 0)) 40) (.val (.int (0) 0))) [
    .seti (.attr (.var (.loc 0)) 41) (.val (.int (0) 0)) (.val (.int (0) 0))] [],
  .for (.one (.loc 4)) (.call (.val (.ref a_rules_at)) [(.var (.loc 1)), (.attr (.sub (.attr (.attr (.var (.loc 0)) 36) 16) (.var (.loc 2))) 1)]) [
    .set (.one (.loc 5)) (.call (.val (.ref a_match_rule)) [(.var (.loc 0)), (.var (.loc 2)), (.var (.loc 4))]),
    .ite (.cmp .IsNot (.var (.loc 5)) (.val .none)) [
      .expr (.call (.val (.ref a_hang)) [(.attr (.var (.loc 0)) 36), (.sub (.var (.loc 5)) (.val (.int (1) 0))), (.bin .Add (.sub (.var (.loc 5)) (.val (.int (2) 0))) (.val (.int (1) 0)))]),
      .ret (.call (.val (.ref a_do_actions)) [(.var (.loc 0)), (.call (.val (.ref a_Places)) [(.sub (.var (.loc 5)) (.val (.int (0) 0))), (.bin .Add (.sub (.sub (.var (.loc 5)) (.val (.int (0) 0))) (.neg (.val (.int (1) 0)))) (.val (.int (1) 0)))]), (.sub (.var (.loc 4)) (.val (.int (3) 0))), (.var (.loc 3))])] []],
  .ret (.neg (.val (.int (1) 0)))]
noncomputable def sp_apply_context : FnSpec := ⟨["scene", "table", "at", "apply_at"], ["scene", "table", "at", "apply_at", "tests", "found"], [], [some 0, some 1, some 2, some 3, none, none], [], b_apply_context⟩
noncomputable def b_ClassDef___init__ : List CS := [
  .seta (.var (.loc 0)) 31 (.var (.loc 1))]
noncomputable def sp_ClassDef___init__ : FnSpec := ⟨["self", "classes"], ["self", "classes"], [], [some 0, some 1], [], b_ClassDef___init__⟩
noncomputable def b_ClassDef_class_of : List CS := [
  .ret (.meth (.attr (.var (.loc 0)) 31) 45 [(.var (.loc 1)), (.val (.int (0) 0))])]
noncomputable def sp_ClassDef_class_of : FnSpec := ⟨["self", "glyph"], ["self", "glyph"], [], [some 0, some 1], [], b_ClassDef_class_of⟩
noncomputable def b_Gdef___init__ : List CS := [
  .seta (.var (.loc 0)) 31 (.var (.loc 1)),
  .seta (.var (.loc 0)) 48 (.var (.loc 2)),
  .seta (.var (.loc 0)) 29 (.var (.loc 3)),
  .seta (.var (.loc 0)) 49 (.ite (.cmp .Is (.var (.loc 4)) (.val .none)) (.dict [] []) (.var (.loc 4))),
  .seta (.var (.loc 0)) 50 (.ite (.cmp .Is (.var (.loc 5)) (.val .none)) (.dict [] []) (.var (.loc 5)))]
noncomputable def sp_Gdef___init__ : FnSpec := ⟨["self", "classes", "attach", "sets", "points", "carets"], ["self", "classes", "attach", "sets", "points", "carets"], [], [some 0, some 1, some 2, some 3, some 4, some 5], [], b_Gdef___init__⟩
noncomputable def b_Gdef_glyph_class : List CS := [
  .set (.one (.loc 2)) (.meth (.attr (.var (.loc 0)) 31) 46 [(.var (.loc 1))]),
  .ret (.ite (.cmp2 .LtE .LtE (.val (.int (1) 0)) (.var (.loc 2)) (.val (.int (4) 0))) (.var (.loc 2)) (.val (.int (0) 0)))]
noncomputable def sp_Gdef_glyph_class : FnSpec := ⟨["self", "glyph"], ["self", "glyph", "number"], [], [some 0, some 1, none], [], b_Gdef_glyph_class⟩
noncomputable def b__law_take : List CS := [
  .ite (.cmp .Eq (.call (.val (.builtin "len")) [(.var (.loc 0))]) (.val (.int (0) 0))) [
    .ret (.val (.int (0) 0))] [],
  .set (.one (.loc 2)) (.bin .Mod (.sub (.var (.loc 0)) (.val (.int (0) 0))) (.var (.loc 1))),
  .seti (.var (.loc 0)) (.val (.int (0) 0)) (.bin .FloorDiv (.sub (.var (.loc 0)) (.val (.int (0) 0))) (.var (.loc 1))),
  .ite (.cmp .Eq (.sub (.var (.loc 0)) (.val (.int (0) 0))) (.val (.int (0) 0))) [
    .expr (.meth (.var (.loc 0)) 44 [(.val (.int (0) 0))])] [],
  .ret (.var (.loc 2))]
noncomputable def sp__law_take : FnSpec := ⟨["pool", "many"], ["pool", "many", "digit"], [], [some 0, some 1, none], [], b__law_take⟩
structure Facts (W : Wd) : Prop where
  O : ∃ mg mb, WdOK W mg mb
  AT : W.AT = AT1
  c_Info : W.cls.lookup a_Info = some k_Info
  c_Buffer : W.cls.lookup a_Buffer = some k_Buffer
  c_Coverage : W.cls.lookup a_Coverage = some k_Coverage
  c_Rule : W.cls.lookup a_Rule = some k_Rule
  c_Contexts : W.cls.lookup a_Contexts = some k_Contexts
  c_Lookup : W.cls.lookup a_Lookup = some k_Lookup
  c_Scene : W.cls.lookup a_Scene = some k_Scene
  c_Places : W.cls.lookup a_Places = some k_Places
  c_ClassDef : W.cls.lookup a_ClassDef = some k_ClassDef
  c_Gdef : W.cls.lookup a_Gdef = some k_Gdef
  f_Info___init__ : ∃ code, FnAt W a_Info___init__ sp_Info___init__ code 4 []
  f_Buffer___init__ : ∃ code, FnAt W a_Buffer___init__ sp_Buffer___init__ code 2 [.bool false]
  f_Buffer_glyphs : ∃ code, FnAt W a_Buffer_glyphs sp_Buffer_glyphs code 1 []
  f_hang : ∃ code, FnAt W a_hang sp_hang code 3 []
  f_Coverage___init__ : ∃ code, FnAt W a_Coverage___init__ sp_Coverage___init__ code 2 []
  f_Coverage_index : ∃ code, FnAt W a_Coverage_index sp_Coverage_index code 2 []
  f_Coverage_has : ∃ code, FnAt W a_Coverage_has sp_Coverage_has code 2 []
  f_coverage_of : ∃ code, FnAt W a_coverage_of sp_coverage_of code 1 []
  f_Rule___init__ : ∃ code, FnAt W a_Rule___init__ sp_Rule___init__ code 5 []
  f_Contexts___init__ : ∃ code, FnAt W a_Contexts___init__ sp_Contexts___init__ code 4 [.none, .none]
  f_Contexts_rules : ∃ code, FnAt W a_Contexts_rules sp_Contexts_rules code 1 []
  f_tests_of : ∃ code, FnAt W a_tests_of sp_tests_of code 3 []
  f_rule_tests : ∃ code, FnAt W a_rule_tests sp_rule_tests code 2 []
  f_rules_at : ∃ code, FnAt W a_rules_at sp_rules_at code 2 []
  f_Lookup___init__ : ∃ code, FnAt W a_Lookup___init__ sp_Lookup___init__ code 5 []
  f_Scene___init__ : ∃ code, FnAt W a_Scene___init__ sp_Scene___init__ code 6 [.int 0 0]
  f_attach_wanted : ∃ code, FnAt W a_attach_wanted sp_attach_wanted code 1 []
  f_class_bit : ∃ code, FnAt W a_class_bit sp_class_bit code 1 []
  f_is_ignored : ∃ code, FnAt W a_is_ignored sp_is_ignored code 3 []
  f_passes : ∃ code, FnAt W a_passes sp_passes code 2 []
  f_nested_scene : ∃ code, FnAt W a_nested_scene sp_nested_scene code 2 []
  f_fits : ∃ code, FnAt W a_fits sp_fits code 2 []
  f_is_borne : ∃ code, FnAt W a_is_borne sp_is_borne code 2 []
  f_found_at : ∃ code, FnAt W a_found_at sp_found_at code 6 []
  f_input_at : ∃ code, FnAt W a_input_at sp_input_at code 3 []
  f_last_at : ∃ code, FnAt W a_last_at sp_last_at code 4 []
  f_ahead_at : ∃ code, FnAt W a_ahead_at sp_ahead_at code 3 []
  f_back_at : ∃ code, FnAt W a_back_at sp_back_at code 3 []
  f_Places___init__ : ∃ code, FnAt W a_Places___init__ sp_Places___init__ code 3 []
  f_match_rule : ∃ code, FnAt W a_match_rule sp_match_rule code 3 []
  f_inner_scene : ∃ code, FnAt W a_inner_scene sp_inner_scene code 2 []
  f_grow : ∃ code, FnAt W a_grow sp_grow code 3 []
  f_shrink : ∃ code, FnAt W a_shrink sp_shrink code 3 []
  f_move : ∃ code, FnAt W a_move sp_move code 3 []
  f_do_action : ∃ code, FnAt W a_do_action sp_do_action code 4 []
  f_do_actions : ∃ code, FnAt W a_do_actions sp_do_actions code 4 []
  f_apply_context : ∃ code, FnAt W a_apply_context sp_apply_context code 4 []
  f_ClassDef___init__ : ∃ code, FnAt W a_ClassDef___init__ sp_ClassDef___init__ code 2 []
  f_ClassDef_class_of : ∃ code, FnAt W a_ClassDef_class_of sp_ClassDef_class_of code 2 []
  f_Gdef___init__ : ∃ code, FnAt W a_Gdef___init__ sp_Gdef___init__ code 4 [.none, .none]
  f_Gdef_glyph_class : ∃ code, FnAt W a_Gdef_glyph_class sp_Gdef_glyph_class code 2 []
  f__law_take : ∃ code, FnAt W a__law_take sp__law_take code 2 []
  f_Scene_full : ∃ code, FnAt W a_Scene___init__ sp_Scene___init__ code 7 []
  f_Contexts_full : ∃ code, FnAt W a_Contexts___init__ sp_Contexts___init__ code 6 []
  k_Info : W.fns.contains a_Info = true
  k_Buffer : W.fns.contains a_Buffer = true
  k_Coverage : W.fns.contains a_Coverage = true
  k_Rule : W.fns.contains a_Rule = true
  k_Contexts : W.fns.contains a_Contexts = true
  k_Lookup : W.fns.contains a_Lookup = true
  k_Scene : W.fns.contains a_Scene = true
  k_Places : W.fns.contains a_Places = true
  k_ClassDef : W.fns.contains a_ClassDef = true
  k_Gdef : W.fns.contains a_Gdef = true
  k_Info___init__ : W.fns.contains a_Info___init__ = true
  k_Buffer___init__ : W.fns.contains a_Buffer___init__ = true
  k_Buffer_glyphs : W.fns.contains a_Buffer_glyphs = true
  k_hang : W.fns.contains a_hang = true
  k_Coverage___init__ : W.fns.contains a_Coverage___init__ = true
  k_Coverage_index : W.fns.contains a_Coverage_index = true
  k_Coverage_has : W.fns.contains a_Coverage_has = true
  k_coverage_of : W.fns.contains a_coverage_of = true
  k_Rule___init__ : W.fns.contains a_Rule___init__ = true
  k_Contexts___init__ : W.fns.contains a_Contexts___init__ = true
  k_Contexts_rules : W.fns.contains a_Contexts_rules = true
  k_tests_of : W.fns.contains a_tests_of = true
  k_rule_tests : W.fns.contains a_rule_tests = true
  k_rules_at : W.fns.contains a_rules_at = true
  k_Lookup___init__ : W.fns.contains a_Lookup___init__ = true
  k_Scene___init__ : W.fns.contains a_Scene___init__ = true
  k_attach_wanted : W.fns.contains a_attach_wanted = true
  k_class_bit : W.fns.contains a_class_bit = true
  k_is_ignored : W.fns.contains a_is_ignored = true
  k_passes : W.fns.contains a_passes = true
  k_nested_scene : W.fns.contains a_nested_scene = true
  k_fits : W.fns.contains a_fits = true
  k_is_borne : W.fns.contains a_is_borne = true
  k_found_at : W.fns.contains a_found_at = true
  k_input_at : W.fns.contains a_input_at = true
  k_last_at : W.fns.contains a_last_at = true
  k_ahead_at : W.fns.contains a_ahead_at = true
  k_back_at : W.fns.contains a_back_at = true
  k_Places___init__ : W.fns.contains a_Places___init__ = true
  k_match_rule : W.fns.contains a_match_rule = true
  k_inner_scene : W.fns.contains a_inner_scene = true
  k_grow : W.fns.contains a_grow = true
  k_shrink : W.fns.contains a_shrink = true
  k_move : W.fns.contains a_move = true
  k_do_action : W.fns.contains a_do_action = true
  k_do_actions : W.fns.contains a_do_actions = true
  k_apply_context : W.fns.contains a_apply_context = true
  k_ClassDef___init__ : W.fns.contains a_ClassDef___init__ = true
  k_ClassDef_class_of : W.fns.contains a_ClassDef_class_of = true
  k_Gdef___init__ : W.fns.contains a_Gdef___init__ = true
  k_Gdef_glyph_class : W.fns.contains a_Gdef_glyph_class = true
  k__law_take : W.fns.contains a__law_take = true
  kin : BStrs W a_KINDS_IN_INPUT ["zwj", "hidden"]
  kar : BStrs W a_KINDS_AROUND ["zwj", "zwnj", "hidden"]
theorem srcM_cons {o : Option Nat} {src : List (Option Nat)} {vals : List Value} : srcM (o :: src) vals = (o.bind fun j => vals[j]?) :: srcM src vals := rfl
theorem srcM_nil {vals : List Value} : srcM [] vals = [] := rfl
theorem ndropS {α : Type} {a : α} {l : List α} {n : Nat} : List.drop (n + 1) (a :: l) = List.drop n l := rfl
theorem ndrop0 {α : Type} {l : List α} : List.drop 0 l = l := rfl
end Mine
end
namespace Mine
local macro_rules | `(tactic| walk_at "open_") => do let xs ← ("wS_expr wS_ret wS_set wS_seta wS_seti wS_ite wS_while wS_for wS_cont wS_fdef wE_val wE_var wE_bin wE_neg wE_ofB wE_and wE_or wE_ite wE_call wE_meth wE_attr wE_sub wE_slice wE_list wE_tup wE_dict wE_comp wE_compC wEs_nil wEs_cons wB_tr wB_tt wB_not wB_and wB_or wB_ite wB_cmp wB_cmp2 srcM_cons srcM_nil setT setP getP optG_some seqK_next seqK_cont seqK_ret Option.bind_some Option.bind_none List.cons_append List.nil_append List.append_nil List.getElem?_cons_zero List.getElem?_cons_succ List.getElem?_nil List.set_cons_zero List.set_cons_succ Option.join_some Nat.reduceAdd List.reduceReplicate List.filterMap_cons List.filterMap_nil List.length_cons List.length_nil Nat.zero_add bnot_true bnot_false ndropS ndrop0".splitOn " ").toArray.mapM fun s => `(Lean.Parser.Tactic.simpLemma| $(Lean.mkIdent s.toName):ident); `(tactic| ((try dsimp only [$xs,*]); (repeat ((first | with_reducible refine ss_cons ?_ | with_reducible refine ss_nil ?_); (try dsimp only [$xs,*])))))
section
open PySem PySem.W PySem.Calls PyProof.Rows
variable {W : Wd} {n : Nat} {G : GH} {K : KV} {cs : List Addr}
theorem Sub.trans {A B C : GH} (h1 : Sub A B) (h2 : Sub B C) : Sub A C := fun a g e => h2 a g (h1 a g e)
theorem sub_set {a : Addr} {o : GO} (h : G a = none) : Sub G (G.set a o) := fun b g e => by
  wide_open with GH.set_ne; exact e
  rintro rfl; wide_line with h using e
theorem set_old {a b : Addr} {o g : GO} (ha : G a = none) (h : G b = some g) : (G.set a o) b = some g := sub_set ha b g h
theorem fnC (F : Facts W) {f : Addr} {sp : FnSpec} {k : Nat} {dv args : List Value} (h : ∃ code, FnAt W f sp code k dv) (hk : args.length = k) (hc : sp.cels = [])
    (w : ∀ cd, wpSs W n cd [] [] sp.body (srcM sp.lsrc (args ++ dv)) G (bodyK K)) : CallC W (n + 1) (.ref f) args G K := by
  refine o_EE F.O fun mg mb O => ?_
  obtain ⟨code, h⟩ := h
  exact callT_fn O h hk hc (w _)
theorem fnCc (F : Facts W) {f : Addr} {sp : FnSpec} {k : Nat} {dv args : List Value} (h : ∃ code, FnAt W f sp code k dv) (hk : args.length = k) (hc : sp.cels ≠ [])
    (w : ∀ cd, ∀ cs : List Addr, cs.length = sp.cels.length → cs.Nodup → (∀ c ∈ cs, G c = none) → wpSs W n cd sp.cels cs sp.body (srcM sp.lsrc (args ++ dv)) (setCs G cs (srcM sp.csrc (args ++ dv))) (bodyK K)) :
    CallC W (n + 1) (.ref f) args G K := by
  refine o_EE F.O fun mg mb O => ?_
  obtain ⟨code, h⟩ := h
  exact callT_cel O h hk hc (w _)
theorem attr_ {a : Addr} {i : Nat} {C : Addr} {fs : List (Nat × Value)} {sp : ClsSpec} {v : Value} (h : G a = some (.inst C fs)) (hc : W.cls.lookup C = some sp) (hi : sp.attrs.contains i = true) (hv : fs.lookup i = some v) (hb : isBlt v = false)
    (k : K v G) : attrG W (.ref a) i G K := by
  unfold attrG; dsimp only; wide_open with h; exact (i_EEAAAA sp v hc hi hv hb k)
theorem seta_ {a : Addr} {i : Nat} {C : Addr} {fs : List (Nat × Value)} {sp : ClsSpec} {v : Value} {K : GH → Prop} (h : G a = some (.inst C fs)) (hc : W.cls.lookup C = some sp) (hi : sp.attrs.contains i = true) (hl : fs.length ≤ 500)
    (k : K (G.set a (.inst C (setF fs i v)))) : setaG W (.ref a) i v G K := by
  unfold setaG; dsimp only; wide_open with h; exact (i_EAAA sp hc hi hl k)
theorem meth_ {a : Addr} {i : Nat} {C m : Addr} {fs : List (Nat × Value)} {sp : ClsSpec} (h : G a = some (.inst C fs)) (hc : W.cls.lookup C = some sp) (hn : (fs.lookup i).isNone = true) (hm : sp.meths.lookup i = some m) : methG W (.ref a) i G = some (.ref m) := by
  unfold methG; dsimp only; wide_open with h; dsimp only; wide_open with hc; dsimp only; (wide_line using if_pos hn; wide_open with hm); rfl
theorem meth_append (F : Facts W) {a : Addr} {xs : List Value} (h : G a = some (.list xs)) : methG W (.ref a) 43 G = some (.builtin "list.append") := by
  unfold methG; dsimp only; wide_open with h; dsimp only; wide_open with F.AT; rfl
theorem meth_pop (F : Facts W) {a : Addr} {xs : List Value} (h : G a = some (.list xs)) : methG W (.ref a) 44 G = some (.builtin "list.pop") := by
  unfold methG; dsimp only; wide_open with h; dsimp only; wide_open with F.AT; rfl
theorem meth_get (F : Facts W) {a : Addr} {es : List (Int × Value)} {ep : Nat} (h : G a = some (.dict es ep)) : methG W (.ref a) 45 G = some (.builtin "dict.get") := by
  unfold methG; dsimp only; wide_open with h; dsimp only; wide_open with F.AT; rfl
theorem sub_list {a : Addr} {xs : List Value} {i : Int} {v : Value} (h : G a = some (.list xs)) (hv : pickI xs i = some v) (k : K v G) : subG (.ref a) (.int i 0) G K := by
  unfold subG; dsimp only; wide_open with h; exact (i_EA v hv k)
theorem sub_tup {a : Addr} {xs : List Value} {i : Int} {v : Value} (h : G a = some (.tup xs)) (hv : pickI xs i = some v) (k : K v G) : subG (.ref a) (.int i 0) G K := by
  unfold subG; dsimp only; wide_open with h; exact (i_EA v hv k)
theorem sub_dict {a : Addr} {es : List (Int × Value)} {ep : Nat} {i : Int} {v : Value} (h : G a = some (.dict es ep)) (hv : es.lookup i = some v) (k : K v G) : subG (.ref a) (.int i 0) G K := by
  unfold subG; dsimp only; wide_open with h; exact (i_EA v hv k)
theorem keep_fn {f : Addr} (h : W.fns.contains f = true) : keepG W (.ref f) G := .inl h
theorem pick_nat {xs : List Value} {i : Nat} {v : Value} (h : xs[i]? = some v) : pickI xs (i : Int) = some v := by
  unfold pickI; wide_open with if_pos (Int.natCast_nonneg i); simpa using h
theorem pick_last {xs : List Value} {v : Value} : pickI (xs ++ [v]) (-1) = some v := by
  unfold pickI
  have e : (-1 + (((xs ++ [v]).length : Nat) : Int)).toNat = xs.length := by simp; lia
  (wide_line using if_neg (by decide); wide_line using if_pos (by simp; lia); wide_open with e)
  simp
theorem cmp_if {op : CmpOp} {a b : Int} {C : Bool → GH → Prop} {p : Prop} [d : Decidable p] (e : cmpI op a b = some (decide p)) (t : p → C true G) (f : ¬p → C false G) : cmpG W n op (.int a 0) (.int b 0) G C :=
  cmpI_ok e (match d with
    | .isTrue h => t h
    | .isFalse h => f h)
theorem cmp_t {op : CmpOp} {a b : Int} {C : Bool → GH → Prop} {p : Prop} [d : Decidable p] (e : cmpI op a b = some (decide p)) (h : p) (k : C true G) : cmpG W n op (.int a 0) (.int b 0) G C := cmp_if e (fun z9 => k) fun x => absurd h x
theorem cmp_f {op : CmpOp} {a b : Int} {C : Bool → GH → Prop} {p : Prop} [d : Decidable p] (e : cmpI op a b = some (decide p)) (h : ¬p) (k : C false G) : cmpG W n op (.int a 0) (.int b 0) G C := cmp_if e (fun x => absurd x h) fun z9 => k
theorem cell_ok {c : Addr} {v : Value} {K : Value → Prop} (h : G c = some (.cell (some v))) (k : K v) : optG (getP [c] [] (.cel 0) G) K := opt_ok (by unfold getP; dsimp only [List.getElem?_cons_zero]; wide_open with h) k
theorem cel_ {i : Nat} {c : Addr} {m : Mm} {v : Value} (hc : cs[i]? = some c) (h : G c = some (.cell (some v))) : getP cs m (.cel i) G = some v := by
  unfold getP; dsimp only; wide_open with hc; dsimp only; wide_open with h
theorem ret_pure {v : Value} {G' : GH} (h : Sub G G') (k : K v G) : bodyK K (.ret v) [] G' := (i_EA G h k)
theorem ret_same {v : Value} (k : K v G) : bodyK K (.ret v) [] G := (i_EA G (fun z9 z9 e => e) k)
noncomputable def dictI (es : List (Int × Int)) : List (Int × Value) := es.map fun p => (p.1, .int p.2 0)
noncomputable def getI (es : List (Int × Int)) (g : Int) : Int := (es.lookup g).getD 0
theorem dictI_get (es : List (Int × Int)) (g : Int) : ((dictI es).lookup g).getD (.int 0 0) = .int (getI es g) 0 := by
  unfold dictI getI
  induction es with
  | nil => rfl
  | cons p r ih =>
    obtain ⟨a, b⟩ := p
    simp only [List.map_cons, List.lookup_cons]
    cases g == a
    · exact ih
    · rfl
noncomputable def ClsAt (G : GH) (c : Addr) (es : List (Int × Int)) : Prop := ∃ d ep, G c = some (.inst a_ClassDef [(31, .ref d)]) ∧ G d = some (.dict (dictI es) ep)
theorem ClsAt.sub {G' : GH} {c : Addr} {es} (x : ClsAt G c es) (h : Sub G G') : ClsAt G' c es := by refine o_EEA x fun d ep h1 h2 => ?_; try clear x; exact (i_EEA d ep (h _ _ h1) (h _ _ h2))
theorem class_of_ (F : Facts W) {c : Addr} {es : List (Int × Int)} {g : Int} (h : ClsAt G c es) (k : K (.int (getI es g) 0) G) : CallC W (n + 1) (.ref a_ClassDef_class_of) [.ref c, .int g 0] G K := by
  refine o_EEA h fun d ep h1 h2 => ?_; try clear h
  refine fnC F F.f_ClassDef_class_of rfl rfl fun cd => ?_
  dsimp only [sp_ClassDef_class_of, b_ClassDef_class_of]
  walk_at "open_"
  refine attr_ h1 F.c_ClassDef rfl rfl rfl ?_
  refine (i_EAA _ (meth_get F h2) trivial (dict_get_ok h2 ?_))
  wide_open with dictI_get
  exact ret_same k
noncomputable def clsNum (es : List (Int × Int)) (g : Int) : Int := if 1 ≤ getI es g ∧ getI es g ≤ 4 then getI es g else 0
structure GdefAt (G : GH) (g : Addr) (es : List (Int × Int)) : Prop where
  ex : ∃ c v1 v2 v3 v4, G g = some (.inst a_Gdef [(31, .ref c), (48, v1), (29, v2), (49, v3), (50, v4)]) ∧ ClsAt G c es
theorem GdefAt.sub {G' : GH} {c : Addr} {es} (x : GdefAt G c es) (h : Sub G G') : GdefAt G' c es := by
  refine o_EEEEEA x.ex fun d v1 v2 v3 v4 h1 h2 => ?_
  exact ⟨(i_EEEEEA d v1 v2 v3 v4 (h _ _ h1) (h2.sub h))⟩
theorem glyph_class_ (F : Facts W) {gd : Addr} {es : List (Int × Int)} {g : Int} (h : GdefAt G gd es) (k : K (.int (clsNum es g) 0) G) : CallC W (n + 2) (.ref a_Gdef_glyph_class) [.ref gd, .int g 0] G K := by
  refine o_EEEEEA h.ex fun c v1 v2 v3 v4 h1 h2 => ?_
  refine fnC F F.f_Gdef_glyph_class rfl rfl fun cd => ?_
  dsimp only [sp_Gdef_glyph_class, b_Gdef_glyph_class]
  walk_at "open_"
  refine attr_ h1 F.c_Gdef rfl rfl rfl ?_
  have h2' := h2
  refine o_EEA h2' fun d ep h3 h4 => ?_; try clear h2'
  refine (i_EAA _ (meth_ h3 F.c_ClassDef rfl rfl) (keep_fn F.k_ClassDef_class_of) ((class_of_ F h2 ?_).T))
  refine cmpI_ok rfl ?_
  unfold clsNum at k
  by_cases a1 : 1 ≤ getI es g
  · wide_open with decide_eq_true a1
    refine cmpI_ok rfl ?_
    by_cases a2 : getI es g ≤ 4
    · walk_at "open_"
      wide_open with decide_eq_true a2; rw [if_pos ⟨a1, a2⟩] at k; exact ret_same k
    · walk_at "open_"
      wide_open with decide_eq_false a2; rw [if_neg (fun x => a2 x.2)] at k; exact ret_same k
  · walk_at "open_"
    wide_open with decide_eq_false a1; rw [if_neg (fun x => a1 x.1)] at k; exact ret_same k
noncomputable def classBit (x : Int) : Int := getI [(1, 2), (2, 4), (3, 8)] x
theorem class_bit_ (F : Facts W) {x : Int} (k : K (.int (classBit x) 0) G) : CallC W (n + 1) (.ref a_class_bit) [.int x 0] G K := by
  refine fnC F F.f_class_bit rfl rfl fun cd => ?_
  dsimp only [sp_class_bit, b_class_bit]
  walk_at "open_"
  intro ep a ha
  have e : (([1, 2, 3] : List Int).zip [Value.int 2 0, Value.int 4 0, Value.int 8 0]).foldl (fun l p => put l p.1 p.2) [] = dictI [(1, 2), (2, 4), (3, 8)] := by simp [put, dictI]
  wide_open with e
  refine (i_EAA _ (meth_get F (GH.set_self _ _ _)) trivial (dict_get_ok (GH.set_self _ _ _) ?_))
  wide_open with dictI_get
  exact ret_pure (sub_set ha) k
noncomputable def LookAt (G : GH) (l : Addr) (kind : Str) (fl ms : Int) : Prop := ∃ tb, G l = some (.inst a_Lookup [(9, .str kind 0), (33, .int fl 0), (34, .int ms 0), (35, tb)])
theorem LookAt.sub {G' : GH} {c : Addr} {a b d} (x : LookAt G c a b d) (h : Sub G G') : LookAt G' c a b d := let ⟨d, h1⟩ := x; ⟨d, h _ _ h1⟩
noncomputable def ignoredM (es : List (Int × Int)) (fl g : Int) : Bool := Builtin.bitAnd fl (classBit (clsNum es g)) != 0
theorem flag_and : ∀ k : Nat, k < 16 → Builtin.bitAnd (k : Int) 16 = 0 := by decide +kernel
theorem flag_div : ∀ k : Nat, k < 16 → ((k : Int).fdiv 256).fmod 256 = 0 := by decide +kernel
theorem attach_wanted_ (F : Facts W) {x : Int} (k : K (.int ((x.fdiv 256).fmod 256) 0) G) : CallC W (n + 1) (.ref a_attach_wanted) [.int x 0] G K := by
  refine fnC F F.f_attach_wanted rfl rfl fun cd => ?_
  dsimp only [sp_attach_wanted, b_attach_wanted]
  walk_at "open_"
  refine div_ok (by decide) (PyProof.noPylong_small (by decide)) ?_
  refine mod_ok (by decide) ?_
  exact ret_same k
theorem is_ignored_ (F : Facts W) {gd l : Addr} {es : List (Int × Int)} {fl : Nat} {kd : Str} {ms g : Int} (h : GdefAt G gd es) (hl : LookAt G l kd fl ms) (hf : fl < 16) (k : K (.bool (ignoredM es fl g)) G) : CallC W (n + 3) (.ref a_is_ignored) [.ref gd, .ref l, .int g 0] G K := by
  obtain ⟨tb, hl⟩ := hl
  refine o_EEEEEA h.ex fun c v1 v2 v3 v4 h1 h2 => ?_
  refine fnC F F.f_is_ignored rfl rfl fun cd => ?_
  dsimp only [sp_is_ignored, b_is_ignored]
  walk_at "open_"
  refine (i_EAA _ (meth_ h1 F.c_Gdef rfl rfl) (keep_fn F.k_Gdef_glyph_class) ((glyph_class_ F h ?_).T))
  walk_at "open_"
  refine attr_ hl F.c_Lookup rfl rfl rfl ?_
  refine ⟨keep_fn F.k_class_bit, (class_bit_ F ?_).T⟩
  refine and_ok ?_
  refine (?_ : match (Builtin.bitAnd (fl : Int) (classBit (clsNum es g)) != 0) with | true => _ | false => _)
  unfold ignoredM at k
  cases hb : (Builtin.bitAnd (fl : Int) (classBit (clsNum es g)) != 0)
  · rw [hb] at k
    walk_at "open_"
    refine cmpI_ok rfl ?_
    by_cases h3 : clsNum es g = 3
    · wide_open with decide_eq_true h3
      walk_at "open_"
      refine attr_ hl F.c_Lookup rfl rfl rfl ?_
      refine and_ok ?_
      wide_open with flag_and fl hf
      simp only [truthG_i, bne_self_eq_false]
      walk_at "open_"
      refine attr_ hl F.c_Lookup rfl rfl rfl ?_
      refine ⟨keep_fn F.k_attach_wanted, (attach_wanted_ F ?_).T⟩
      wide_open with flag_div fl hf
      refine cmpI_ok rfl ?_
      walk_at "open_"
      exact ret_same k
    · wide_open with decide_eq_false h3
      walk_at "open_"
      exact ret_same k
  · rw [hb] at k
    walk_at "open_"
    exact ret_same k
structure Inf where
  code : Int
  glyph : Int
  cluster : Int
  mask : Int
  uns : Bool
  kind : Str
noncomputable def infoO (d : Inf) : GO := .inst a_Info [(0, .int d.code 0), (1, .int d.glyph 0), (2, .int d.cluster 0), (3, .int d.mask 0), (4, .bool d.uns), (5, .int 0 0), (6, .int 0 0), (7, .int 0 0), (8, .int 0 0), (9, .str d.kind 0),
  (10, .int 0 0), (11, .int 0 0), (12, .int 0 0), (13, .int 0 0), (14, .int 0 0), (15, .str "" 0)]
noncomputable def bufO (r : Addr) : GO := .inst a_Buffer [(16, .ref r), (17, .bool false), (18, .int 0 0), (19, .int 0 0)]
noncomputable def refs (as : List Addr) : List Value := as.map .ref
structure RowAt (G : GH) (b : Addr) (as : List Addr) (I : Addr → Inf) : Prop where
  ex : ∃ r, G b = some (bufO r) ∧ G r = some (.list (refs as))
  info : ∀ a ∈ as, G a = some (infoO (I a))
theorem RowAt.sub {G' : GH} {b as I} (x : RowAt G b as I) (h : Sub G G') : RowAt G' b as I := ⟨let ⟨r, h1, h2⟩ := x.ex; (i_EA r (h _ _ h1) (h _ _ h2)), fun a ha => h _ _ (x.info a ha)⟩
noncomputable def sceneO (b gd ls l : Addr) (mask depth : Int) (st : Addr) : GO := .inst a_Scene [(36, .ref b), (37, .ref gd), (38, .ref ls), (39, .ref l), (3, .int mask 0), (40, .int depth 0), (41, .ref st)]
structure View where
  as : List Addr
  I : Addr → Inf
  es : List (Int × Int)
  fl : Nat
  mask : Int
structure SceneAt (G : GH) (s : Addr) (V : View) : Prop where
  ex : ∃ b gd ls l dp st kd ms, G s = some (sceneO b gd ls l V.mask dp st) ∧ RowAt G b V.as V.I ∧ GdefAt G gd V.es ∧ LookAt G l kd V.fl ms ∧ V.fl < 16
theorem SceneAt.sub {G' : GH} {s V} (x : SceneAt G s V) (h : Sub G G') : SceneAt G' s V := by
  refine o_EEEEEEEEAAAA x.ex fun b gd ls l dp st kd ms h1 h2 h3 h4 h5 => ?_
  exact ⟨(i_EEEEEEEEAAAA b gd ls l dp st kd ms (h _ _ h1) (h2.sub h) (h3.sub h) (h4.sub h) h5)⟩
theorem pick_ref {as : List Addr} {i : Nat} {a : Addr} (h : as[i]? = some a) : pickI (refs as) (i : Int) = some (.ref a) := pick_nat (by simp [refs, h])
theorem passes_ (F : Facts W) {s : Addr} {V : View} {i : Nat} {a : Addr} (h : SceneAt G s V) (hi : V.as[i]? = some a) (k : K (.bool (ignoredM V.es V.fl (V.I a).glyph)) G) : CallC W (n + 4) (.ref a_passes) [.ref s, .int i 0] G K := by
  refine o_EEEEEEEEAAAA h.ex fun b gd ls l dp st kd ms h1 h2 h3 h4 h5 => ?_
  refine o_EA h2.ex fun r r1 r2 => ?_
  refine fnC F F.f_passes rfl rfl fun cd => ?_
  dsimp only [sp_passes, b_passes]
  walk_at "open_"
  refine attr_ h1 F.c_Scene rfl rfl rfl ?_
  refine attr_ h1 F.c_Scene rfl rfl rfl ?_
  refine attr_ h1 F.c_Scene rfl rfl rfl ?_
  refine attr_ r1 F.c_Buffer rfl rfl rfl ?_
  refine sub_list r2 (pick_ref hi) ?_
  refine attr_ (h2.info a (List.mem_of_getElem? hi)) F.c_Info rfl rfl rfl ?_
  refine ⟨keep_fn F.k_is_ignored, (is_ignored_ F h3 h4 h5 ?_).T⟩
  exact ret_same k
theorem is_borne_ (F : Facts W) {s a : Addr} {V : View} {d : Inf} (h : SceneAt G s V) (ha : G a = some (infoO d)) (k : K (.bool (Builtin.bitAnd d.mask V.mask != 0)) G) : CallC W (n + 1) (.ref a_is_borne) [.ref s, .ref a] G K := by
  refine o_EEEEEEEEAAAA h.ex fun b gd ls l dp st kd ms h1 h2 h3 h4 h5 => ?_
  refine fnC F F.f_is_borne rfl rfl fun cd => ?_
  dsimp only [sp_is_borne, b_is_borne]
  walk_at "open_"
  refine attr_ ha F.c_Info rfl rfl rfl ?_
  refine attr_ h1 F.c_Scene rfl rfl rfl ?_
  refine and_ok ?_
  refine cmpI_ok rfl ?_
  refine ret_same ?_
  have e : (!decide (Builtin.bitAnd d.mask V.mask = 0)) = (Builtin.bitAnd d.mask V.mask != 0) := by
    cases hq : (Builtin.bitAnd d.mask V.mask != 0) <;> simp_all
  wide_open with e; exact k
end
section
open PySem PySem.W PySem.Calls PyProof.Rows
variable {W : Wd} {n : Nat} {G : GH} {K : KV} {cs : List Addr}
theorem neg_ {i : Int} (k : K (.int (-i) 0) G) : negG (.int i 0) G K := k
noncomputable def CovAt (G : GH) (c : Addr) (ns : List Int) : Prop := ∃ t, G c = some (.inst a_Coverage [(20, .ref t)]) ∧ G t = some (.tup (ns.map vInt))
theorem CovAt.sub {G' : GH} {c : Addr} {ns} (x : CovAt G c ns) (h : Sub G G') : CovAt G' c ns := by refine o_EA x fun d h1 h2 => ?_; try clear x; exact (i_EA d (h _ _ h1) (h _ _ h2))
theorem pick_int {ns : List Int} {i : Nat} {x : Int} (h : ns[i]? = some x) : pickI (ns.map vInt) (i : Int) = some (.int x 0) := pick_nat (by simp [h, vInt])
theorem cov_index_ (F : Facts W) {c : Addr} {ns : List Int} {g : Int} (h : CovAt G c ns) (hs : ns.Pairwise (· ≤ ·)) (k : ∀ r : Int, (0 ≤ r ↔ g ∈ ns) → K (.int r 0) G) : CallC W (n + 1) (.ref a_Coverage_index) [.ref c, .int g 0] G K := by
  refine o_EA h fun t h1 h2 => ?_; try clear h
  have hle : ∀ (i j : Nat) (x y : Int), i ≤ j → ns[i]? = some x → ns[j]? = some y → x ≤ y := fun i j x y hij hx hy => by
    rcases Nat.lt_or_eq_of_le hij with hlt | rfl
    · obtain ⟨hi, rfl⟩ := List.getElem?_eq_some_iff.mp hx
      obtain ⟨hj, rfl⟩ := List.getElem?_eq_some_iff.mp hy
      exact List.pairwise_iff_getElem.mp hs i j hi hj hlt
    · wide_line with hx using hy; exact Int.le_refl _
  refine fnC F F.f_Coverage_index rfl rfl fun cd => ?_
  dsimp only [sp_Coverage_index, b_Coverage_index]
  walk_at "open_"
  refine attr_ h1 F.c_Coverage rfl rfl rfl ?_
  refine ⟨trivial, len_tup_ok h2 ?_⟩
  refine ⟨fun k m G' => G' = G ∧ ∃ (low high : Nat) (mid : Option Value), m = [some (.ref c), some (.int g 0), some (.int (low : Int) 0), some (.int (high : Int) 0), mid] ∧ k = high - low ∧ low ≤ high ∧ high ≤ ns.length ∧
    (∀ (j : Nat) (x : Int), j < low → ns[j]? = some x → x < g) ∧ (∀ (j : Nat) (x : Int), high ≤ j → ns[j]? = some x → g ≤ x), ns.length, (i_AEEEAAAAA rfl 0 ns.length none (by simp) rfl (Nat.zero_le _) (Nat.le_refl _) (fun j x hj => absurd hj (Nat.not_lt_zero _)) (fun j x hj hx => ?_)), ?_⟩
  · wide_line with List.getElem?_eq_none hj using hx
  · intro k m G' hx9; refine o_AEEEAAAAA hx9 fun e91 low high mid e95 e96 hlh hhn hlo hhi => ?_; try clear hx9; subst e91; subst e95; subst e96
    walk_at "open_"
    refine cmpI_ok rfl ?_
    by_cases hlt : low < high
    · wide_open with decide_eq_true (by lia)
      walk_at "open_"
      refine add_ok ?_
      refine div_ok (by decide) (PyProof.noPylong_small (by decide)) ?_
      have hm : ((low : Int) + high).fdiv 2 = (((low + high) / 2 : Nat) : Int) := by
        wide_open with Int.fdiv_eq_ediv_of_nonneg _ (by decide); lia
      wide_open with hm
      walk_at "open_"
      refine attr_ h1 F.c_Coverage rfl rfl rfl ?_
      obtain ⟨y, hy⟩ : ∃ y, ns[(low + high) / 2]? = some y := ⟨_, List.getElem?_eq_getElem (by lia)⟩
      refine sub_tup h2 (pick_int hy) ?_
      refine cmp_if (p := y < g) rfl (fun hyg => ?_) (fun hyg => ?_)
      · walk_at "open_"
        refine add_ok ?_
        refine (i_EAAEEEAAAAA (high - ((low + high) / 2 + 1)) (mid2 (by lia)) rfl ((low + high) / 2 + 1) high _ (by push_cast; rfl) rfl (by lia) hhn (fun j x hj hx => ?_) hhi)
        exact Int.lt_of_le_of_lt (hle j _ x y (by lia) hx hy) hyg
      · refine (i_EAAEEEAAAAA ((low + high) / 2 - low) (mid1 (by lia)) rfl low ((low + high) / 2) _ rfl rfl (by lia) (by lia) hlo (fun j x hj hx => ?_))
        exact Int.le_trans (Int.not_lt.mp hyg) (hle _ j y x hj hy hx)
    · wide_open with decide_eq_false (by lia)
      have he : high = low := by lia
      subst he
      refine attr_ h1 F.c_Coverage rfl rfl rfl ?_
      refine ⟨trivial, len_tup_ok h2 ?_⟩
      refine cmpI_ok rfl ?_
      have notin : (∀ y, ns[high]? = some y → y ≠ g) → g ∉ ns := fun hne hm => by
        obtain ⟨j, hj⟩ := List.mem_iff_getElem?.mp hm
        rcases Nat.lt_trichotomy j high with z | rfl | z
        · exact absurd (hlo j g z hj) (Int.lt_irrefl _)
        · exact hne g hj rfl
        · cases hy : ns[high]? with
          | none =>
            have := List.getElem?_eq_none_iff.mp hy
            wide_line with List.getElem?_eq_none (by lia) using hj
          | some y =>
            have h1 := hle high j y g (by lia) hy hj
            have h2 := hhi high y (Nat.le_refl _) hy
            exact hne y hy (Int.le_antisymm h1 h2)
      by_cases hin : high < ns.length
      · wide_open with decide_eq_true (by simp; lia)
        obtain ⟨y, hy⟩ : ∃ y, ns[high]? = some y := ⟨_, List.getElem?_eq_getElem hin⟩
        walk_at "open_"
        refine attr_ h1 F.c_Coverage rfl rfl rfl ?_
        refine sub_tup h2 (pick_int hy) ?_
        refine cmp_if (p := y = g) rfl (fun hyg => ?_) (fun hyg => ?_)
        · exact ret_same (k _ ⟨fun z9 => hyg ▸ List.mem_of_getElem? hy, fun z9 => Int.natCast_nonneg _⟩)
        · walk_at "open_"
          refine neg_ ?_
          exact ret_same (k _ ⟨fun h => absurd h (by decide), fun h => absurd h (notin fun z hz => by wide_line with hy using hz; exact hyg)⟩)
      · wide_open with decide_eq_false (by simp; lia)
        walk_at "open_"
        refine neg_ ?_
        exact ret_same (k _ ⟨fun h => absurd h (by decide), fun h => absurd h (notin fun z hz => by wide_line with List.getElem?_eq_none (by lia) using hz)⟩)
theorem cov_has_ (F : Facts W) {c : Addr} {ns : List Int} {g : Int} (h : CovAt G c ns) (hs : ns.Pairwise (· ≤ ·)) (k : K (.bool (decide (g ∈ ns))) G) : CallC W (n + 2) (.ref a_Coverage_has) [.ref c, .int g 0] G K := by
  have h' := h
  refine o_EA h' fun t h1 h2 => ?_; try clear h'
  refine fnC F F.f_Coverage_has rfl rfl fun cd => ?_
  dsimp only [sp_Coverage_has, b_Coverage_has]
  walk_at "open_"
  refine (i_EAA _ (meth_ h1 F.c_Coverage rfl rfl) (keep_fn F.k_Coverage_index) ((cov_index_ F h hs fun r hr => ?_).T))
  refine cmpI_ok rfl ?_
  refine ret_same ?_
  wide_open with (show decide (0 ≤ r) = decide (g ∈ ns) from by simp [hr])
  exact k
noncomputable def TestAt (G : GH) (t : Addr) (f : Int → Bool) : Prop :=
  (∃ x : Int, G t = some (.tup [.str "glyph" 0, .int x 0]) ∧ f = fun g => decide (x = g)) ∨
  (∃ (c : Addr) (es : List (Int × Int)) (x : Int), G t = some (.tup [.str "class" 0, .ref c, .int x 0]) ∧ ClsAt G c es ∧ f = fun g => decide (getI es g = x)) ∨
  (∃ (c : Addr) (ns : List Int), G t = some (.tup [.str "cover" 0, .ref c]) ∧ CovAt G c ns ∧ ns.Pairwise (· ≤ ·) ∧ f = fun g => decide (g ∈ ns))
theorem TestAt.sub {G' : GH} {t f} (x : TestAt G t f) (h : Sub G G') : TestAt G' t f := by
  rcases x with ⟨x, h1, h2⟩ | ⟨c, es, x, h1, h2, h3⟩ | ⟨c, ns, h1, h2, h3, h4⟩
  · exact .inl (i_EA x (h _ _ h1) h2)
  · exact .inr (.inl (i_EEEAA c es x (h _ _ h1) (h2.sub h) h3))
  · exact .inr (.inr (i_EEAAA c ns (h _ _ h1) (h2.sub h) h3 h4))
theorem fits_ (F : Facts W) {t : Addr} {f : Int → Bool} {g : Int} (h : TestAt G t f) (k : K (.bool (f g)) G) : CallC W (n + 3) (.ref a_fits) [.ref t, .int g 0] G K := by
  have e1 : ((Str.ofString "glyph" : Str) == Str.ofString "glyph") = true := by decide +kernel
  have e2 : ((Str.ofString "class" : Str) == Str.ofString "glyph") = false := by decide +kernel
  have e3 : ((Str.ofString "class" : Str) == Str.ofString "class") = true := by decide +kernel
  have e4 : ((Str.ofString "cover" : Str) == Str.ofString "glyph") = false := by decide +kernel
  have e5 : ((Str.ofString "cover" : Str) == Str.ofString "class") = false := by decide +kernel
  refine fnC F F.f_fits rfl rfl fun cd => ?_
  dsimp only [sp_fits, b_fits]
  walk_at "open_"
  rcases h with ⟨x, h1, rfl⟩ | ⟨c, es, x, h1, h2, rfl⟩ | ⟨c, ns, h1, h2, h3, rfl⟩
  · refine sub_tup h1 rfl ?_
    refine eq_str_ok ?_
    wide_open with e1
    walk_at "open_"
    refine sub_tup h1 rfl ?_
    refine cmpI_ok rfl ?_
    exact ret_same k
  · refine sub_tup h1 rfl ?_
    refine eq_str_ok ?_
    wide_open with e2
    walk_at "open_"
    refine sub_tup h1 rfl ?_
    refine eq_str_ok ?_
    wide_open with e3
    walk_at "open_"
    refine sub_tup h1 rfl ?_
    have h2' := h2
    refine o_EEA h2' fun d ep h3 h4 => ?_; try clear h2'
    refine (i_EAA _ (meth_ h3 F.c_ClassDef rfl rfl) (keep_fn F.k_ClassDef_class_of) ((class_of_ F h2 ?_).T))
    refine sub_tup h1 rfl ?_
    refine cmpI_ok rfl ?_
    exact ret_same k
  · refine sub_tup h1 rfl ?_
    refine eq_str_ok ?_
    wide_open with e4
    walk_at "open_"
    refine sub_tup h1 rfl ?_
    refine eq_str_ok ?_
    wide_open with e5
    walk_at "open_"
    refine sub_tup h1 rfl ?_
    have h2' := h2
    refine o_EA h2' fun d h4 h5 => ?_; try clear h2'
    refine (i_EAA _ (meth_ h4 F.c_Coverage rfl rfl) (keep_fn F.k_Coverage_has) ((cov_has_ F h2 h3 ?_).T))
    exact ret_same k
end
section
open PySem PySem.W PySem.Calls PyProof.Rows
variable {W : Wd} {n : Nat} {G : GH} {K : KV} {cs : List Addr}
noncomputable def judge (V : View) (f : Int → Bool) (kinds : List Str) (inp : Bool) (d : Inf) : Option Bool :=
  if ignoredM V.es V.fl d.glyph then none else if f d.glyph && (Builtin.bitAnd d.mask V.mask != 0 || !inp) then some true else if kinds.any (· == d.kind) then none else some false
noncomputable def seek (V : View) (f : Int → Bool) (kinds : List Str) (inp : Bool) (step : Int) : Nat → Int → Int
  | 0, _ => -1
  | k + 1, here => if 0 ≤ here ∧ here < V.as.length then (match V.as[here.toNat]? with
    | some a => (match judge V f kinds inp (V.I a) with
      | none => seek V f kinds inp step k (here + step)
      | some true => here
      | some false => -1)
    | none => -1) else -1
theorem found_at_ (F : Facts W) {s t kd : Addr} {V : View} {f : Int → Bool} {kinds : List Str} {inp : Bool} {at_ step : Int} {N : Nat} (h : SceneAt G s V) (ht : TestAt G t f) (hk : BStrs W kd kinds) (hst : step = 1 ∨ step = -1)
    (hN : (step = 1 → (V.as.length : Int) - at_ ≤ N) ∧ (step = -1 → at_ + 1 ≤ N)) (k : K (.int (seek V f kinds inp step N (at_ + step)) 0) G) :
    CallC W (n + 5) (.ref a_found_at) [.ref s, .int at_ 0, .int step 0, .ref t, .ref kd, .bool inp] G K := by
  obtain ⟨b, gd, ls, l, dp, st, kn, ms, h1, h2, h3, h4, h5⟩ := id h
  refine o_EA h2.ex fun r r1 r2 => ?_
  refine fnC F F.f_found_at rfl rfl fun cd => ?_
  dsimp only [sp_found_at, b_found_at]
  walk_at "open_"
  refine add_ok ?_
  refine ⟨fun k m G' => G' = G ∧ ∃ (here : Int) (inf : Option Value), m = [some (.ref s), some (.int at_ 0), some (.int step 0), some (.ref t), some (.ref kd), some (.bool inp), some (.int here 0), inf] ∧
    ((step = 1 → (V.as.length : Int) - here + 1 ≤ k) ∧ (step = -1 → here + 2 ≤ k)) ∧ seek V f kinds inp step k here = seek V f kinds inp step N (at_ + step), N, (i_AEEAA rfl (at_ + step) none rfl ?_ rfl), ?_⟩
  · constructor <;> intro e <;> subst e
    · have := hN.1 rfl; lia
    · have := hN.2 rfl; lia
  · intro k' m G' hx9; refine o_AEEAA hx9 fun e91 here inf e94 hfu hse => ?_; try clear hx9; subst e91; subst e94
    walk_at "open_"
    refine cmp_if (p := 0 ≤ here) rfl (fun a1 => ?_) (fun a1 => ?_)
    · refine attr_ h1 F.c_Scene rfl rfl rfl ?_
      refine attr_ r1 F.c_Buffer rfl rfl rfl ?_
      refine ⟨trivial, len_list_ok r2 ?_⟩
      have hl : (refs V.as).length = V.as.length := by simp [refs]
      refine cmp_if (p := here < V.as.length) (by wide_open with hl; rfl) (fun a2 => ?_) (fun a2 => ?_)
      · obtain ⟨i, rfl⟩ := Int.eq_ofNat_of_zero_le a1
        have hi : i < V.as.length := by simpa using a2
        obtain ⟨a, ha⟩ : ∃ a, V.as[i]? = some a := ⟨_, List.getElem?_eq_getElem hi⟩
        have hk0 : 0 < k' := by
          rcases hst with rfl | rfl
          · have := hfu.1 rfl; lia
          · have := hfu.2 rfl; lia
        obtain ⟨q, rfl⟩ : ∃ q, k' = q + 1 := ⟨k' - 1, by lia⟩
        have hs1 : seek V f kinds inp step (q + 1) (i : Int) = (match judge V f kinds inp (V.I a) with
          | none => seek V f kinds inp step q ((i : Int) + step)
          | some true => (i : Int)
          | some false => -1) := by
          rw [seek, if_pos ⟨Int.natCast_nonneg _, by simpa using a2⟩, Int.toNat_natCast, ha]
        rw [hs1] at hse
        have next : (step = 1 → (V.as.length : Int) - ((i : Int) + step) + 1 ≤ (q : Int)) ∧ (step = -1 → (i : Int) + step + 2 ≤ (q : Int)) := by
          constructor <;> intro e <;> subst e
          · have := hfu.1 rfl; push_cast at this; lia
          · have := hfu.2 rfl; push_cast at this; lia
        have hia := h2.info a (List.mem_of_getElem? ha)
        refine ⟨keep_fn F.k_passes, (passes_ F h ha ?_).T⟩
        dsimp only [truthG_b]
        unfold judge at hse
        cases c1 : ignoredM V.es V.fl (V.I a).glyph
        · rw [c1] at hse
          simp only [Bool.not_false, Bool.false_eq_true, if_false] at hse ⊢
          walk_at "open_"
          refine attr_ h1 F.c_Scene rfl rfl rfl ?_
          refine attr_ r1 F.c_Buffer rfl rfl rfl ?_
          refine sub_list r2 (pick_ref ha) ?_
          refine attr_ hia F.c_Info rfl rfl rfl ?_
          refine ⟨keep_fn F.k_fits, (fits_ F ht ?_).T⟩
          have tail : ∀ (c : Bool), c = (f (V.I a).glyph && (Builtin.bitAnd (V.I a).mask V.mask != 0 || !inp)) →
              (match c with | true => K (.int (i : Int) 0) G' | false => True) := by
            intro c hc
            cases c with
            | true => rw [← hc] at hse; simp only [if_true] at hse; rw [← hse] at k; exact k
            | false => trivial
          have stop : ∀ (c : Bool), c = (f (V.I a).glyph && (Builtin.bitAnd (V.I a).mask V.mask != 0 || !inp)) → c = false →
              attrG W (.ref a) 9 G' fun x G1 => cmpG W (n + 4) .NotIn x (.ref kd) G1 fun x G1 => match x with
                | true => negG (.int 1 0) G1 fun x G1 => bodyK K (.ret x) [some (.ref s), some (.int at_ 0), some (.int step 0), some (.ref t), some (.ref kd), some (.bool inp), some (.int (i : Int) 0), some (.ref a)] G1
                | false => binG W (n + 4) .Add (.int (i : Int) 0) (.int step 0) G1 fun x G1 => ∃ j, j < q + 1 ∧ G1 = G' ∧ ∃ (here : Int) (inf : Option Value),
                  [some (.ref s), some (.int at_ 0), some (.int step 0), some (.ref t), some (.ref kd), some (.bool inp), some x, some (.ref a)] = [some (.ref s), some (.int at_ 0), some (.int step 0), some (.ref t), some (.ref kd), some (.bool inp), some (.int here 0), inf] ∧
                  ((step = 1 → (V.as.length : Int) - here + 1 ≤ j) ∧ (step = -1 → here + 2 ≤ j)) ∧ seek V f kinds inp step j here = seek V f kinds inp step N (at_ + step) := by
            intro c hc hf
            subst hf
            rw [← hc] at hse
            simp only [Bool.false_eq_true, if_false] at hse
            refine attr_ hia F.c_Info rfl rfl rfl ?_
            refine notin_base_ok hk ?_
            cases c2 : kinds.any (· == (V.I a).kind)
            · rw [c2] at hse
              simp only [Bool.false_eq_true, if_false] at hse
              refine neg_ ?_
              refine ret_same ?_
              wide_open with hse; exact k
            · rw [c2] at hse
              simp only [if_true] at hse
              refine add_ok ?_
              exact (i_EAAEEAA q (Nat.lt_succ_self _) rfl _ _ rfl next hse)
          cases c3 : f (V.I a).glyph
          · exact stop _ rfl (by wide_open with c3; rfl)
          · refine ⟨keep_fn F.k_is_borne, (is_borne_ F h hia ?_).T⟩
            dsimp only [truthG_b]
            cases c4 : (Builtin.bitAnd (V.I a).mask V.mask != 0)
            · cases inp with
              | true => exact stop _ rfl (by (wide_line using c3; wide_open with c4); rfl)
              | false => exact ret_same (tail true (by (wide_line using c3; wide_open with c4); rfl))
            · exact ret_same (tail true (by (wide_line using c3; wide_open with c4); rfl))
        · rw [c1] at hse
          simp only [Bool.not_true, if_true] at hse ⊢
          walk_at "open_"
          refine add_ok ?_
          exact (i_EAAEEAA q (Nat.lt_succ_self _) rfl _ _ rfl next hse)
      · walk_at "open_"
        refine neg_ (ret_same ?_)
        have : seek V f kinds inp step k' here = -1 := by
          cases k' with
          | zero => rfl
          | succ q => rw [seek, if_neg (fun x => a2 x.2)]
        rw [this] at hse
        wide_open with hse; exact k
    · walk_at "open_"
      refine neg_ (ret_same ?_)
      have : seek V f kinds inp step k' here = -1 := by
        cases k' with
        | zero => rfl
        | succ q => rw [seek, if_neg (fun x => a1 x.1)]
      rw [this] at hse
      wide_open with hse; exact k
end
section
open PySem PySem.W PySem.Calls PyProof.Rows
variable {W : Wd} {n : Nat} {G : GH} {K : KV} {cs : List Addr}
theorem iter_list {a : Addr} {xs : List Value} {K : List Value → (GH → Prop) → Prop} (h : G a = some (.list xs)) (k : K xs fun G' => G' a = some (.list xs)) : iterG (.ref a) G K := by
  unfold iterG; dsimp only; wide_open with h; exact k
theorem iter_tup {a : Addr} {xs : List Value} {K : List Value → (GH → Prop) → Prop} (h : G a = some (.tup xs)) (k : K xs fun G' => G' a = some (.tup xs)) : iterG (.ref a) G K := by
  unfold iterG; dsimp only; wide_open with h; exact k
theorem iter_range {a : Addr} {m : Nat} {K : List Value → (GH → Prop) → Prop} (h : G a = some (.range 0 m)) (hm : m ≤ 4000000) (k : K ((List.range m).map fun (j : Nat) => Value.int (j : Int) 0) fun z9 => True) : iterG (.ref a) G K := by
  unfold iterG; dsimp only; wide_open with h
  refine (i_AAA (by decide) (by lia) ⟨by decide, by lia⟩ ?_)
  have e : ((m : Int) - 0).toNat = m := by lia
  wide_open with e
  simpa using k
theorem for_inv {chk : GH → Prop} {bd : Value → Mm → GH → (Fl → Mm → GH → Prop) → Prop} {K : Fl → Mm → GH → Prop} (I : List Value → Mm → GH → Prop) (hc : ∀ ys m G, I ys m G → chk G) (hend : ∀ m G, I [] m G → K .next m G)
    (hstep : ∀ y ys m G, ∀ Kn : Fl → Mm → GH → Prop, (∀ m' G', I ys m' G' → Kn .next m' G') → (∀ m' G', I ys m' G' → Kn .cont m' G') → (∀ v m' G', K (.ret v) m' G' → Kn (.ret v) m' G') → I (y :: ys) m G → bd y m G Kn) :
    ∀ (xs : List Value) (m : Mm) (G : GH), I xs m G → forG chk bd xs m G K
  | [], m, G, h => ⟨hc _ _ _ h, hend _ _ h⟩
  | x :: xs, m, G, h => ⟨hc _ _ _ h, hstep x xs m G _ (fun m' G' h' => for_inv I hc hend hstep xs m' G' h') (fun m' G' h' => for_inv I hc hend hstep xs m' G' h') (fun z9 z9 z9 k => k) h⟩
theorem comp_map {chk : GH → Prop} {el : Value → GH → (Option Value → GH → Prop) → Prop} (f : Value → Value) (hc : chk G) : ∀ (xs acc : List Value), (∀ x ∈ xs, ∀ k : Option Value → GH → Prop, k (some (f x)) G → el x G k) →
    newG (.list (acc ++ xs.map f)) G K → compG chk el xs acc G K
  | [], acc, _, k => ⟨hc, by simpa using k⟩
  | x :: xs, acc, he, k => ⟨hc, he x List.mem_cons_self _ (comp_map f hc xs (acc ++ [f x]) (fun y hy => he y (List.mem_cons_of_mem _ hy)) (by simpa using k))⟩
inductive All2 {α β : Type} (R : α → β → Prop) : List α → List β → Prop
  | nil : All2 R [] []
  | cons {a b as bs} : R a b → All2 R as bs → All2 R (a :: as) (b :: bs)
theorem All2.nil_inv {α β : Type} {R : α → β → Prop} {bs : List β} (h : All2 R [] bs) : bs = [] := by cases h; rfl
theorem All2.cons_inv {α β : Type} {R : α → β → Prop} {a : α} {as : List α} {bs : List β} (h : All2 R (a :: as) bs) : ∃ b cs, bs = b :: cs ∧ R a b ∧ All2 R as cs := by cases h with | cons h t => exact (i_EEAA _ _ rfl h t)
theorem All2.imp {α β : Type} {R S : α → β → Prop} (h : ∀ a b, R a b → S a b) {as bs} (x : All2 R as bs) : All2 S as bs := by
  induction x with
  | nil => exact .nil
  | cons a _ ih => exact .cons (h _ _ a) ih
noncomputable def TestsAt (G : GH) (l : Addr) (fs : List (Int → Bool)) : Prop := ∃ ts : List Addr, G l = some (.list (refs ts)) ∧ All2 (TestAt G) ts fs ∧ ts.length ≤ 1000
theorem TestsAt.sub {G' : GH} {t f} (x : TestsAt G t f) (h : Sub G G') : TestsAt G' t f := by refine o_EAA x fun ts h1 h2 h3 => ?_; try clear x; exact (i_EAA ts (h _ _ h1) (h2.imp fun z9 z9 a => a.sub h) h3)
noncomputable def srch (V : View) (kinds : List Str) (inp : Bool) (step : Int) (f : Int → Bool) (a : Int) : Int := seek V f kinds inp step (V.as.length + 1) (a + step)
noncomputable def walkM (S : (Int → Bool) → Int → Int) : List (Int → Bool) → Int → Option Int
  | [], a => some a
  | f :: fs, a => if S f a < 0 then none else walkM S fs (S f a)
noncomputable def placesM (S : (Int → Bool) → Int → Int) : List (Int → Bool) → Int → Option (List Int)
  | [], _ => some []
  | f :: fs, a => if S f a < 0 then none else (placesM S fs (S f a)).map (S f a :: ·)
theorem seek_lt {V : View} {f kinds inp step} : ∀ {k : Nat} {here : Int}, 0 ≤ seek V f kinds inp step k here → seek V f kinds inp step k here < V.as.length
  | 0, here, h => by simp [seek] at h
  | k + 1, here, h => by
    unfold seek at h ⊢
    by_cases hh : 0 ≤ here ∧ here < V.as.length
    · rw [if_pos hh] at h ⊢
      cases hq : V.as[here.toNat]? with
      | none => simp only [hq] at h; exact absurd h (by decide)
      | some a =>
        simp only [hq] at h ⊢
        cases hj : judge V f kinds inp (V.I a) with
        | none => simp only [hj] at h ⊢; exact seek_lt h
        | some b =>
          cases b with
          | true => simp only [hj] at h ⊢; exact hh.2
          | false => simp only [hj] at h; exact absurd h (by decide)
    · rw [if_neg hh] at h; exact absurd h (by decide)
theorem srch_lt {V : View} {kinds inp step f a} (h : ¬ srch V kinds inp step f a < 0) : 0 ≤ srch V kinds inp step f a ∧ srch V kinds inp step f a < V.as.length := ⟨Int.not_lt.mp h, seek_lt (Int.not_lt.mp h)⟩
theorem found_ (F : Facts W) {s t kd : Addr} {V : View} {f : Int → Bool} {kinds : List Str} {inp : Bool} {at_ step : Int} (h : SceneAt G s V) (ht : TestAt G t f) (hk : BStrs W kd kinds) (hst : step = 1 ∨ step = -1) (h0 : 0 ≤ at_) (h1 : at_ < V.as.length)
    (k : K (.int (srch V kinds inp step f at_) 0) G) : CallC W (n + 5) (.ref a_found_at) [.ref s, .int at_ 0, .int step 0, .ref t, .ref kd, .bool inp] G K :=
  found_at_ F h ht hk hst (N := V.as.length + 1) ⟨fun z9 => by push_cast; lia, fun z9 => by push_cast; lia⟩ k
set_option tactic.hygienic true in
theorem last_at_ (F : Facts W) {s l : Addr} {V : View} {fs : List (Int → Bool)} {at_ step : Int} (h : SceneAt G s V) (ht : TestsAt G l fs) (hst : step = 1 ∨ step = -1) (h0 : 0 ≤ at_) (h1 : at_ < V.as.length)
    (k : K (.int ((walkM (srch V ["zwj", "zwnj", "hidden"] false step) fs at_).getD (-1)) 0) G) : CallC W (n + 6) (.ref a_last_at) [.ref s, .int at_ 0, .int step 0, .ref l] G K := by
  refine o_EAA ht fun ts ht1 ht2 ht3 => ?_; try clear ht
  refine fnC F F.f_last_at rfl rfl fun cd => ?_
  dsimp only [sp_last_at, b_last_at]
  walk_at "open_"
  refine iter_list ht1 ?_
  refine for_inv (fun ys m G' => G' = G ∧ ∃ (us : List Addr) (gs : List (Int → Bool)) (here : Int) (x : Option Value), ys = refs us ∧ All2 (TestAt G) us gs ∧ m = [some (.ref s), some (.int at_ 0), some (.int step 0), some (.ref l), some (.int here 0), x] ∧ 0 ≤ here ∧ here < V.as.length ∧
      K (.int ((walkM (srch V ["zwj", "zwnj", "hidden"] false step) gs here).getD (-1)) 0) G) ?_ ?_ ?_ _ _ _ (i_AEEEEAAAAA rfl ts fs at_ none rfl ht2 rfl h0 h1 k)
  · intro ys m G' hx9; obtain ⟨rfl, _⟩ := hx9; exact ht1
  · intro m G' hx9; refine o_AEEEEAAAAA hx9 fun e91 us gs here x e hf e98 g0 g1 kk => ?_; try clear hx9; subst e91; subst e98
    obtain rfl : us = [] := by simpa [refs] using e.symm
    cases hf
    walk_at "open_"
    exact ret_same kk
  · intro y ys m G' Kn nxt nxc nxr hx9; refine o_AEEEEAAAAA hx9 fun e91 us gs here x e hf e98 g0 g1 kk => ?_; try clear hx9; subst e91; subst e98
    cases hf with
    | nil => simp [refs] at e
    | cons hu hf' =>
      rename_i u g us gs
      simp only [refs, List.map_cons, List.cons.injEq] at e
      obtain ⟨rfl, rfl⟩ := e
      walk_at "open_"
      refine ⟨keep_fn F.k_found_at, (found_ F h hu F.kar hst g0 g1 ?_).T⟩
      refine cmp_if (p := srch V ["zwj", "zwnj", "hidden"] false step g here < 0) rfl (fun hn => ?_) (fun hn => ?_)
      · walk_at "open_"
        refine neg_ (nxr _ _ _ (ret_same ?_))
        rw [walkM, if_pos hn] at kk
        exact kk
      · walk_at "open_"
        rw [walkM, if_neg hn] at kk
        exact nxt _ _ (i_AEEEEAAAAA rfl us gs _ _ rfl hf' rfl ((srch_lt hn).1) ((srch_lt hn).2) kk)
theorem ahead_at_ (F : Facts W) {s l : Addr} {V : View} {fs : List (Int → Bool)} {at_ : Int} (h : SceneAt G s V) (ht : TestsAt G l fs) (h0 : 0 ≤ at_) (h1 : at_ < V.as.length)
    (k : K (.int ((walkM (srch V ["zwj", "zwnj", "hidden"] false 1) fs at_).getD (-1)) 0) G) : CallC W (n + 7) (.ref a_ahead_at) [.ref s, .int at_ 0, .ref l] G K := by
  refine fnC F F.f_ahead_at rfl rfl fun cd => ?_
  dsimp only [sp_ahead_at, b_ahead_at]
  walk_at "open_"
  exact ⟨keep_fn F.k_last_at, (last_at_ F h ht (.inl rfl) h0 h1 (ret_same k)).T⟩
theorem back_at_ (F : Facts W) {s l : Addr} {V : View} {fs : List (Int → Bool)} {at_ : Int} (h : SceneAt G s V) (ht : TestsAt G l fs) (h0 : 0 ≤ at_) (h1 : at_ < V.as.length)
    (k : K (.int ((walkM (srch V ["zwj", "zwnj", "hidden"] false (-1)) fs at_).getD (-1)) 0) G) : CallC W (n + 7) (.ref a_back_at) [.ref s, .int at_ 0, .ref l] G K := by
  refine fnC F F.f_back_at rfl rfl fun cd => ?_
  dsimp only [sp_back_at, b_back_at]
  walk_at "open_"
  refine neg_ ?_
  exact ⟨keep_fn F.k_last_at, (last_at_ F h ht (.inr rfl) h0 h1 (ret_same k)).T⟩
theorem sub_set_new {G' : GH} {a : Addr} {o : GO} (h : Sub G G') (ha : G a = none) : Sub G (G'.set a o) := fun b g e => by
  wide_open with GH.set_ne; exact h b g e
  rintro rfl; wide_line with ha using e
theorem sub_of_set {G' : GH} {a : Addr} {o : GO} (h : Sub G G') (ha : G' a = some o) : Sub (G.set a o) G' := fun b g e => by
  by_cases hb : b = a
  · subst hb; wide_line with GH.set_self using e; exact ha
  · rw [GH.set_ne _ _ hb] at e; exact h b g e
theorem none_of_sub {G' : GH} {a : Addr} (h : Sub G G') (ha : G' a = none) : G a = none := by
  cases q : G a with
  | none => rfl
  | some g => wide_line with h _ _ q using ha
set_option tactic.hygienic true in
theorem input_at_ (F : Facts W) {s l a : Addr} {V : View} {f : Int → Bool} {fs : List (Int → Bool)} {i : Nat} (h : SceneAt G s V) (ht : TestsAt G l (f :: fs)) (hi : V.as[i]? = some a)
    (kn : (f (V.I a).glyph = true → placesM (srch V ["zwj", "hidden"] true 1) fs i = none) → K .none G)
    (ks : ∀ ps, f (V.I a).glyph = true → placesM (srch V ["zwj", "hidden"] true 1) fs i = some ps → newG (.list (((i : Int) :: ps).map vInt)) G K) : CallC W (n + 6) (.ref a_input_at) [.ref s, .int i 0, .ref l] G K := by
  refine o_EAA ht fun ts ht1 ht2 ht3 => ?_; try clear ht
  obtain ⟨b, gd, ls, lk, dp, st, kn', ms, h1, h2, h3, h4, h5⟩ := id h
  refine o_EA h2.ex fun r r1 r2 => ?_
  have hil : i < V.as.length := (List.getElem?_eq_some_iff.mp hi).1
  cases ht2 with
  | cons hu hf =>
    rename_i t ts
    refine fnC F F.f_input_at rfl rfl fun cd => ?_
    dsimp only [sp_input_at, b_input_at]
    walk_at "open_"
    refine sub_list ht1 rfl ?_
    refine attr_ h1 F.c_Scene rfl rfl rfl ?_
    refine attr_ r1 F.c_Buffer rfl rfl rfl ?_
    refine sub_list r2 (pick_ref hi) ?_
    refine attr_ (h2.info a (List.mem_of_getElem? hi)) F.c_Info rfl rfl rfl ?_
    refine ⟨keep_fn F.k_fits, (fits_ F hu ?_).T⟩
    dsimp only [truthG_b]
    cases hfa : f (V.I a).glyph
    · exact ret_same (kn fun x => by wide_line with hfa using x)
    · intro fa hfa0
      have hs1 := sub_set (o := .list [.int i 0]) hfa0
      walk_at "open_"
      refine slice_list_ok (lo := some 1) (hi := none) (hs1 _ _ ht1) rfl rfl ?_
      intro sl hsl0
      have hs2 := sub_set (o := .list (cut (refs (t :: ts)) (some 1) none)) hsl0
      have hS := hs1.trans hs2
      have hcut : cut (refs (t :: ts)) (some 1) none = refs ts := by simp only [cut, refs, Option.getD_none, Option.getD_some, List.take_length]; rfl
      rw [hcut] at hS hs2 ⊢
      have hslfa : fa ≠ sl := by rintro rfl; wide_line with GH.set_self using hsl0
      have hsl : G sl = none := none_of_sub hs1 hsl0
      refine iter_list (GH.set_self _ _ _) ?_
      refine for_inv (fun ys m G' => Sub G G' ∧ G' sl = some (.list (refs ts)) ∧ ∃ (us : List Addr) (gs : List (Int → Bool)) (acc : List Int) (q : Int) (x y : Option Value), ys = refs us ∧ All2 (TestAt G) us gs ∧ G' fa = some (.list ((acc ++ [q]).map vInt)) ∧
          m = [some (.ref s), some (.int i 0), some (.ref l), some (.ref fa), x, y] ∧ 0 ≤ q ∧ q < V.as.length ∧ acc.length + us.length ≤ ts.length ∧
          (∀ r : Option (List Int), placesM (srch V ["zwj", "hidden"] true 1) gs q = r → placesM (srch V ["zwj", "hidden"] true 1) fs i = r.map ((acc ++ [q]).drop 1 ++ ·)) ∧ (acc ++ [q]).head? = some (i : Int)) ?_ ?_ ?_ _ _ _
          (i_AAEEEEEEAAAAAAAA hS (GH.set_self _ _ _) ts fs ([]) i none none rfl hf (by (wide_line using GH.set_ne _ _ hslfa; wide_open with GH.set_self); rfl) rfl (Int.natCast_nonneg _) (by lia) (by simp) (fun r hr => by wide_open with hr; cases r <;> simp) rfl)
      · intro ys m G' hx9; refine o_AA hx9 fun z9 e z9 => ?_; try clear hx9; exact e
      · intro m G' hx9; refine o_AAEEEEEEAAAAAAAA hx9 fun g0 g1 us gs acc q x y e hf' g2 e912 q0 q1 ql hr hh => ?_; try clear hx9; subst e912
        obtain rfl : us = [] := by simpa [refs] using e.symm
        cases hf'
        walk_at "open_"
        refine (i_EA (G.set fa (.list ((acc ++ [q]).map vInt))) (sub_of_set g0 g2) ?_)
        have := hr (some []) rfl
        simp only [Option.map_some, List.append_nil] at this
        have kk := ks _ hfa this fa hfa0
        have e2 : ((i : Int) :: (acc ++ [q]).drop 1) = acc ++ [q] := by
          cases hq : acc ++ [q] with
          | nil => simp at hq
          | cons z zs => rw [hq] at hh; simp at hh; subst hh; rfl
        rw [e2] at kk
        exact kk
      · intro y ys m G' Kn nxt nxc nxr hx9; refine o_AAEEEEEEAAAAAAAA hx9 fun g0 g1 us gs acc q x z e hf' g2 e912 q0 q1 ql hr hh => ?_; try clear hx9; subst e912
        cases hf' with
        | nil => simp [refs] at e
        | cons hu' hf'' =>
          rename_i u g us gs
          simp only [refs, List.map_cons, List.cons.injEq] at e
          obtain ⟨rfl, rfl⟩ := e
          walk_at "open_"
          refine neg_ ?_
          refine sub_list g2 (by rw [List.map_append]; exact pick_last) ?_
          refine ⟨keep_fn F.k_found_at, (found_ F (h.sub g0) (hu'.sub g0) F.kin (.inl rfl) q0 q1 ?_).T⟩
          refine cmp_if (p := srch V ["zwj", "hidden"] true 1 g q < 0) rfl (fun hn => ?_) (fun hn => ?_)
          · walk_at "open_"
            refine nxr _ _ _ (ret_pure g0 (kn fun z9 => ?_))
            have := hr none (by (wide_line using placesM; wide_open with if_pos hn))
            simpa using this
          · walk_at "open_"
            refine (i_EAA _ (meth_append F g2) trivial (append_ok g2 ?_ ?_))
            · simp only [List.length_cons] at ht3 ql; simp [small]; (first | exact lqA (by lia) (by lia) | exact lqB (by lia) | exact lqD (by lia) | lia)
            · refine nxt _ _ (i_AAEEEEEEAAAAAAAA (sub_set_new g0 hfa0) (by wide_open with GH.set_ne _ _ hslfa.symm; exact g1) us gs (acc ++ [q]) _ _ _ rfl hf'' (by wide_open with GH.set_self; simp [vInt]) rfl ((srch_lt hn).1) ((srch_lt hn).2) (by simp at ql ⊢; lia) (fun r hr' => ?_) ?_)
              · have := hr ((placesM (srch V ["zwj", "hidden"] true 1) gs (srch V ["zwj", "hidden"] true 1 g q)).map (srch V ["zwj", "hidden"] true 1 g q :: ·)) (by (wide_line using placesM; wide_open with if_neg hn))
                (wide_line using this; wide_open with hr')
                cases r with
                | none => rfl
                | some r => simp only [Option.map_some]; cases acc <;> simp
              · cases acc <;> simpa using hh
end
section
open PySem PySem.W PySem.Calls PyProof.Rows
variable {W : Wd} {n : Nat} {G : GH} {K : KV} {cs : List Addr}
noncomputable abbrev kIn : List Str := ["zwj", "hidden"]
noncomputable abbrev kAr : List Str := ["zwj", "zwnj", "hidden"]
noncomputable def matchM (V : View) (i : Nat) (a : Addr) (bs : List (Int → Bool)) (f : Int → Bool) (fs as : List (Int → Bool)) : Option (List Int × Int × Int) :=
  if f (V.I a).glyph then (placesM (srch V kIn true 1) fs i).bind fun ps => (walkM (srch V kAr false (-1)) bs i).bind fun b => (walkM (srch V kAr false 1) as (((i : Int) :: ps).getLast (by simp))).map fun e => ((i : Int) :: ps, b, e)
  else none
set_option tactic.hygienic true in
theorem walk_range {S : (Int → Bool) → Int → Int} {N : Int} (hS : ∀ f a, ¬ S f a < 0 → 0 ≤ S f a ∧ S f a < N) : ∀ {fs : List (Int → Bool)} {a b : Int}, 0 ≤ a ∧ a < N → walkM S fs a = some b → 0 ≤ b ∧ b < N
  | [], a, b, h, e => by wide_open using e; exact h
  | f :: fs, a, b, h, e => by
    unfold walkM at e
    split at e
    · wide_open using e
    · rename_i hn; exact walk_range hS (hS f a hn) e
set_option tactic.hygienic true in
theorem places_range {S : (Int → Bool) → Int → Int} {N : Int} (hS : ∀ f a, ¬ S f a < 0 → 0 ≤ S f a ∧ S f a < N) : ∀ {fs : List (Int → Bool)} {a : Int} {ps : List Int}, placesM S fs a = some ps → ∀ p ∈ ps, 0 ≤ p ∧ p < N
  | [], a, ps, e => by wide_open using e; intro p hp; cases hp
  | f :: fs, a, ps, e => by
    unfold placesM at e
    split at e
    · wide_open using e
    · rename_i hn
      refine o_EA (Option.map_eq_some_iff.mp e) fun qs h1 e93 => ?_; subst e93
      intro p hp
      rcases List.mem_cons.mp hp with rfl | hp
      · exact hS f a hn
      · exact places_range hS h1 p hp
theorem lastI {q : Int} {qs : List Int} {h : q :: qs ≠ []} : pickI ((q :: qs).map vInt) (-1) = some (.int ((q :: qs).getLast h) 0) := by
  have e : (q :: qs).map vInt = (q :: qs).dropLast.map vInt ++ [vInt ((q :: qs).getLast h)] := by
    ((first | refine (List.map_singleton (f := vInt)) ▸ ?_ | rewrite [← List.map_singleton (f := vInt)]); (first | refine List.map_append ▸ ?_ | rewrite [← List.map_append]); wide_open with List.dropLast_concat_getLast h)
  wide_open with e; exact pick_last
set_option tactic.hygienic true in
theorem match_rule_ (F : Facts W) {s tu bl il al a : Addr} {acts : Value} {V : View} {bs fs as : List (Int → Bool)} {f : Int → Bool} {i : Nat} (h : SceneAt G s V) (hi : V.as[i]? = some a)
    (hT : G tu = some (.tup [.ref bl, .ref il, .ref al, acts])) (hb : TestsAt G bl bs) (hin : TestsAt G il (f :: fs)) (ha : TestsAt G al as)
    (kn : matchM V i a bs f fs as = none → K .none G)
    (ks : ∀ ps b e, matchM V i a bs f fs as = some (ps, b, e) → ∀ pl tp G', Sub G G' → G pl = none → G tp = none → pl ≠ tp → G' pl = some (.list (ps.map vInt)) → G' tp = some (.tup [.ref pl, .int b 0, .int e 0]) → K (.ref tp) G') :
    CallC W (n + 8) (.ref a_match_rule) [.ref s, .int i 0, .ref tu] G K := by
  have hil : i < V.as.length := (List.getElem?_eq_some_iff.mp hi).1
  have rS := fun kinds inp step f a (hn : ¬ srch V kinds inp step f a < 0) => srch_lt hn
  refine fnC F F.f_match_rule rfl rfl fun cd => ?_
  dsimp only [sp_match_rule, b_match_rule]
  walk_at "open_"
  refine (i_EAA _ (by unfold itemsG; dsimp only; rw [hT]) rfl ?_)
  dsimp only [sPs_cons, sPs_nil]
  walk_at "open_"
  refine ⟨keep_fn F.k_input_at, (input_at_ F h hin hi (fun hno => ?_) (fun ps hf hps => ?_)).T⟩
  · refine is_none_ok rfl ?_
    refine ret_same (kn ?_)
    unfold matchM
    split
    · rename_i hh; wide_open with hno hh; rfl
    · rfl
  · intro pl hpl
    refine is_none_ok rfl ?_
    have s1 := sub_set (o := .list (((i : Int) :: ps).map vInt)) hpl
    simp only [isN]
    refine ⟨keep_fn F.k_back_at, (back_at_ F (h.sub s1) (hb.sub s1) (Int.natCast_nonneg _) (by lia) ?_).T⟩
    refine cmpI_ok rfl ?_
    cases hw : walkM (srch V kAr false (-1)) bs i with
    | none =>
      walk_at "open_"
      simp only [Option.getD_none]
      wide_open with decide_eq_true (by decide)
      walk_at "open_"
      refine ret_pure s1 (kn ?_)
      unfold matchM
      (wide_line using if_pos hf; wide_line using hps; wide_open with hw); rfl
    | some b =>
      have hb0 := walk_range (rS _ _ _) ⟨Int.natCast_nonneg i, by lia⟩ hw
      walk_at "open_"
      simp only [Option.getD_some]
      wide_open with decide_eq_false (by lia)
      walk_at "open_"
      refine neg_ ?_
      refine sub_list (GH.set_self _ _ _) (lastI (h := by simp)) ?_
      have hl : 0 ≤ ((i : Int) :: ps).getLast (by simp) ∧ ((i : Int) :: ps).getLast (by simp) < V.as.length := by
        have hm := List.getLast_mem (l := (i : Int) :: ps) (by simp)
        rcases List.mem_cons.mp hm with e | hm
        · wide_open with e; lia
        · exact places_range (rS _ _ _) hps _ hm
      refine ⟨keep_fn F.k_ahead_at, (ahead_at_ F (h.sub s1) (ha.sub s1) hl.1 hl.2 ?_).T⟩
      refine cmpI_ok rfl ?_
      cases hw2 : walkM (srch V kAr false 1) as (((i : Int) :: ps).getLast (by simp)) with
      | none =>
        simp only [Option.getD_none]
        wide_open with decide_eq_true (by decide)
        walk_at "open_"
        refine ret_pure s1 (kn ?_)
        unfold matchM
        (wide_line using if_pos hf; wide_line using hps; wide_line using hw; wide_line using Option.bind_some; wide_line using Option.bind_some; wide_open with hw2); rfl
      | some e =>
        have he0 := walk_range (rS _ _ _) hl hw2
        simp only [Option.getD_some]
        wide_open with decide_eq_false (by lia)
        intro tp htp
        refine ret_same (ks _ b e ?_ pl tp _ (s1.trans (sub_set htp)) hpl (none_of_sub s1 htp) ?_ (set_old htp (GH.set_self _ _ _)) (GH.set_self _ _ _))
        · unfold matchM
          (wide_line using if_pos hf; wide_line using hps; wide_line using hw; wide_line using Option.bind_some; wide_line using Option.bind_some; wide_open with hw2); rfl
        · rintro rfl; wide_line with GH.set_self using htp
noncomputable def hangI (st : List Addr) (M : Int) (I : Addr → Inf) (a : Addr) : Inf := if a ∈ st ∧ (I a).cluster ≠ M then { I a with uns := true } else I a
noncomputable def hangH (st : List Addr) (M : Int) (I : Addr → Inf) (G : GH) : GH := fun a => if a ∈ st then some (infoO (hangI st M I a)) else G a
noncomputable def cutA (as : List Addr) (b e : Nat) : List Addr := (as.take e).drop b
set_option tactic.hygienic true in
theorem hang_ (F : Facts W) {bf : Addr} {as : List Addr} {I : Addr → Inf} {b e : Nat} (h : RowAt G bf as I)
    (k1 : (cutA as b e).length < 2 → K .none G) (k2 : ∀ M, 2 ≤ (cutA as b e).length → (∃ a ∈ cutA as b e, (I a).cluster = M) → (∀ a ∈ cutA as b e, M ≤ (I a).cluster) → K .none (hangH (cutA as b e) M I G))
    (hz : as.length ≤ 1000) : CallC W (n + 1) (.ref a_hang) [.ref bf, .int b 0, .int e 0] G K := by
  refine o_EA h.ex fun r r1 r2 => ?_
  refine fnC F F.f_hang rfl rfl fun cd => ?_
  dsimp only [sp_hang, b_hang]
  walk_at "open_"
  refine attr_ r1 F.c_Buffer rfl rfl rfl ?_
  refine slice_list_ok (lo := some b) (hi := some e) r2 rfl rfl ?_
  have hc : cut (refs as) (some b) (some e) = refs (cutA as b e) := by simp [cut, cutA, refs, List.map_drop, List.map_take]
  wide_open with hc
  intro sl hsl
  have s1 := sub_set (o := .list (refs (cutA as b e))) hsl
  have hmem : ∀ a ∈ cutA as b e, a ∈ as := fun a ha => List.mem_of_mem_take (List.mem_of_mem_drop ha)
  have hz' : (cutA as b e).length ≤ 1000 := by unfold cutA; (wide_line using List.length_drop; wide_open with List.length_take); lia
  refine ⟨trivial, len_list_ok (GH.set_self _ _ _) ?_⟩
  refine cmpI_ok rfl ?_
  have hl : (refs (cutA as b e)).length = (cutA as b e).length := by simp [refs]
  wide_open with hl
  by_cases h2 : (cutA as b e).length < 2
  · wide_open with decide_eq_true (by lia)
    walk_at "open_"
    exact ret_pure s1 (k1 h2)
  · wide_open with decide_eq_false (by lia)
    walk_at "open_"
    refine iter_list (GH.set_self _ _ _) ⟨by simp [small, refs]; lia, ?_⟩
    refine comp_map (fun v => match v with | .ref a => vInt (I a).cluster | v => v) (GH.set_self _ _ _) _ [] (fun x hx k => ?_) ?_
    · refine o_EA (List.mem_map.mp hx) fun a ha e93 => ?_; subst e93
      intro kk
      refine attr_ (s1 _ _ (h.info a (hmem a ha))) F.c_Info rfl rfl rfl ?_
      exact kk
    · intro ml hml
      have s2 := sub_set (o := .list ([] ++ (refs (cutA as b e)).map fun v => match v with | .ref a => vInt (I a).cluster | v => v)) hml
      have e2 : ([] ++ (refs (cutA as b e)).map fun v => match v with | .ref a => vInt (I a).cluster | v => v) = ((cutA as b e).map fun a => (I a).cluster).map vInt := by simp [refs]
      refine ⟨trivial, min_list_ok (ns := (cutA as b e).map fun a => (I a).cluster) (by (wide_line using GH.set_self; wide_open with e2)) (by simp; lia) fun M hM hle => ?_⟩
      refine o_EA (List.mem_map.mp hM) fun a0 ha0 hM => ?_
      have s12 := s1.trans s2
      have hmlsl : ml ≠ sl := by rintro rfl; wide_line with GH.set_self using hml
      have hmlG : G ml = none := none_of_sub s1 hml
      walk_at "open_"
      refine iter_list (s2 _ _ (GH.set_self _ _ _)) ?_
      have kk := k2 M (by lia) (i_EA a0 ha0 hM) fun a ha => hle _ (List.mem_map.mpr (i_EA a ha rfl))
      generalize hst : cutA as b e = st at *
      have slst : sl ∉ st := fun hm => by have := h.info sl (hmem sl hm); wide_line with hsl using this
      have mlst : ml ∉ st := fun hm => by have := h.info ml (hmem ml hm); wide_line with hmlG using this
      refine for_inv (fun ys m G' => ∃ (dn us : List Addr) (x : Option Value), ys = refs us ∧ st = dn ++ us ∧ m = [some (.ref bf), some (.int b 0), some (.int e 0), some (.ref sl), x, some (.int M 0)] ∧ G' sl = some (.list (refs st)) ∧
        (∀ a, a ∉ st → ∀ g, G a = some g → G' a = some g) ∧ (∀ a ∈ st, G' a = some (infoO (hangI dn M I a)))) ?_ ?_ ?_ _ _ _ (i_EEEAAAAA ([]) st none rfl rfl rfl (s2 _ _ (GH.set_self _ _ _)) (fun a z9 g hg => s12 a g hg) (fun a ha => ?_))
      · intro ys m G' hx9; refine o_EEEAAAA hx9 fun dn us x z9 z9 z9 hg z9 => ?_; try clear hx9; exact hg
      · intro m G' hx9; refine o_EEEAAAAA hx9 fun dn us x e e95 e96 hg g1 g2 => ?_; try clear hx9; subst e95; subst e96
        obtain rfl : us = [] := by simpa [refs] using e.symm
        walk_at "open_"
        refine (i_EA (hangH (dn ++ []) M I G) (fun a g hg' => ?_) kk)
        unfold hangH at hg'
        split at hg'
        · rename_i hm
          rw [List.append_nil] at *
          wide_open using hg'
          exact g2 a hm
        · rename_i hm; exact g1 a hm g hg'
      · intro y ys m G' Kn nxt nxc nxr hx9; refine o_EEEAAAAA hx9 fun dn us x e he e96 hg g1 g2 => ?_; try clear hx9; subst e96
        cases us with
        | nil => simp [refs] at e
        | cons u us =>
          simp only [refs, List.map_cons, List.cons.injEq] at e
          obtain ⟨rfl, rfl⟩ := e
          have hu : u ∈ st := by wide_open with he; simp
          have hud := g2 u hu
          have hcl : (hangI dn M I u).cluster = (I u).cluster := by unfold hangI; split <;> rfl
          walk_at "open_"
          refine attr_ hud F.c_Info rfl rfl rfl ?_
          refine cmpI_ok rfl ?_
          wide_open with hcl
          have nxt' : ∀ G2 x, G2 sl = some (.list (refs st)) → (∀ a, a ∉ st → ∀ g, G a = some g → G2 a = some g) → (∀ a ∈ st, G2 a = some (infoO (hangI (dn ++ [u]) M I a))) → Kn .next [some (.ref bf), some (.int b 0), some (.int e 0), some (.ref sl), x, some (.int M 0)] G2 :=
            fun G2 x q1 q2 q3 => nxt _ _ (i_EEEAAAAA (dn ++ [u]) us x rfl (by wide_open with he; simp) rfl q1 q2 q3)
          have hsame : ∀ a, a ≠ u ∨ (I u).cluster = M → hangI (dn ++ [u]) M I a = hangI dn M I a := fun a ha => by
            unfold hangI
            by_cases hau : a = u
            · subst hau
              rcases ha with ha | ha
              · exact absurd rfl ha
              · rw [if_neg (fun x => x.2 ha), if_neg (fun x => x.2 ha)]
            · have : a ∈ dn ++ [u] ↔ a ∈ dn := by simp [hau]
              simp only [this]
          by_cases hcm : (I u).cluster = M
          · wide_open with decide_eq_true hcm
            exact nxt' _ _ hg g1 fun a ha => by wide_open with hsame a (.inr hcm); exact g2 a ha
          · wide_open with decide_eq_false hcm
            refine seta_ hud F.c_Info rfl (by simp) ?_
            have ho : (GO.inst a_Info (setF [(0, .int (hangI dn M I u).code 0), (1, .int (hangI dn M I u).glyph 0), (2, .int (hangI dn M I u).cluster 0), (3, .int (hangI dn M I u).mask 0), (4, .bool (hangI dn M I u).uns), (5, .int 0 0), (6, .int 0 0), (7, .int 0 0), (8, .int 0 0), (9, .str (hangI dn M I u).kind 0),
              (10, .int 0 0), (11, .int 0 0), (12, .int 0 0), (13, .int 0 0), (14, .int 0 0), (15, .str "" 0)] 4 (.bool true))) = infoO (hangI (dn ++ [u]) M I u) := by
              have : hangI (dn ++ [u]) M I u = { hangI dn M I u with uns := true } := by
                unfold hangI
                rw [if_pos ⟨by simp, hcm⟩]
                split <;> rfl
              rw [this]
              rfl
            wide_open with ho
            refine nxt' _ _ ?_ (fun a ha g hg' => ?_) (fun a ha => ?_)
            · wide_open with GH.set_ne _ _ (by rintro rfl; exact slst hu); exact hg
            · wide_open with GH.set_ne _ _ (by rintro rfl; exact ha hu); exact g1 a ha g hg'
            · by_cases hau : a = u
              · subst hau; wide_open with GH.set_self
              · (wide_line using GH.set_ne _ _ hau; wide_open with hsame a (.inl hau)); exact g2 a ha
      · have : hangI [] M I a = I a := by unfold hangI; wide_open with if_neg (fun x => absurd x.1 (by simp))
        rw [this]
        exact s12 _ _ (h.info a (hmem a ha))
end
section
open PySem PySem.W PySem.Calls PyProof.Rows
variable {W : Wd} {n : Nat} {G : GH} {K : KV} {cs : List Addr}
theorem comp_inv {chk : GH → Prop} {el : Value → GH → (Option Value → GH → Prop) → Prop} (I : List Value → List Value → GH → Prop) (hc : ∀ xs acc G, I xs acc G → chk G) (hend : ∀ acc G, I [] acc G → newG (.list acc) G K)
    (hstep : ∀ x xs acc G, ∀ Kc : Option Value → GH → Prop, (∀ o G', I xs (acc ++ Option.toList o) G' → Kc o G') → I (x :: xs) acc G → el x G Kc) :
    ∀ (xs acc : List Value) (G : GH), I xs acc G → compG chk el xs acc G K
  | [], acc, G, h => ⟨hc _ _ _ h, hend _ _ h⟩
  | x :: xs, acc, G, h => ⟨hc _ _ _ h, hstep x xs acc G _ (fun o G' h' => comp_inv I hc hend hstep xs _ G' h') h⟩
theorem sub_setCs : ∀ {cs : List Addr} {vs : Mm}, cs.Nodup → (∀ c ∈ cs, G c = none) → Sub G (setCs G cs vs)
  | [], _, _, _ => fun z9 z9 h => h
  | c :: cs, [], _, _ => fun z9 z9 h => h
  | c :: cs, v :: vs, hn, h => by
    have ih := sub_setCs (vs := vs) (List.nodup_cons.mp hn).2 fun d hd => h d (List.mem_cons_of_mem _ hd)
    exact sub_set_new ih (h c List.mem_cons_self)
theorem two_cells {cs : List Addr} (h : cs.length = 2) (hn : cs.Nodup) : ∃ c d, cs = [c, d] ∧ c ≠ d := by
  match cs, h with
  | [c, d], _ => exact (i_EEA c d rfl (by simpa using hn))
theorem one_cell {cs : List Addr} (h : cs.length = 1) : ∃ c, cs = [c] := by
  match cs, h with
  | [c], _ => exact ⟨c, rfl⟩
theorem len2 {α : Type} {l : List α} (h : l.length = 2) : ∃ a b, l = [a, b] := by
  refine o_EE (List.exists_cons_of_length_eq_add_one h) fun a t e93 => ?_; subst e93
  refine o_EE (List.exists_cons_of_length_eq_add_one (Nat.succ.inj h)) fun b t e93 => ?_; subst e93
  exact (i_EE a b (by wide_open with List.eq_nil_of_length_eq_zero (Nat.succ.inj (Nat.succ.inj h))))
theorem len3 {α : Type} {l : List α} (h : l.length = 3) : ∃ a b c, l = [a, b, c] := by
  refine o_EE (List.exists_cons_of_length_eq_add_one h) fun a t e93 => ?_; subst e93
  refine o_EE (len2 (Nat.succ.inj h)) fun b c e93 => ?_; subst e93
  exact (i_EEE a b c rfl)
noncomputable def CovF (G : GH) (c : Addr) (f : Int → Bool) : Prop := ∃ ns, CovAt G c ns ∧ ns.Pairwise (· ≤ ·) ∧ f = fun g => decide (g ∈ ns)
theorem CovF.sub {G' : GH} {c f} (x : CovF G c f) (h : Sub G G') : CovF G' c f := by refine o_EA x fun ns h1 r => ?_; try clear x; exact (i_EA ns (h1.sub h) r)
noncomputable def CovRow (G : GH) (row : Addr) (fs : List (Int → Bool)) : Prop := ∃ us, G row = some (.tup (refs us)) ∧ All2 (CovF G) us fs ∧ us.length ≤ 1000
theorem CovRow.sub {G' : GH} {c f} (x : CovRow G c f) (h : Sub G G') : CovRow G' c f := by refine o_EAA x fun ns h1 h2 h3 => ?_; try clear x; exact (i_EAA ns (h _ _ h1) (h2.imp fun z9 z9 a => a.sub h) h3)
theorem All2.snoc {α β : Type} {R : α → β → Prop} {as : List α} {bs : List β} {a b} (h : All2 R as bs) (x : R a b) : All2 R (as ++ [a]) (bs ++ [b]) := by
  induction h with
  | nil => exact .cons x .nil
  | cons y _ ih => exact .cons y ih
theorem All2.length {α β : Type} {R : α → β → Prop} {as : List α} {bs : List β} (h : All2 R as bs) : as.length = bs.length := by
  induction h with
  | nil => rfl
  | cons _ _ ih => simp [ih]
theorem refs_length (as : List Addr) : (refs as).length = as.length := by simp [refs]
set_option tactic.hygienic true in
theorem tests_cover_ (F : Facts W) {row : Addr} {cd : Value} {fs : List (Int → Bool)} (h : CovRow G row fs) (k : ∀ l G', Sub G G' → G l = none → TestsAt G' l fs → K (.ref l) G') :
    CallC W (n + 1) (.ref a_tests_of) [.ref row, .str "cover" 0, cd] G K := by
  refine o_EAA h fun us h1 h2 h3 => ?_; try clear h
  have e5 : ((Str.ofString "cover" : Str) == Str.ofString "class") = false := by decide +kernel
  refine fnCc F F.f_tests_of rfl (by simp [sp_tests_of]) fun cd' cs hl hn hf => ?_
  refine o_EEA (two_cells hl hn) fun c0 c1 e93 hc => ?_; subst e93
  dsimp only [sp_tests_of, b_tests_of]
  have hs := sub_setCs (vs := srcM [some 1, some 2] [.ref row, .str "cover" 0, cd]) hn hf
  walk_at "open_"
  refine opt_ok (by rw [setCs_cons, GH.set_self]) ?_
  walk_at "open_"
  refine eq_str_ok ?_
  wide_open with e5
  walk_at "open_"
  refine iter_tup (hs _ _ h1) ⟨by simp [small, refs]; lia, ?_⟩
  have hcell : (setCs G [c0, c1] [some (Value.str "cover" 0), some cd]) c0 = some (.cell (some (.str "cover" 0))) := by (wide_line using setCs_cons; wide_open with GH.set_self)
  refine comp_inv (fun xs acc G' => Sub (setCs G [c0, c1] [some (Value.str "cover" 0), some cd]) G' ∧ ∃ (ws : List Addr) (gs : List (Int → Bool)) (ts : List Addr) (fd : List (Int → Bool)), xs = refs ws ∧ acc = refs ts ∧ All2 (CovF G) ws gs ∧ fs = fd ++ gs ∧ All2 (TestAt G') ts fd) ?_ ?_ ?_ _ _ _
    (i_AEEEEAAAA (fun z9 z9 e => e) us fs ([]) ([]) rfl rfl h2 rfl .nil)
  · intro xs acc G' hx9; obtain ⟨hS, _⟩ := hx9; exact hS _ _ (hs _ _ h1)
  · intro acc G' hx9; refine o_AEEEEAAAA hx9 fun hS ws gs ts fd e e97 hw e99 ht => ?_; try clear hx9; subst e97; subst e99
    obtain rfl : ws = [] := by simpa [refs] using e.symm
    cases hw
    intro l hl0
    have s1 := sub_set (o := .list (refs ts)) hl0
    have hSl := (hs.trans hS)
    refine ret_same (k l _ (hSl.trans s1) (none_of_sub hSl hl0) (i_EAA ts (GH.set_self _ _ _) ?_ ?_))
    · wide_open with List.append_nil; exact ht.imp fun z9 z9 a => a.sub s1
    · have h4 := ht.length
      have h5 := h2.length
      simp at h5; lia
  · intro x xs acc G' Kc nxt hx9; refine o_AEEEEAAAA hx9 fun hS ws gs ts fd e e97 hw e99 ht => ?_; try clear hx9; subst e97; subst e99
    cases hw with
    | nil => simp [refs] at e
    | cons hu hw' =>
      rename_i u g ws gs
      simp only [refs, List.map_cons, List.cons.injEq] at e
      obtain ⟨rfl, rfl⟩ := e
      walk_at "open_"
      refine cell_ok (hS _ _ hcell) ?_
      intro t ht0
      have s1 := sub_set (o := .tup [.str "cover" 0, .ref u]) ht0
      refine nxt (some _) _ (i_AEEEEAAAA (hS.trans s1) ws gs (ts ++ [t]) (fd ++ [g]) rfl (by simp [refs]) hw' (by simp) ((ht.imp fun z9 z9 a => a.sub s1).snoc ?_))
      refine o_EAA hu fun ns q1 q2 e94 => ?_; try clear hu; subst e94
      exact .inr (.inr (i_EEAAA u ns (GH.set_self _ _ _) (q1.sub ((hs.trans hS).trans s1)) q2 rfl))
noncomputable def ruleO (b i a : Addr) (acts : Value) : GO := .inst a_Rule [(23, .ref b), (24, .ref i), (25, .ref a), (26, acts)]
noncomputable def ctxO (form : Int) (ch : Bool) (sets : Addr) (cov cls : Value) : GO := .inst a_Contexts [(27, .int form 0), (28, .bool ch), (29, .ref sets), (30, cov), (31, cls)]
theorem rules_ (F : Facts W) {tb sets rl ru : Addr} {form ep} {ch : Bool} {cv cl : Value} (ht : G tb = some (ctxO form ch sets cv cl)) (hs : G sets = some (.dict [(0, .ref rl)] ep)) (hr : G rl = some (.list [.ref ru]))
    (k : newG (.list [.ref ru]) G K) : CallC W (n + 1) (.ref a_Contexts_rules) [.ref tb] G K := by
  refine fnC F F.f_Contexts_rules rfl rfl fun cd => ?_
  dsimp only [sp_Contexts_rules, b_Contexts_rules]
  walk_at "open_"
  intro fo hfo
  have s1 := sub_set (o := .list []) hfo
  refine attr_ (s1 _ _ ht) F.c_Contexts rfl rfl rfl ?_
  refine ⟨trivial, sorted_dict_ok (s1 _ _ hs) (by simp) fun ns' hp hsor => ?_⟩
  obtain rfl : ns' = [0] := List.perm_singleton.mp hp
  intro sl hsl
  have s2 := sub_set (o := .list ([0].map vInt)) hsl
  have hne : fo ≠ sl := by rintro rfl; wide_line with GH.set_self using hsl
  have hgs := none_of_sub s1 hsl
  have s12 := s1.trans s2
  refine iter_list (GH.set_self _ _ _) ⟨GH.set_self _ _ _, ?_⟩
  walk_at "open_"
  refine attr_ (s12 _ _ ht) F.c_Contexts rfl rfl rfl ?_
  refine sub_dict (s12 _ _ hs) rfl ?_
  refine iter_list (s12 _ _ hr) ⟨s12 _ _ hr, ?_⟩
  walk_at "open_"
  have hfo2 : ((G.set fo (.list [])).set sl (.list ([0].map vInt))) fo = some (.list []) := by (wide_line using GH.set_ne _ _ hne; wide_open with GH.set_self)
  refine (i_EAA _ (meth_append F hfo2) trivial (append_ok hfo2 (by simp [small]) ?_))
  refine ⟨?_, ?_⟩
  · refine (?_ : (GH.set _ _ _) _ = _)
    wide_open with GH.set_ne
    · exact s12 _ _ hr
    · rintro rfl; wide_line with hr using hfo
  refine ⟨?_, ?_⟩
  · refine (?_ : (GH.set _ _ _) _ = _)
    wide_open with GH.set_ne _ _ hne.symm; exact GH.set_self _ _ _
  walk_at "open_"
  refine (i_EA (G.set fo (.list [.ref ru])) (sub_of_set (sub_set_new s12 hfo) (GH.set_self _ _ _)) (k fo hfo))
end
section
open PySem PySem.W PySem.Calls PyProof.Rows
variable {W : Wd} {n : Nat} {G : GH} {K : KV} {cs : List Addr}
theorem clsC (F : Facts W) {C : Addr} {sp : ClsSpec} {args : List Value} (hC : W.cls.lookup C = some sp)
    (w : ∀ a, G a = none → CallC W n (.ref sp.init) (.ref a :: args) (G.set a (.inst C [])) fun r G' => r = .none ∧ K (.ref a) G') : CallC W (n + 1) (.ref C) args G K := by
  refine o_EE F.O fun mg mb O => ?_
  exact callT_cls O hC w
theorem seta_new {a : Addr} {i : Nat} {C : Addr} {fs : List (Nat × Value)} {sp : ClsSpec} {v : Value} {K : GH → Prop} (hc : W.cls.lookup C = some sp) (hi : sp.attrs.contains i = true) (hl : Nat.ble fs.length 500 = true)
    (k : K (G.set a (.inst C (setF fs i v)))) : setaG W (.ref a) i v (G.set a (.inst C fs)) K := by
  refine seta_ (GH.set_self _ _ _) hc hi (Nat.le_of_ble_eq_true hl) ?_
  wide_open with GH.set_set; exact k
theorem init_end {a : Addr} {m : Mm} {K : KV} (k : K (.ref a) G) : bodyK (fun r G' => r = .none ∧ K (.ref a) G') .next m G := (i_EAA G (fun z9 z9 e => e) rfl k)
theorem seta_new' {a : Addr} {i : Nat} {C : Addr} {fs : List (Nat × Value)} (fs' : List (Nat × Value)) {sp : ClsSpec} {v : Value} {K : GH → Prop} (hc : W.cls.lookup C = some sp) (hi : sp.attrs.contains i = true) (hl : Nat.ble fs.length 500 = true)
    (he : setF fs i v = fs') (k : K (G.set a (.inst C fs'))) : setaG W (.ref a) i v (G.set a (.inst C fs)) K := by
  subst he; exact seta_new hc hi hl k
theorem new_Info (F : Facts W) {c g cl : Int} (k : newG (infoO ⟨c, g, cl, 0, false, ""⟩) G K) : CallC W (n + 2) (.ref a_Info) [.int c 0, .int g 0, .int cl 0] G K := by
  refine clsC F F.c_Info fun a ha => fnC F F.f_Info___init__ rfl rfl fun cd => ?_
  dsimp only [sp_Info___init__, b_Info___init__]
  walk_at "open_"
  refine seta_new' [(0, .int c 0)] F.c_Info rfl rfl rfl ?_
  refine seta_new' [(0, .int c 0), (1, .int g 0)] F.c_Info rfl rfl rfl ?_
  refine seta_new' [(0, .int c 0), (1, .int g 0), (2, .int cl 0)] F.c_Info rfl rfl rfl ?_
  refine seta_new' [(0, .int c 0), (1, .int g 0), (2, .int cl 0), (3, .int 0 0)] F.c_Info rfl rfl rfl ?_
  refine seta_new' [(0, .int c 0), (1, .int g 0), (2, .int cl 0), (3, .int 0 0), (4, .bool false)] F.c_Info rfl rfl rfl ?_
  refine seta_new' [(0, .int c 0), (1, .int g 0), (2, .int cl 0), (3, .int 0 0), (4, .bool false), (5, .int 0 0)] F.c_Info rfl rfl rfl ?_
  refine seta_new' [(0, .int c 0), (1, .int g 0), (2, .int cl 0), (3, .int 0 0), (4, .bool false), (5, .int 0 0), (6, .int 0 0)] F.c_Info rfl rfl rfl ?_
  refine seta_new' [(0, .int c 0), (1, .int g 0), (2, .int cl 0), (3, .int 0 0), (4, .bool false), (5, .int 0 0), (6, .int 0 0), (7, .int 0 0)] F.c_Info rfl rfl rfl ?_
  refine seta_new' [(0, .int c 0), (1, .int g 0), (2, .int cl 0), (3, .int 0 0), (4, .bool false), (5, .int 0 0), (6, .int 0 0), (7, .int 0 0), (8, .int 0 0)] F.c_Info rfl rfl rfl ?_
  refine seta_new' [(0, .int c 0), (1, .int g 0), (2, .int cl 0), (3, .int 0 0), (4, .bool false), (5, .int 0 0), (6, .int 0 0), (7, .int 0 0), (8, .int 0 0), (9, .str "" 0)] F.c_Info rfl rfl rfl ?_
  refine seta_new' [(0, .int c 0), (1, .int g 0), (2, .int cl 0), (3, .int 0 0), (4, .bool false), (5, .int 0 0), (6, .int 0 0), (7, .int 0 0), (8, .int 0 0), (9, .str "" 0), (10, .int 0 0)] F.c_Info rfl rfl rfl ?_
  refine seta_new' [(0, .int c 0), (1, .int g 0), (2, .int cl 0), (3, .int 0 0), (4, .bool false), (5, .int 0 0), (6, .int 0 0), (7, .int 0 0), (8, .int 0 0), (9, .str "" 0), (10, .int 0 0), (11, .int 0 0)] F.c_Info rfl rfl rfl ?_
  refine seta_new' [(0, .int c 0), (1, .int g 0), (2, .int cl 0), (3, .int 0 0), (4, .bool false), (5, .int 0 0), (6, .int 0 0), (7, .int 0 0), (8, .int 0 0), (9, .str "" 0), (10, .int 0 0), (11, .int 0 0), (12, .int 0 0)] F.c_Info rfl rfl rfl ?_
  refine seta_new' [(0, .int c 0), (1, .int g 0), (2, .int cl 0), (3, .int 0 0), (4, .bool false), (5, .int 0 0), (6, .int 0 0), (7, .int 0 0), (8, .int 0 0), (9, .str "" 0), (10, .int 0 0), (11, .int 0 0), (12, .int 0 0), (13, .int 0 0)] F.c_Info rfl rfl rfl ?_
  refine seta_new' [(0, .int c 0), (1, .int g 0), (2, .int cl 0), (3, .int 0 0), (4, .bool false), (5, .int 0 0), (6, .int 0 0), (7, .int 0 0), (8, .int 0 0), (9, .str "" 0), (10, .int 0 0), (11, .int 0 0), (12, .int 0 0), (13, .int 0 0), (14, .int 0 0)] F.c_Info rfl rfl rfl ?_
  refine seta_new' [(0, .int c 0), (1, .int g 0), (2, .int cl 0), (3, .int 0 0), (4, .bool false), (5, .int 0 0), (6, .int 0 0), (7, .int 0 0), (8, .int 0 0), (9, .str "" 0), (10, .int 0 0), (11, .int 0 0), (12, .int 0 0), (13, .int 0 0), (14, .int 0 0), (15, .str "" 0)] F.c_Info rfl rfl rfl ?_
  exact init_end (k a ha)
theorem new_Buffer (F : Facts W) {r : Addr} (k : newG (bufO r) G K) : CallC W (n + 2) (.ref a_Buffer) [.ref r] G K := by
  refine clsC F F.c_Buffer fun a ha => fnC F F.f_Buffer___init__ rfl rfl fun cd => ?_
  dsimp only [sp_Buffer___init__, b_Buffer___init__]
  walk_at "open_"
  iterate 4 refine seta_new F.c_Buffer rfl rfl ?_
  exact init_end (k a ha)
theorem new_Coverage (F : Facts W) {t : Addr} (k : newG (.inst a_Coverage [(20, .ref t)]) G K) : CallC W (n + 2) (.ref a_Coverage) [.ref t] G K := by
  refine clsC F F.c_Coverage fun a ha => fnC F F.f_Coverage___init__ rfl rfl fun cd => ?_
  dsimp only [sp_Coverage___init__, b_Coverage___init__]
  walk_at "open_"
  refine seta_new F.c_Coverage rfl rfl ?_
  exact init_end (k a ha)
theorem new_Rule (F : Facts W) {b i c : Addr} {v : Value} (k : newG (ruleO b i c v) G K) : CallC W (n + 2) (.ref a_Rule) [.ref b, .ref i, .ref c, v] G K := by
  refine clsC F F.c_Rule fun a ha => fnC F F.f_Rule___init__ rfl rfl fun cd => ?_
  dsimp only [sp_Rule___init__, b_Rule___init__]
  walk_at "open_"
  iterate 4 refine seta_new F.c_Rule rfl rfl ?_
  exact init_end (k a ha)
theorem new_Contexts (F : Facts W) {f : Int} {c : Bool} {s : Addr} (k : newG (ctxO f c s .none .none) G K) : CallC W (n + 2) (.ref a_Contexts) [.int f 0, .bool c, .ref s] G K := by
  refine clsC F F.c_Contexts fun a ha => fnC F F.f_Contexts___init__ rfl rfl fun cd => ?_
  dsimp only [sp_Contexts___init__, b_Contexts___init__]
  walk_at "open_"
  iterate 5 refine seta_new F.c_Contexts rfl rfl ?_
  exact init_end (k a ha)
noncomputable def lookO (kd : Str) (fl ms : Int) (tb : Value) : GO := .inst a_Lookup [(9, .str kd 0), (33, .int fl 0), (34, .int ms 0), (35, tb)]
theorem new_Lookup (F : Facts W) {kd : Str} {fl ms : Int} {tb : Value} (k : newG (lookO kd fl ms tb) G K) : CallC W (n + 2) (.ref a_Lookup) [.str kd 0, .int fl 0, .int ms 0, tb] G K := by
  refine clsC F F.c_Lookup fun a ha => fnC F F.f_Lookup___init__ rfl rfl fun cd => ?_
  dsimp only [sp_Lookup___init__, b_Lookup___init__]
  walk_at "open_"
  iterate 4 refine seta_new F.c_Lookup rfl rfl ?_
  exact init_end (k a ha)
theorem new_Places (F : Facts W) {r : Addr} {e : Int} (k : newG (.inst a_Places [(16, .ref r), (42, .int e 0)]) G K) : CallC W (n + 2) (.ref a_Places) [.ref r, .int e 0] G K := by
  refine clsC F F.c_Places fun a ha => fnC F F.f_Places___init__ rfl rfl fun cd => ?_
  dsimp only [sp_Places___init__, b_Places___init__]
  walk_at "open_"
  iterate 2 refine seta_new F.c_Places rfl rfl ?_
  exact init_end (k a ha)
theorem new_ClassDef (F : Facts W) {d : Addr} (k : newG (.inst a_ClassDef [(31, .ref d)]) G K) : CallC W (n + 2) (.ref a_ClassDef) [.ref d] G K := by
  refine clsC F F.c_ClassDef fun a ha => fnC F F.f_ClassDef___init__ rfl rfl fun cd => ?_
  dsimp only [sp_ClassDef___init__, b_ClassDef___init__]
  walk_at "open_"
  refine seta_new F.c_ClassDef rfl rfl ?_
  exact init_end (k a ha)
theorem set_swap {a b : Addr} {o o' p : GO} (h : a ≠ b) : (((G.set a o).set b p).set a o') = ((G.set a o').set b p) := by
  (wide_line using GH.set_comm (G.set a o) p o' h.symm; wide_open with GH.set_set)
theorem new_Gdef (F : Facts W) {c v1 v2 : Value} (k : ∀ a d1 d2 G', Sub G G' → G a = none → G' a = some (.inst a_Gdef [(31, c), (48, v1), (29, v2), (49, .ref d1), (50, .ref d2)]) → K (.ref a) G') : CallC W (n + 2) (.ref a_Gdef) [c, v1, v2] G K := by
  refine clsC F F.c_Gdef fun a ha => fnC F F.f_Gdef___init__ rfl rfl fun cd => ?_
  dsimp only [sp_Gdef___init__, b_Gdef___init__]
  walk_at "open_"
  iterate 3 refine seta_new F.c_Gdef rfl rfl ?_
  refine is_none_ok rfl ?_
  simp only [isN]
  intro ep1 d1 hd1
  have n1 : d1 ≠ a := by rintro rfl; wide_line with GH.set_self using hd1
  walk_at "open_"
  refine seta_ (by rw [GH.set_ne _ _ n1.symm, GH.set_self]) F.c_Gdef rfl (Nat.le_of_ble_eq_true rfl) ?_
  refine is_none_ok rfl ?_
  simp only [isN]
  wide_open with set_swap n1.symm
  intro ep2 d2 hd2
  have n2 : d2 ≠ a := by rintro rfl; rw [GH.set_ne _ _ n1.symm, GH.set_self] at hd2; wide_open using hd2
  refine seta_ (by rw [GH.set_ne _ _ n2.symm, GH.set_ne _ _ n1.symm, GH.set_self]) F.c_Gdef rfl (Nat.le_of_ble_eq_true rfl) ?_
  have hG1 : G d1 = none := by rwa [GH.set_ne _ _ n1] at hd1
  have hG2 : G d2 = none := by
    by_cases e : d2 = d1
    · wide_open with e; exact hG1
    · rwa [GH.set_ne _ _ e, GH.set_ne _ _ n2] at hd2
  refine init_end (k a d1 d2 _ ?_ ha (GH.set_self _ _ _))
  exact sub_set_new (sub_set_new (sub_set_new (sub_set ha) hG1) hG2) ha
theorem new_Scene (F : Facts W) {b gd ls l : Addr} {m d : Int} (k : ∀ a st, G a = none → G st = none → a ≠ st → K (.ref a) ((G.set a (sceneO b gd ls l m d st)).set st (.list [.int 0 0]))) :
    CallC W (n + 2) (.ref a_Scene) [.ref b, .ref gd, .ref ls, .ref l, .int m 0, .int d 0] G K := by
  refine clsC F F.c_Scene fun a ha => fnC F F.f_Scene_full rfl rfl fun cd => ?_
  dsimp only [sp_Scene___init__, b_Scene___init__]
  walk_at "open_"
  iterate 6 refine seta_new F.c_Scene rfl rfl ?_
  intro st hst
  have n1 : st ≠ a := by rintro rfl; wide_line with GH.set_self using hst
  refine seta_ (by rw [GH.set_ne _ _ n1.symm, GH.set_self]) F.c_Scene rfl (Nat.le_of_ble_eq_true rfl) ?_
  wide_open with set_swap n1.symm
  rw [GH.set_ne _ _ n1] at hst
  exact init_end (k a st ha hst n1.symm)
set_option tactic.hygienic true in
theorem coverage_of_ (F : Facts W) {l : Addr} {ns : List Int} (h : G l = some (.list (ns.map vInt))) (hz : ns.length < 64)
    (k : ∀ c ms G', Sub G G' → G c = none → CovAt G' c ms → ms.Pairwise (· ≤ ·) → (∀ x, x ∈ ms ↔ x ∈ ns) → K (.ref c) G') : CallC W (n + 3) (.ref a_coverage_of) [.ref l] G K := by
  refine fnC F F.f_coverage_of rfl rfl fun cd => ?_
  dsimp only [sp_coverage_of, b_coverage_of]
  walk_at "open_"
  intro ep d hd
  have s1 := sub_set (o := .dict ((([] : List Int).zip []).foldl (fun l p => put l p.1 p.2) []) ep) hd
  walk_at "open_"
  refine iter_list (s1 _ _ h) ?_
  refine for_inv (fun ys m G' => ∃ (dn us : List Int) (es : List (Int × Value)) (ep' : Nat) (x : Option Value), ys = us.map vInt ∧ ns = dn ++ us ∧ m = [some (.ref l), some (.ref d), x] ∧ Sub G G' ∧ G' d = some (.dict es ep') ∧ es.length ≤ dn.length ∧ (∀ y, y ∈ es.map (·.1) ↔ y ∈ dn)) ?_ ?_ ?_ _ _ _
    (i_EEEEEAAAAAA ([]) ns ([]) ep none rfl rfl rfl s1 (GH.set_self _ _ _) (Nat.le_refl _) (by simp))
  · intro ys m G' hx9; refine o_EEEEEAAAA hx9 fun dn us es ep' x z9 z9 z9 hS z9 => ?_; try clear hx9; exact hS _ _ h
  · intro m G' hx9; refine o_EEEEEAAAAAA hx9 fun dn us es ep' x e e97 e98 hS hd' hlen hmem => ?_; try clear hx9; subst e97; subst e98
    obtain rfl : us = [] := by simpa using e.symm
    walk_at "open_"
    refine ⟨trivial, sorted_dict_ok hd' (by simp at hz; lia) fun ms hp hs sl hsl => ?_⟩
    have s2 := sub_set (o := .list (ms.map vInt)) hsl
    refine ⟨trivial, tup_of_list_ok (GH.set_self _ _ _) ?_⟩
    intro t ht
    have s3 := sub_set (o := .tup (ms.map vInt)) ht
    refine ⟨keep_fn F.k_Coverage, (new_Coverage F ?_).T⟩
    intro c hc
    have s4 := sub_set (o := .inst a_Coverage [(20, .ref t)]) hc
    refine ret_same (k c ms _ (hS.trans (s2.trans (s3.trans s4))) (none_of_sub (hS.trans (s2.trans s3)) hc) (i_EA t (GH.set_self _ _ _) (s4 _ _ (GH.set_self _ _ _))) hs fun x => ?_)
    (wide_line using hp.mem_iff; wide_open with hmem); simp
  · intro y ys m G' Kn nxt nxc nxr hx9; refine o_EEEEEAAAAAA hx9 fun dn us es ep' x e he e98 hS hd' hlen hmem => ?_; try clear hx9; subst e98
    cases us with
    | nil => simp at e
    | cons u us =>
      simp only [List.map_cons, List.cons.injEq] at e
      obtain ⟨rfl, rfl⟩ := e
      walk_at "open_"
      unfold setiG vInt
      dsimp only
      wide_open with hd'
      refine ⟨by rw [he] at hz; simp at hz; simp [small]; (first | exact lqA (by lia) (by lia) | exact lqB (by lia) | exact lqD (by lia) | lia), fun ep'' => nxt _ _ (i_EEEEEAAAAAA (dn ++ [u]) us (put es u (.bool true)) ep'' _ rfl (by wide_open with he; simp) rfl (sub_set_new hS hd) (GH.set_self _ _ _) ?_ (fun y => ?_))⟩
      · unfold put; split <;> simp <;> lia
      · unfold put
        split
        · rename_i hany
          have hu : u ∈ dn := by
            refine o_EA (List.any_eq_true.mp hany) fun q hq hq2 => ?_
            ((first | refine hmem ▸ ?_ | rewrite [← hmem]); try with_reducible rfl)
            exact List.mem_map.mpr (i_EA q hq (by simpa using hq2))
          have e1 : (es.map fun kv => if kv.1 = u then (kv.1, Value.bool true) else kv).map (·.1) = es.map (·.1) := by
            wide_open with List.map_map; apply List.map_congr_left; intro q _; simp only [Function.comp]; split <;> rfl
          (wide_line using e1; wide_open with hmem)
          constructor
          · intro hy; exact List.mem_append_left _ hy
          · intro hy
            rcases List.mem_append.mp hy with hy | hy
            · exact hy
            · wide_open with List.mem_singleton.mp hy; exact hu
        · (wide_line using List.map_append; wide_line using List.mem_append; wide_open with hmem); simp
end
section
open PySem PySem.W PySem.Calls PyProof.Rows PySem.SeqAt
variable {W : Wd} {n : Nat} {G H : GH} {C : Bool → GH → Prop} {K : KV} {s : Shared}
theorem list_of_range_ok {a : Addr} {lo hi : Int} (h : G a = some (.range lo hi)) (hb : -4000000 ≤ lo ∧ lo ≤ 4000000 ∧ -4000000 ≤ hi ∧ hi ≤ 4000000)
    (k : newG (.list ((List.range (hi - lo).toNat).map fun (j : Nat) => Value.int (lo + (j : Int)) 0)) G K) : CallT W n (.type "list") [.ref a] G K := fun A fv vs hA hf hv H s z9 D R => by
  refine o_EA (vals1 hv) fun v e92 e1 => ?_; subst e92
  (wide_line using er_type hf; wide_open with er_ref e1)
  refine o_EEEE (R.at (GH.un_right h)) fun z9 t u v hr => ?_
  have hn : Builtin.Range.rangeSize lo hi 1 = ((hi - lo).toNat : Int) := by
    wide_open with rangeSize_one; split <;> lia
  refine call_list_range hA.1 hr (range_small hb.1 hb.2.2.2 ⟨hb.2.1, hb.2.2.1⟩) hn (by lia) fun h' tk acc c hk hg hacc => ?_
  have hq : acc.toList.map er = (List.range (hi - lo).toNat).map fun (j : Nat) => Value.int (lo + (j : Int)) 0 := by
    apply List.ext_getElem?
    intro i
    (wide_line using List.getElem?_map; wide_open with List.getElem?_map)
    by_cases hi : i < acc.toList.length
    · have hi2 : i < acc.size := by simpa using hi
      obtain ⟨t, ht⟩ := hacc.2 i _ (Array.getElem?_eq_getElem hi2)
      (wide_line using List.getElem?_eq_getElem hi; wide_open with List.getElem?_range (by have := hacc.1; lia))
      simp only [Option.map_some]
      (wide_line using (show acc.toList[i] = acc[i] from by simp); wide_open with ht)
      simp [er]
    · (wide_line using List.getElem?_eq_none (by lia); wide_open with List.getElem?_eq_none (by have := hacc.1; simp at hi ⊢; lia))
      rfl
  refine o_AA (Repr.newAt R (tk := tk) (dr := s.drawn) hk (g := .list ((List.range (hi - lo).toNat).map fun (j : Nat) => Value.int (lo + (j : Int)) 0)) (Nat.le_refl _) rfl fun d => own_list hg hq (by wide_open with hacc.1; unfold sizeLine; lia)) fun h1 h2 h3 => ?_
  exact (i_EAA _ (D.setG h1) h3 (k _ h2))
theorem slice_rev_ok {a : Addr} {xs : List Value} (h : G a = some (.list xs)) (k : newG (.list xs.reverse) G K) : sliceG W n (.ref a) .none .none (.int (-1) 0) G K :=
  fun A vo vl vu vs sl value slice hA ho el eu es hop H s hs D R => by
  obtain ⟨ops, hop⟩ := hop
  rw [er_ref ho] at hop ⊢
  refine o_EAA (R.list (GH.un_right h)) fun us hll he hz => ?_
  have hss : s.heap.IsSliceOf sl vl vu vs := (i_EAA _ (R.hid D hs) rfl rfl)
  refine tail_any hll.isList.typeIs slot_list_getitem.lookup ?_ hop
  refine wpAny_getItem_list_slice hll.isList hss (lo := none) (hi := none) (st := some (-1)) (by wide_open with er_none el; exact .none) (by wide_open with er_none eu; exact .none) (by obtain ⟨t, rfl⟩ := er_int es; exact .int _ _) (by simp) ?_ hz
  refine (i_EAA _ (D.setG R.fr.1) (R.pushG _ (.list xs.reverse) rfl rfl (fun d e => own_list e ?_ (Nat.le_trans (slicePick_size_le ..) hz))) (k _ R.fr.2))
  (wide_line using krv_pick; wide_line using List.map_reverse; wide_open with he)
theorem take3_eq {us : Array Value} (h : us.size = 4) : ((List.range 3).filterMap fun (k : Nat) => us[((0 : Int) + (k : Int) * 1).toNat]?).toArray = (us.toList.take 3).toArray := by
  obtain ⟨l⟩ := us
  obtain ⟨a, b, c, d, rfl⟩ : ∃ a b c d, l = [a, b, c, d] := by
    cases l with
    | nil => wide_open using h
    | cons a l => cases l with
      | nil => wide_open using h
      | cons b l => cases l with
        | nil => wide_open using h
        | cons c l => cases l with
          | nil => wide_open using h
          | cons d l => cases l with
            | nil => exact (i_EEEE a b c d rfl)
            | cons _ _ => wide_open using h
  rfl
theorem slice_tup3_ok {a : Addr} {x y z t : Value} (h : G a = some (.tup [x, y, z, t])) (k : newG (.tup [x, y, z]) G K) : sliceG W n (.ref a) .none (.int 3 0) .none G K :=
  fun A vo vl vu vs sl value slice hA ho el eu es hop H s hs D R => by
  obtain ⟨ops, hop⟩ := hop
  rw [er_ref ho] at hop ⊢
  refine o_EAA (R.tup (GH.un_right h)) fun us htt he hz => ?_
  have hl4 : us.size = 4 := by have := congrArg List.length he; simpa using this
  obtain ⟨u3, rfl⟩ := er_int eu
  rw [er_none el, er_none es] at hs
  have hos := R.hid D hs
  have hTs : s.TypeIs (.ref sl) "slice" := (i_EA _ hos rfl)
  refine tail_any htt.typeIs slot_tuple_getitem.lookup ?_ hop
  unfold getItem
  try with_reducible refine wpAny_holding ?_
  first | refine wpAny_bind (wpAny_pure ?_) | skip
  refine wpAny_bind (wpAny_sequenceKey htt.typeIs (by decide) ?_)
  refine wpAny_bind (wpAny_callSpecial?_slot (name := Str.ofString "__getitem__") htt.typeIs slot_tuple_getitem
    (wpAny_call_entry slot_tuple_getitem htt.typeIs entry_tuple_getitem ?_ (args_tuple_getitem _ _)))
  refine (?_ : wpAny _ _ (Builtin.Tuple.tupleItemsOf (.ref a) >>= _) _ _ s)
  refine wpAny_bind (tupleItemsOf_ htt ?_)
  refine wpAny_bind (wpAny_typeOf hTs ?_)
  wide_open with if_pos (by decide)
  have app : ∀ {Q : Int × Int × Nat → Shared → Prop} {E : Value → Shared → Prop} {A : Around}, Q (0, 1, 3) s → wpAny W.M A (Builtin.Slice.sliceApplied (.ref sl) (pure (us.size : Int))) Q E s := fun {Q E A} hQ => by
    unfold Builtin.Slice.sliceApplied Builtin.Slice.sliceFields
    refine wpAny_bind (wpAny_bind (wpAny_field hos rfl (x := .none) rfl (wpAny_bind (wpAny_field hos rfl (x := .int 3 u3) rfl (wpAny_bind (wpAny_field hos rfl (x := .none) rfl (wpAny_pure ?_)))))))
    refine wpAny_bind (slicePart_none ?_)
    refine (?_ : wpAny _ _ (if ((1 : Int) == 0) = true then _ else _) _ _ s)
    wide_open with if_neg (by decide)
    refine wpAny_bind (slicePart_none (wpAny_bind (slicePart_int (wpAny_bind (wpAny_pure ?_)))))
    wide_open with hl4
    exact wpAny_pure hQ
  refine wpAny_bind (app ?_)
  have hno : ¬ (((0 : Int) == 0 && (1 : Int) == 1 && 3 == us.size) = true) := by wide_open with hl4; decide
  refine (?_ : wpAny _ _ (if ((0 : Int) == 0 && (1 : Int) == 1 && 3 == us.size) = true then _ else _) _ _ s)
  wide_open with if_neg hno
  have ep := take3_eq hl4
  wide_open with ep
  have hdrop : sizeOk (.seq (us.toList.take 3).toArray) := by
    refine (?_ : (us.toList.take 3).toArray.size ≤ sizeLine)
    simp; unfold sizeLine; lia
  have fin := k _ R.fr.2
  have hR := R.pushG { cls := .type "tuple", data := .seq (us.toList.take 3).toArray } (.tup [x, y, z]) rfl rfl (tk := s.toks) (dr := s.drawn) (fun d e => own_tup e (by simp [List.map_take, he]) (by simp; unfold sizeLine; lia))
  have kk : ∃ G', Disj H G' ∧ W.R (H.un G') ⟨s.heap.push { cls := .type "tuple", data := .seq (us.toList.take 3).toArray }, s.gens, s.drawn, s.toks, s.os⟩ ∧ K (er (.ref s.heap.objs.size)) G' := (i_EAA _ (D.setG R.fr.1) hR fin)
  first
    | exact wpAny_bind (m := Builtin.Tuple.tupleExact _) (wpAny_newObj_type (wpAny_pure (i_EA _ rfl (wpAny_pure kk))) hdrop)
    | exact wpAny_bind (m := Builtin.Tuple.tupleExact _) (wpAny_newObj_type (wpAny_bind (wpAny_pure (wpAny_pure ⟨_, rfl, wpAny_pure kk⟩))) hdrop)
    | exact wpAny_bind (wpAny_bind (m := Builtin.Tuple.tupleExact _) (wpAny_newObj_type (wpAny_pure (wpAny_pure ⟨_, rfl, wpAny_pure kk⟩)) hdrop))
    | exact wpAny_bind (wpAny_bind (m := Builtin.Tuple.tupleExact _) (wpAny_newObj_type (wpAny_pure ⟨_, rfl, wpAny_pure kk⟩) hdrop))
end
section
open PySem PySem.W PySem.Calls PyProof.Rows PySem.SeqAt
variable {W : Wd} {n : Nat} {G H : GH} {C : Bool → GH → Prop} {K : KV} {s : Shared}
theorem list_no_keys {A : Around} {a : Addr} {xs : Array Value} {k : Nat} {sl : Array (Option Value)} {Q : Option Value → Shared → Prop} {E : Value → Shared → Prop} (hx : s.heap.get? a = some { cls := .type "list", dict := none, data := .seq xs k, slots := sl }) (hA : A.handled = none)
    (h : ∀ h' tk, (∀ b o, s.heap.get? b = some o → h'.get? b = some o) → Q none { s with heap := h', toks := tk }) : wpAny W.M A (getAttr? (.ref a) "keys") Q E s := by
  have hmiss : typeLookup (.type "list") "keys" = pure none := am_miss_of_fast (by kernel_rfl)
  have hname : (["__module__", "__name__", "__qualname__", "__doc__", "__annotations__"] : List Str).contains "keys" = false := by decide +kernel
  obtain ⟨hp, g, d, tk, os⟩ := s
  have hT : ∀ tk', (⟨hp, g, d, tk', os⟩ : Shared).TypeIs (.ref a) "list" := fun z9 => (i_EA _ hx rfl)
  have f1 := sub_AttributeError
  have f3 := F.slot_list_getattribute.lookup
  have f4 := F.slot_list_getattribute.bind (.ref a)
  have f5 := am_list_getattr_none
  unfold getAttr? getAttrBy? getAttrBy
  repeat (any_goals (first | assumption | exact hT _ | ((with_reducible show wpAny _ _ (call (Value.builtin "list.__getattribute__") _ _) _ _ _); refine call_meets F.slot_list_getattribute (hT _) am_entry_list_getattribute (F.args_list_getattribute_2 _ _) (meets_getattribute_miss_list a xs k sl "keys" _ hmiss hname) (i_AA hx hA (fun h' tk' e hx' => ?_))) | wp_step))
  refine o_EE hx'.there fun t' u' he => ?_
  refine (?_ : wpAny _ _ (getattributeRaised _ _ _ _ _ _ _) _ _ _)
  unfold getattributeRaised
  repeat (any_goals (first | assumption | wp_step))
  exact h _ _ hx'.keeps
theorem entry_upd_loop : entryFor table "dict.update.loop" = some Builtin.«dict.update.loop» := entryFor_of_tree (by kernel_rfl)
theorem plain_upd_loop : plainId "dict.update.loop" = true := by decide +kernel
noncomputable def foldP (acc es : List (Int × Value)) : List (Int × Value) := es.foldl (fun l p => put l p.1 p.2) acc
theorem put_len (es : List (Int × Value)) (k : Int) (v : Value) : (put es k v).length ≤ es.length + 1 := by unfold put; split <;> simp
theorem foldP_len : ∀ (es acc : List (Int × Value)), (foldP acc es).length ≤ acc.length + es.length
  | [], acc => Nat.le_refl _
  | p :: r, acc => by
    have h1 := foldP_len r (put acc p.1 p.2)
    have h2 := put_len acc p.1 p.2
    refine (?_ : (foldP (put acc p.1 p.2) r).length ≤ _)
    simp only [List.length_cons]; lia
noncomputable def PairAt (G : GH) (t : Addr) (p : Int × Value) : Prop := G t = some (.tup [.int p.1 0, p.2])
set_option tactic.hygienic true in
theorem upd_loop {a S I : Addr} {all : List Value} {R : Result → Shared → Prop} (ha : G a = some (.list all)) (hS : G S = none) (hSy : S ≠ sysModules) (hI : H I = none) (hGI : G I = none) (hSI : S ≠ I) (hHS : H S = none) (D : Disj H G) :
    ∀ (ts : List Addr) (es acc : List (Int × Value)) (k : IterK) (j : Int) (u : Tok) (ep : Nat) (A : Around) (s : Shared), All2 (PairAt G) ts es → k.Rel (refs ts) (fun G' => G' a = some (.list all)) → acc.length + es.length ≤ 1000 → A.handled = none →
    W.R ((H.set I (.iter k)).un (G.set S (.dict acc ep))) s → (∀ s' ep', W.R (H.un (G.set S (.dict (foldP acc es) ep'))) s' → R (.ok (.ret .none)) s') →
    codeAny W.M A (.builtin "dict.update.loop" ⟨[.ref S, .ref I, .int j u, .none], []⟩) R s := by
  have D1 : ∀ k acc ep, Disj (H.set I (.iter k)) (G.set S (.dict acc ep)) := fun k acc ep => (D.setH hGI).setG (by wide_open with GH.set_ne _ _ hSI; exact hHS)
  have haS : a ≠ S := by rintro rfl; wide_line with ha using hS
  intro ts
  induction ts with
  | nil =>
    intro es acc k j u ep A s ht hx hz hA R1 kk
    cases ht
    refine codeAny_builtin entry_upd_loop ?_
    wide_open with Around.under_plainId plain_upd_loop _
    refine (?_ : wpAny _ A.in1 (pyNext (.ref I) >>= _) _ _ s)
    refine wpAny_bind (wpAny_mono (next_end (by simp [hA]) (D1 k acc ep) R1 (GH.set_self _ _ _) hx (by refine (?_ : (G.set S _) a = _); wide_open with GH.set_ne _ _ haS; exact ha)) (fun r s' q => ?_) fun z9 z9 z => z.elim)
    obtain ⟨rfl, R2⟩ := q
    have hd : (H.set I (.iter k)).del I = H := by
      funext b; simp only [GH.del, GH.set]
      by_cases hb : b = I
      · simp [hb, hI]
      · simp [hb]
    rw [hd] at R2
    exact wpAny_pure (kk _ _ R2)
  | cons t ts ih =>
    intro es acc k j u ep A s ht hx hz hA R1 kk
    cases ht with
    | cons h1 h2 =>
      rename_i p es
      refine codeAny_builtin entry_upd_loop ?_
      wide_open with Around.under_plainId plain_upd_loop _
      refine (?_ : wpAny _ A.in1 (pyNext (.ref I) >>= _) _ _ s)
      refine wpAny_bind (wpAny_mono (next_item (D1 k acc ep) R1 (GH.set_self _ _ _) hx (by refine (?_ : (G.set S _) a = _); wide_open with GH.set_ne _ _ haS; exact ha)) (fun r s' q => ?_) fun z9 z9 z => z.elim)
      refine o_EEAAA q fun v k' e93 ev hr R2 => ?_; try clear q; subst e93
      wide_open with er_ref ev
      rw [GH.set_set] at R2
      have htS : t ≠ S := by rintro rfl; unfold PairAt at h1; wide_line with hS using h1
      refine o_EAA (R2.tup (GH.un_right (show (G.set S (.dict acc ep)) t = some (.tup [.int p.1 0, p.2]) by wide_open with GH.set_ne _ _ htS; exact h1))) fun us hl he hzu => ?_
      refine o_EAAE hl fun o ho hc m hd => ?_; try clear hl
      obtain ⟨x, y, rfl, ex, ey⟩ : ∃ x y, us = #[x, y] ∧ er x = .int p.1 0 ∧ er y = p.2 := by
        obtain ⟨l⟩ := us
        refine o_EE (len2 (l := l) (by have := congrArg List.length he; simpa using this)) fun x y e93 => ?_; subst e93
        exact (i_EEA x y rfl (by simpa using he))
      obtain ⟨tx, rfl⟩ := er_int ex
      refine o_EEAAA (R2.at (GH.un_right (GH.set_self G S (.dict acc ep)))) fun z9 kvs hdk hek hzk z9 => ?_
      have hlk : kvs.length = acc.length := by ((first | refine hek ▸ ?_ | rewrite [← hek]); try with_reducible rfl); simp
      simp only [List.length_cons] at hz
      refine (?_ : wpAny _ A.in1 (holding _ _ >>= _) _ _ s')
      refine wpAny_bind (wpAny_holding ?_)
      refine wpAny_bind (wpAny_tryCatch (m := Builtin.Dict.pairItems (.ref t)) ?_)
      unfold Builtin.Dict.pairItems
      refine wpAny_bind (wpAny_typeOf (T := "tuple") (i_EA _ ho hc) ?_)
      wide_open with if_pos (by decide)
      refine wpAny_bind (wpAny_seqItems ho hd (wpAny_pure ?_))
      refine (?_ : wpAny _ A.in1 (holding _ (dictSet S (.int p.1 tx) y)) _ _ s')
      refine (wpAny_holding (wpAny_dictSet_pairs (knd := intKind W.prog W.w) (k := p.1) (by simp [intKind, Value.isInt]) hdk.dictOf (fun h' hd' hsb => ?_) (by wide_open with sizeLine_eq; lia)))
      obtain ⟨ep', hat⟩ := DictAt_of hd'
      refine wpAny_pure ⟨plainId_quiet plain_upd_loop _, ?_⟩
      refine ih es (put acc p.1 p.2) k' _ _ ep' A _ h2 hr (by have := put_len acc p.1 p.2; lia) hA ?_ kk
      have R3 := R2.ext (h' := h') (tk := s'.toks + 1) (dr := s'.drawn) (g' := .dict (put acc p.1 p.2) ep') (GH.un_right (GH.set_self G S (.dict acc ep))) rfl rfl hsb.extBut fun dd z9 => (i_EAAA _ hat (by (wide_line using put_map; wide_line using hek; wide_open with ey)) (by have := stored_len kvs p.1 y; wide_open with sizeLine_eq; lia) hSy)
      rw [GH.un_set, GH.set_set, ← GH.un_set] at R3
      exact R3
theorem dict_pairs_ok (O : ∃ mg mb, WdOK W mg mb) {a : Addr} {ts : List Addr} {es : List (Int × Value)} (h : G a = some (.list (refs ts))) (ht : All2 (PairAt G) ts es) (hz : es.length ≤ 1000) (k : ∀ ep, newG (.dict (foldP [] es) ep) G K) : CallT W n (.type "dict") [.ref a] G K := fun A fv vs hA hf hv H s z9 D R => by
  refine o_EE O fun mg mb O => ?_
  refine o_EA (vals1 hv) fun v e92 e1 => ?_; subst e92
  (wide_line using er_type hf; wide_open with er_ref e1)
  refine o_EAA (R.list (GH.un_right h)) fun us n92 he hzu => ?_; obtain ⟨c, hl⟩ := n92
  have hsys : s.heap.objs.size ≠ sysModules := by
    have big := size_big O R
    intro e; rw [e] at big; exact absurd big (by decide)
  refine callType_codes (Q₁ := fun obj s₁ => obj = .ref s.heap.objs.size ∧ s₁ = { s with heap := s.heap.push { cls := .type "dict", data := .dict #[] } }) F.kt_called_dict (F.kt_typeCall_dict_1 _) F.entry_dict_init (kt_code_dict_new _ ⟨rfl, rfl⟩) ?_
  intro obj s₁ hx9; obtain ⟨rfl, rfl⟩ := hx9
  have hnew : (s.heap.push { cls := .type "dict", data := .dict #[] }).DictOf (intKind W.prog W.w) s.heap.objs.size [] := Heap.DictOf.new s.heap
  obtain ⟨ep0, hat0⟩ := DictAt_of hnew
  have R0 := R.pushG { cls := .type "dict", data := .dict #[] } (.dict [] ep0) rfl rfl (tk := s.toks) (dr := s.drawn) fun d e => (i_EAAA ([]) hat0 rfl (by simp [sizeLine]) hsys)
  have fr := R.fr
  have hT0 : Shared.TypeIs { s with heap := s.heap.push { cls := .type "dict", data := .dict #[] } } (.ref s.heap.objs.size) "dict" := hnew.typeIs
  refine (i_AA hT0 (F.args_dict_init_2 _ _) ?_)
  have hl0 : (s.heap.push { cls := .type "dict", data := .dict #[] }).get? a = some { cls := .type "list", data := .seq us c } := Heap.get?_push_of_some _ hl
  generalize s.heap.objs.size = S at *
  generalize hs1 : (⟨s.heap.push { cls := .type "dict", data := .dict #[] }, s.gens, s.drawn, s.toks, s.os⟩ : Shared) = s1 at *
  have hl1 : s1.heap.get? a = some { cls := .type "list", data := .seq us c } := by ((first | refine hs1 ▸ ?_ | rewrite [← hs1]); try with_reducible rfl); exact hl0
  clear hnew hat0 hl0 hs1
  unfold Builtin.«dict.__init__»
  refine wpAny_bind ?_
  unfold Builtin.Dict.selfAndRest
  refine wpAny_bind (wpAny_notOrdered_dict hT0 ?_)
  refine (?_ : wpAny _ _ (pure (S, [Value.ref a])) _ _ _)
  refine wpAny_pure ?_
  refine (?_ : wpAny _ _ (Builtin.Dict.updateFrom "dict.__init__" S (.ref a) [] .none) _ _ _)
  unfold Builtin.Dict.updateFrom
  have hT : s1.TypeIs (.ref a) "list" := (i_EA _ hl1 rfl)
  refine wpAny_bind (wpAny_typeOf hT ?_)
  wide_open with if_pos (by decide)
  refine wpAny_bind (list_no_keys hl1 (by simp [hA.1]) fun h' tk hk => ?_)
  wide_open with if_pos (by rfl)
  have R1 := Repr.kept R0 (tk := tk) (dr := s1.drawn) hk
  have haS : a ≠ S := by rintro rfl; rw [h] at fr; cases fr.2
  have h2 : (G.set S (.dict [] ep0)) a = some (.list (refs ts)) := by wide_open with GH.set_ne _ _ haS; exact h
  have it : iterG (.ref a) (G.set S (.dict [] ep0)) fun xs chk => xs = refs ts ∧ chk = fun G' => G' a = some (.list (refs ts)) := by unfold iterG; dsimp only; wide_open with h2; exact ⟨rfl, rfl⟩
  refine wpAny_bind (wpAny_rule ?_)
  refine wpAny_bind (wpAny_mono (iter_ok rfl (D.setG fr.1) R1 it) (fun r s2 q => ?_) fun z9 z9 z => z.elim)
  refine o_EEEEAAAAAAA q fun I kI xs chk e95 hI hGI R2 hr hc e911 e912 => ?_; try clear q; subst e95; subst e911; subst e912
  have hSI : S ≠ I := by rintro rfl; wide_line with GH.set_self using hGI
  have hI' : G I = none := by rwa [GH.set_ne _ _ hSI.symm] at hGI
  refine wpAny_pure ⟨plainId_quiet plain_upd_loop _, ?_⟩
  exact upd_loop h fr.2 hsys hI hI' hSI fr.1 D ts es [] kI _ _ ep0 _ s2 ht hr (by simpa using hz) (by simp [hA.1]) R2 fun s' ep' R3 => (i_AEAA rfl _ (D.setG fr.1) R3 (k ep' S fr.2))
end
section
open PySem PySem.W PySem.Calls PyProof.Rows
noncomputable def a__law_buffer : Addr := 577
noncomputable def a__law_gdef : Addr := 582
noncomputable def a__law_lookup : Addr := 589
noncomputable def a__law_scene : Addr := 594
noncomputable def a__law_seen : Addr := 599
noncomputable def a__law_row : Addr := 604
noncomputable def a__law_rule : Addr := 609
noncomputable def a__law_table : Addr := 614
noncomputable def a__law_plain : Addr := 619
noncomputable def a__law_ways : Addr := 624
noncomputable def a__law_found : Addr := 629
noncomputable def a_law : Addr := 634
noncomputable def defIn (x : Str) : List Stmt → Option Stmt
  | [] => none
  | st :: r => match st with
    | .FunctionDef name _ _ _ _ _ _ _ _ _ => if name == x then some st else defIn x r
    | _ => defIn x r
noncomputable def fName : Stmt → Str
  | .FunctionDef x _ _ _ _ _ _ _ _ _ => x
  | _ => default
noncomputable def fArgs : Stmt → Arguments
  | .FunctionDef _ x _ _ _ _ _ _ _ _ => x
  | _ => ⟨[], [], none, [], [], none, []⟩
noncomputable def fBody : Stmt → List Stmt
  | .FunctionDef _ _ x _ _ _ _ _ _ _ => x
  | _ => []
noncomputable def fScope : Stmt → Scope
  | .FunctionDef _ _ _ _ _ _ x _ _ _ => x
  | _ => { kind := .function, names := [], isGenerator := false, isCoroutine := false }
noncomputable def fPos : Stmt → Pos
  | .FunctionDef _ _ _ _ _ _ _ _ _ x => x
  | _ => default
noncomputable def st_law : Stmt := ((defIn "law" PySem.Challenge.pw_nu0235_02.main.body).bind fun s => defIn "apply_at" (fBody s)).getD (.Pass default)
noncomputable def b__law_buffer : List CS := [
  .set (.one (.loc 2)) (.list []),
  .for (.one (.loc 3)) (.call (.val (.type "range")) [(.var (.loc 1))]) [
    .set (.one (.loc 4)) (.call (.val (.ref a_Info)) [(.bin .Add (.val (.int (65) 0)) (.var (.loc 3))), (.call (.val (.ref a__law_take)) [(.var (.loc 0)), (.val (.int (6) 0))]), (.var (.loc 3))]),
    .seta (.var (.loc 4)) 9 (.sub (.tup [(.val (.str "" 0)), (.val (.str "zwj" 0)), (.val (.str "" 0)), (.val (.str "zwnj" 0)), (.val (.str "" 0)), (.val (.str "hidden" 0))]) (.call (.val (.ref a__law_take)) [(.var (.loc 0)), (.val (.int (6) 0))])),
    .seta (.var (.loc 4)) 3 (.sub (.tup [(.val (.int (1) 0)), (.val (.int (3) 0)), (.val (.int (2) 0))]) (.call (.val (.ref a__law_take)) [(.var (.loc 0)), (.val (.int (3) 0))])),
    .expr (.meth (.var (.loc 2)) 43 [(.var (.loc 4))])],
  .ret (.call (.val (.ref a_Buffer)) [(.var (.loc 2))])]
noncomputable def sp__law_buffer : FnSpec := ⟨["pool", "many"], ["pool", "many", "rows", "at", "info"], [], [some 0, some 1, none, none, none], [], b__law_buffer⟩
noncomputable def b__law_gdef : List CS := [
  .ret (.call (.val (.type "dict")) [(.comp (.tup [(.var (.loc 1)), (.call (.val (.ref a__law_take)) [(.var (.cel 0)), (.val (.int (4) 0))])]) (.one (.loc 1)) (.call (.val (.type "range")) [(.val (.int (6) 0))]) .tt 2 [0])])]
noncomputable def sp__law_gdef : FnSpec := ⟨["pool"], [], ["pool"], [], [some 0], b__law_gdef⟩
noncomputable def b__law_lookup : List CS := [
  .ret (.call (.val (.ref a_Lookup)) [(.val (.str "context" 0)), (.sub (.tup [(.val (.int (0) 0)), (.val (.int (8) 0)), (.val (.int (2) 0)), (.val (.int (4) 0)), (.val (.int (12) 0)), (.val (.int (14) 0))]) (.call (.val (.ref a__law_take)) [(.var (.loc 0)), (.val (.int (6) 0))])), (.val (.int (0) 0)), (.list [])])]
noncomputable def sp__law_lookup : FnSpec := ⟨["pool"], ["pool"], [], [some 0], [], b__law_lookup⟩
noncomputable def b__law_scene : List CS := [
  .set (.one (.loc 4)) (.call (.val (.type "dict")) [(.comp (.tup [(.var (.loc 1)), (.sub (.var (.cel 0)) (.var (.loc 1)))]) (.one (.loc 1)) (.var (.cel 0)) (.cmp .Gt (.sub (.var (.cel 0)) (.var (.loc 1))) (.val (.int (0) 0))) 2 [0])]),
  .ret (.call (.val (.ref a_Scene)) [(.var (.loc 0)), (.call (.val (.ref a_Gdef)) [(.call (.val (.ref a_ClassDef)) [(.var (.loc 4))]), (.call (.val (.ref a_ClassDef)) [(.dict [] [])]), (.list [])]), (.list [(.var (.loc 1))]), (.var (.loc 1)), (.var (.loc 2)), (.var (.loc 3))])]
noncomputable def sp__law_scene : FnSpec := ⟨["rows", "classes", "lookup", "mask", "depth"], ["rows", "lookup", "mask", "depth", "held"], ["classes"], [some 0, some 2, some 3, some 4, none], [some 1], b__law_scene⟩
noncomputable def b__law_seen : List CS := [
  .set (.one (.cel 3)) (.tup [(.val (.int (0) 0)), (.val (.int (2) 0)), (.val (.int (4) 0)), (.val (.int (8) 0))]),
  .ret (.comp (.var (.loc 1)) (.one (.loc 1)) (.call (.val (.type "range")) [(.call (.val (.builtin "len")) [(.attr (.var (.cel 0)) 16)])]) (.cmp .Eq (.bin .BitAnd (.var (.cel 2)) (.sub (.var (.cel 0)) (.sub (.var (.cel 1)) (.attr (.sub (.attr (.var (.cel 3)) 16) (.var (.loc 1))) 1)))) (.val (.int (0) 0))) 2 [3, 1, 2, 0])]
noncomputable def sp__law_seen : FnSpec := ⟨["rows", "classes", "flag"], [], ["rows", "classes", "flag", "bits"], [], [some 0, some 1, some 2, none], b__law_seen⟩
noncomputable def b__law_row : List CS := [
  .ite (.cmp .Eq (.var (.cel 1)) (.val (.int (3) 0))) [
    .ret (.call (.val (.type "tuple")) [(.comp (.call (.val (.builtin "sorted")) [(.call (.val (.type "dict")) [(.comp (.tup [(.call (.val (.ref a__law_take)) [(.var (.cel 0)), (.val (.int (6) 0))]), (.val (.bool true))]) (.one (.loc 1)) (.call (.val (.type "range")) [(.bin .Add (.val (.int (1) 0)) (.call (.val (.ref a__law_take)) [(.var (.cel 0)), (.val (.int (4) 0))]))]) .tt 2 [0])])]) (.one (.loc 1)) (.call (.val (.type "range")) [(.var (.loc 0))]) .tt 2 [0])])] [],
  .ret (.call (.val (.type "tuple")) [(.comp (.call (.val (.ref a__law_take)) [(.var (.cel 1)), (.ite (.cmp .Eq (.var (.cel 0)) (.val (.int (1) 0))) (.val (.int (6) 0)) (.val (.int (3) 0)))]) (.one (.loc 1)) (.call (.val (.type "range")) [(.var (.loc 0))]) .tt 2 [1, 0])])]
noncomputable def sp__law_row : FnSpec := ⟨["pool", "form", "many"], ["many"], ["pool", "form"], [some 2], [some 0, some 1], b__law_row⟩
noncomputable def b__law_rule : List CS := [
  .set (.one (.cel 1)) (.call (.val (.ref a__law_row)) [(.var (.cel 0)), (.var (.loc 0)), (.bin .Add (.val (.int (1) 0)) (.call (.val (.ref a__law_take)) [(.var (.cel 0)), (.val (.int (3) 0))]))]),
  .set (.one (.loc 2)) (.ite (.tr (.var (.loc 1))) (.call (.val (.ref a__law_row)) [(.var (.cel 0)), (.var (.loc 0)), (.call (.val (.ref a__law_take)) [(.var (.cel 0)), (.val (.int (3) 0))])]) (.tup [])),
  .set (.one (.loc 3)) (.ite (.tr (.var (.loc 1))) (.call (.val (.ref a__law_row)) [(.var (.cel 0)), (.var (.loc 0)), (.call (.val (.ref a__law_take)) [(.var (.cel 0)), (.val (.int (3) 0))])]) (.tup [])),
  .set (.one (.loc 4)) (.call (.val (.type "tuple")) [(.comp (.tup [(.bin .Mod (.call (.val (.ref a__law_take)) [(.var (.cel 1)), (.val (.int (3) 0))]) (.call (.val (.builtin "len")) [(.var (.cel 0))])), (.call (.val (.ref a__law_take)) [(.var (.cel 1)), (.val (.int (3) 0))])]) (.one (.loc 1)) (.call (.val (.type "range")) [(.call (.val (.ref a__law_take)) [(.var (.cel 0)), (.val (.int (3) 0))])]) .tt 2 [1, 0])]),
  .ret (.tup [(.var (.loc 2)), (.var (.cel 1)), (.var (.loc 3)), (.var (.loc 4))])]
noncomputable def sp__law_rule : FnSpec := ⟨["pool", "form", "is_chained"], ["form", "is_chained", "back", "ahead", "actions"], ["pool", "inside"], [some 1, some 2, none, none, none], [some 0, none], b__law_rule⟩
noncomputable def b__law_table : List CS := [
  .ite (.cmp .Eq (.var (.loc 0)) (.val (.int (3) 0))) [
    .set (.many [(.loc 5), (.loc 6), (.loc 7)]) (.comp (.call (.val (.type "tuple")) [(.comp (.call (.val (.ref a_coverage_of)) [(.var (.loc 1))]) (.one (.loc 1)) (.var (.loc 1)) .tt 2 [])]) (.one (.loc 1)) (.slice (.sub (.var (.loc 2)) (.val (.int (0) 0))) (.val .none) (.val (.int (3) 0)) (.val .none)) .tt 2 []),
    .ret (.call (.val (.ref a_Contexts)) [(.val (.int (3) 0)), (.var (.loc 1)), (.dict [0] [(.list [(.call (.val (.ref a_Rule)) [(.var (.loc 5)), (.var (.loc 6)), (.var (.loc 7)), (.sub (.sub (.var (.loc 2)) (.val (.int (0) 0))) (.val (.int (3) 0)))])])])])] [],
  .set (.one (.loc 8)) (.dict [] []),
  .for (.many [(.loc 5), (.loc 6), (.loc 7), (.loc 9)]) (.var (.loc 2)) [
    .seti (.var (.loc 8)) (.sub (.var (.loc 6)) (.val (.int (0) 0))) (.bin .Add (.meth (.var (.loc 8)) 45 [(.sub (.var (.loc 6)) (.val (.int (0) 0))), (.list [])]) (.list [(.call (.val (.ref a_Rule)) [(.var (.loc 5)), (.var (.loc 6)), (.var (.loc 7)), (.var (.loc 9))])]))],
  .ite (.cmp .Eq (.var (.loc 0)) (.val (.int (1) 0))) [
    .ret (.call (.val (.ref a_Contexts)) [(.val (.int (1) 0)), (.var (.loc 1)), (.var (.loc 8))])] [],
  .set (.one (.loc 10)) (.call (.val (.type "tuple")) [(.compC (.call (.val (.ref a_ClassDef)) [(.call (.val (.type "dict")) [(.comp (.tup [(.var (.loc 1)), (.sub (.var (.cel 0)) (.var (.loc 1)))]) (.one (.loc 1)) (.var (.cel 0)) (.cmp .Gt (.sub (.var (.cel 0)) (.var (.loc 1))) (.val (.int (0) 0))) 2 [0])])]) (.one (.cel 0)) (.var (.loc 3)) .tt 1 1 [])]),
  .ret (.call (.val (.ref a_Contexts)) [(.val (.int (2) 0)), (.var (.loc 1)), (.var (.loc 8)), (.call (.val (.ref a_coverage_of)) [(.var (.loc 4))]), (.var (.loc 10))])]
noncomputable def sp__law_table : FnSpec := ⟨["form", "is_chained", "rules", "maps", "cover"], ["form", "is_chained", "rules", "maps", "cover", "back", "inside", "ahead", "sets", "actions", "classes"], [], [some 0, some 1, some 2, some 3, some 4, none, none, none, none, none, none], [], b__law_table⟩
noncomputable def b__law_plain : List CS := [
  .ite (.cmp .Eq (.var (.loc 1)) (.val (.int (1) 0))) [
    .ret (.comp (.list [(.var (.loc 1))]) (.one (.loc 1)) (.var (.loc 0)) .tt 2 [])] [],
  .ite (.cmp .Eq (.var (.loc 1)) (.val (.int (3) 0))) [
    .ret (.call (.val (.type "list")) [(.var (.loc 0))])] [],
  .ret (.compC (.comp (.var (.loc 1)) (.one (.loc 1)) (.call (.val (.type "range")) [(.val (.int (6) 0))]) (.cmp .Eq (.sub (.var (.cel 1)) (.var (.loc 1))) (.var (.cel 0))) 2 [0, 1]) (.one (.cel 0)) (.var (.loc 0)) .tt 1 1 [0])]
noncomputable def sp__law_plain : FnSpec := ⟨["row", "form", "one"], ["row", "form"], ["one"], [some 0, some 1], [some 2], b__law_plain⟩
noncomputable def b__law_ways : List CS := [
  .ite (.cmp .Eq (.call (.val (.builtin "len")) [(.var (.cel 1))]) (.val (.int (0) 0))) [
    .ret (.list [(.list [])])] [],
  .set (.one (.loc 1)) (.list []),
  .for (.one (.loc 2)) (.call (.val (.type "range")) [(.call (.val (.builtin "len")) [(.var (.loc 0))])]) [
    .set (.one (.loc 3)) (.sub (.var (.loc 0)) (.var (.loc 2))),
    .set (.one (.loc 4)) (.comp (.var (.loc 1)) (.one (.loc 1)) (.slice (.var (.loc 0)) (.val .none) (.bin .Add (.var (.loc 2)) (.val (.int (1) 0))) (.val .none)) (.and (.cmp .In (.attr (.sub (.attr (.var (.cel 2)) 16) (.var (.loc 1))) 1) (.sub (.var (.cel 1)) (.val (.int (0) 0)))) (.cmp .NotEq (.bin .BitAnd (.attr (.sub (.attr (.var (.cel 2)) 16) (.var (.loc 1))) 3) (.var (.cel 0))) (.val (.int (0) 0)))) 2 [3, 1, 0]),
    .ite (.and (.cmp .Eq (.var (.loc 4)) (.list [(.var (.loc 3))])) (.cmp .Eq (.call (.val (.builtin "len")) [(.comp (.var (.loc 1)) (.one (.loc 1)) (.slice (.var (.loc 0)) (.val .none) (.var (.loc 2)) (.val .none)) (.cmp .NotIn (.attr (.sub (.attr (.var (.cel 1)) 16) (.var (.loc 1))) 9) (.var (.cel 0))) 2 [2, 0])]) (.val (.int (0) 0)))) [
      .for (.one (.loc 5)) (.call (.val (.ref a__law_ways)) [(.slice (.var (.loc 0)) (.bin .Add (.var (.loc 2)) (.val (.int (1) 0))) (.val .none) (.val .none)), (.var (.cel 0)), (.slice (.var (.cel 1)) (.val (.int (1) 0)) (.val .none) (.val .none)), (.var (.cel 2)), (.var (.cel 3))]) [
        .expr (.meth (.var (.loc 1)) 43 [(.bin .Add (.list [(.var (.loc 3))]) (.var (.loc 5)))])]] []],
  .ret (.var (.loc 1))]
noncomputable def sp__law_ways : FnSpec := ⟨["seen", "rows", "plain", "kinds", "mask"], ["seen", "found", "spot", "at", "good", "way"], ["rows", "plain", "kinds", "mask"], [some 0, none, none, none, none, none], [some 1, some 2, some 3, some 4], b__law_ways⟩
noncomputable def b__law_found : List CS := [
  .set (.many [(.loc 3), (.loc 4), (.loc 5)]) (.comp (.call (.val (.ref a__law_plain)) [(.sub (.var (.cel 2)) (.var (.loc 1))), (.var (.cel 0)), (.sub (.var (.cel 1)) (.var (.loc 1)))]) (.one (.loc 1)) (.call (.val (.type "range")) [(.val (.int (3) 0))]) .tt 2 [2, 3, 1]),
  .set (.one (.loc 6)) (.tup [(.val (.str "zwj" 0)), (.val (.str "zwnj" 0)), (.val (.str "hidden" 0))]),
  .ite (.cmp .NotIn (.attr (.sub (.attr (.var (.loc 0)) 16) (.var (.cel 0))) 1) (.sub (.var (.loc 4)) (.val (.int (0) 0)))) [
    .ret (.val .none)] [],
  .set (.one (.loc 7)) (.call (.val (.ref a__law_ways)) [(.comp (.var (.loc 1)) (.one (.loc 1)) (.var (.loc 1)) (.cmp .Gt (.var (.loc 1)) (.var (.cel 0))) 2 [0]), (.var (.loc 0)), (.slice (.var (.loc 4)) (.val (.int (1) 0)) (.val .none) (.val .none)), (.tup [(.val (.str "zwj" 0)), (.val (.str "hidden" 0))]), (.var (.loc 2))]),
  .set (.one (.loc 8)) (.call (.val (.ref a__law_ways)) [(.slice (.comp (.var (.loc 1)) (.one (.loc 1)) (.var (.loc 1)) (.cmp .Lt (.var (.loc 1)) (.var (.cel 0))) 2 [0]) (.val .none) (.val .none) (.neg (.val (.int (1) 0)))), (.var (.loc 0)), (.var (.loc 3)), (.var (.loc 6)), (.val (.int (3) 0))]),
  .ite (.or (.cmp .Eq (.call (.val (.builtin "len")) [(.var (.loc 7))]) (.val (.int (0) 0))) (.cmp .Eq (.call (.val (.builtin "len")) [(.var (.loc 8))]) (.val (.int (0) 0)))) [
    .ret (.val .none)] [],
  .set (.one (.cel 4)) (.bin .Add (.list [(.var (.cel 0))]) (.sub (.var (.loc 7)) (.val (.int (0) 0)))),
  .set (.one (.loc 9)) (.call (.val (.ref a__law_ways)) [(.comp (.var (.loc 1)) (.one (.loc 1)) (.var (.loc 1)) (.cmp .Gt (.var (.loc 1)) (.sub (.var (.cel 0)) (.neg (.val (.int (1) 0))))) 2 [4]), (.var (.loc 0)), (.var (.loc 5)), (.var (.loc 6)), (.val (.int (3) 0))]),
  .ret (.ite (.cmp .Eq (.call (.val (.builtin "len")) [(.var (.loc 9))]) (.val (.int (0) 0))) (.val .none) (.tup [(.var (.cel 4)), (.ite (.cmp .Eq (.call (.val (.builtin "len")) [(.var (.loc 3))]) (.val (.int (0) 0))) (.sub (.bin .Add (.sub (.var (.loc 8)) (.val (.int (0) 0))) (.list [(.var (.cel 0))])) (.neg (.val (.int (1) 0)))) (.sub (.sub (.var (.loc 8)) (.val (.int (0) 0))) (.neg (.val (.int (1) 0))))), (.sub (.bin .Add (.var (.cel 4)) (.sub (.var (.loc 9)) (.val (.int (0) 0)))) (.neg (.val (.int (1) 0))))]))]
noncomputable def sp__law_found : FnSpec := ⟨["rows", "seen", "at", "rule", "form", "maps", "mask"], ["rows", "seen", "mask", "back", "inside", "ahead", "kinds", "ways", "behind", "beyond"], ["at", "rule", "form", "maps", "places"], [some 0, some 1, some 6, none, none, none, none, none, none, none], [some 2, some 3, some 4, some 5, none], b__law_found⟩
noncomputable def b_law : List CS := [
  .set (.one (.cel 0)) (.comp (.bin .Mod (.call (.val (.builtin "abs")) [(.var (.loc 1))]) (.bin .Pow (.val (.int (10) 0)) (.val (.int (80) 0)))) (.one (.loc 1)) (.slice (.var (.loc 0)) (.val .none) (.val (.int (24) 0)) (.val .none)) .tt 2 []),
  .set (.one (.cel 1)) (.bin .Add (.val (.int (1) 0)) (.call (.val (.ref a__law_take)) [(.var (.cel 0)), (.val (.int (3) 0))])),
  .set (.one (.cel 2)) (.ofB (.cmp .Gt (.call (.val (.ref a__law_take)) [(.var (.cel 0)), (.val (.int (4) 0))]) (.val (.int (0) 0)))),
  .set (.one (.cel 3)) (.call (.val (.ref a__law_buffer)) [(.var (.cel 0)), (.bin .Add (.val (.int (1) 0)) (.call (.val (.ref a__law_take)) [(.var (.cel 0)), (.val (.int (7) 0))]))]),
  .set (.one (.loc 1)) (.bin .Mod (.call (.val (.ref a__law_take)) [(.var (.cel 0)), (.val (.int (7) 0))]) (.call (.val (.builtin "len")) [(.attr (.var (.cel 3)) 16)])),
  .set (.one (.loc 2)) (.comp (.call (.val (.ref a__law_rule)) [(.var (.cel 2)), (.var (.cel 0)), (.var (.cel 1))]) (.one (.loc 1)) (.call (.val (.type "range")) [(.ite (.cmp .Eq (.var (.cel 1)) (.val (.int (3) 0))) (.val (.int (1) 0)) (.bin .Add (.val (.int (1) 0)) (.call (.val (.ref a__law_take)) [(.var (.cel 0)), (.val (.int (3) 0))])))]) .tt 2 [1, 2, 0]),
  .set (.one (.loc 3)) (.bin .Add (.val (.int (1) 0)) (.call (.val (.ref a__law_take)) [(.var (.cel 0)), (.val (.int (3) 0))])),
  .set (.one (.loc 4)) (.call (.val (.ref a__law_lookup)) [(.var (.cel 0))]),
  .set (.one (.loc 5)) (.call (.val (.ref a__law_gdef)) [(.var (.cel 0))]),
  .set (.one (.loc 7)) (.comp (.call (.val (.type "dict")) [(.comp (.tup [(.var (.loc 1)), (.call (.val (.ref a__law_take)) [(.var (.cel 0)), (.val (.int (3) 0))])]) (.one (.loc 1)) (.call (.val (.type "range")) [(.val (.int (6) 0))]) .tt 2 [0])]) (.one (.loc 1)) (.call (.val (.type "range")) [(.val (.int (3) 0))]) .tt 2 [0]),
  .set (.one (.loc 8)) (.comp (.var (.loc 1)) (.one (.loc 1)) (.call (.val (.type "range")) [(.val (.int (6) 0))]) (.cmp .Lt (.call (.val (.ref a__law_take)) [(.var (.cel 0)), (.val (.int (4) 0))]) (.val (.int (3) 0))) 2 [0]),
  .set (.one (.loc 9)) (.call (.val (.ref a__law_scene)) [(.var (.cel 3)), (.var (.loc 5)), (.var (.loc 4)), (.var (.loc 3)), (.val (.int (0) 0))]),
  .set (.one (.loc 9)) (.call (.val (.ref a_Scene)) [(.var (.cel 3)), (.attr (.var (.loc 9)) 37), (.comp (.call (.val (.ref a_Lookup)) [(.val (.str "single" 0)), (.val (.int (0) 0)), (.var (.loc 1)), (.list [])]) (.one (.loc 1)) (.call (.val (.type "range")) [(.val (.int (3) 0))]) .tt 2 []), (.var (.loc 4)), (.var (.loc 3))]),
  .set (.one (.loc 10)) (.call (.val (.ref a__law_seen)) [(.var (.cel 3)), (.var (.loc 5)), (.attr (.var (.loc 4)) 33)]),
  .set (.one (.cel 5)) (.list []),
  .fdef (.loc 11) st_law,
  .set (.one (.loc 12)) (.val .none),
  .set (.one (.loc 6)) (.attr (.sub (.attr (.var (.cel 3)) 16) (.var (.loc 1))) 1),
  .for (.one (.loc 13)) (.var (.loc 2)) [
    .ite (.and (.cmp .Is (.var (.loc 12)) (.val .none)) (.or (.cmp .NotEq (.var (.cel 1)) (.val (.int (2) 0))) (.cmp .In (.var (.loc 6)) (.var (.loc 8))))) [
      .set (.one (.loc 14)) (.call (.val (.ref a__law_found)) [(.var (.cel 3)), (.var (.loc 10)), (.var (.loc 1)), (.var (.loc 13)), (.var (.cel 1)), (.var (.loc 7)), (.var (.loc 3))]),
      .ite (.cmp .IsNot (.var (.loc 14)) (.val .none)) [
        .set (.one (.loc 12)) (.tup [(.var (.loc 14)), (.sub (.var (.loc 13)) (.val (.int (3) 0)))])] []] []],
  .set (.one (.loc 15)) (.call (.val (.ref a_apply_context)) [(.var (.loc 9)), (.call (.val (.ref a__law_table)) [(.var (.cel 1)), (.var (.cel 2)), (.var (.loc 2)), (.var (.loc 7)), (.var (.loc 8))]), (.var (.loc 1)), (.var (.loc 11))]),
  .set (.one (.loc 16)) (.comp (.var (.loc 1)) (.one (.loc 1)) (.call (.val (.type "range")) [(.call (.val (.builtin "len")) [(.attr (.var (.cel 3)) 16)])]) (.tr (.attr (.sub (.attr (.var (.cel 0)) 16) (.var (.loc 1))) 4)) 2 [3]),
  .ite (.cmp .Is (.var (.loc 12)) (.val .none)) [
    .ret (.and (.ofB (.cmp .Eq (.var (.loc 15)) (.neg (.val (.int (1) 0))))) (.and (.ofB (.cmp .Eq (.var (.cel 5)) (.list []))) (.ofB (.cmp .Eq (.var (.loc 16)) (.list [])))))] [],
  .set (.many [(.cel 4), (.loc 17), (.loc 18)]) (.sub (.var (.loc 12)) (.val (.int (0) 0))),
  .ite (.cmp .NotEq (.var (.cel 5)) (.comp (.tup [(.var (.loc 2)), (.sub (.var (.cel 0)) (.var (.loc 1)))]) (.many [(.loc 1), (.loc 2)]) (.sub (.var (.loc 12)) (.val (.int (1) 0))) .tt 3 [4])) [
    .ret (.val (.bool false))] [],
  .ret (.and (.ofB (.cmp .Eq (.var (.loc 15)) (.bin .Add (.sub (.var (.cel 4)) (.neg (.val (.int (1) 0)))) (.val (.int (1) 0))))) (.ofB (.cmp .Eq (.var (.loc 16)) (.call (.val (.type "list")) [(.call (.val (.type "range")) [(.bin .Add (.var (.loc 17)) (.val (.int (1) 0))), (.bin .Add (.var (.loc 18)) (.val (.int (1) 0)))])]))))]
noncomputable def sp_law : FnSpec := ⟨["script"], ["script", "at", "rules", "mask", "lookup", "classes", "glyph", "maps", "cover", "scene", "seen", "apply_at", "due", "rule", "found", "answer", "un\x73afe", "first", "last"], ["pool", "form", "is_chained", "rows", "places", "log"], [some 0, none, none, none, none, none, none, none, none, none, none, none, none, none, none, none, none, none, none], [none, none, none, none, none, none], b_law⟩
noncomputable def b_law_apply_at : List CS := [
  .expr (.meth (.var (.cel 0)) 43 [(.tup [(.attr (.attr (.var (.loc 0)) 39) 34), (.var (.loc 1))])]),
  .ret (.neg (.val (.int (1) 0)))]
noncomputable def sp_law_apply_at : FnSpec := ⟨["inner", "place"], ["inner", "place"], ["log"], [some 0, some 1], [none], b_law_apply_at⟩
structure Facts2 (W : Wd) (P : Addr) : Prop where
  F : Facts W
  f__law_buffer : ∃ code, FnAt W a__law_buffer sp__law_buffer code 2 []
  f__law_gdef : ∃ code, FnAt W a__law_gdef sp__law_gdef code 1 []
  f__law_lookup : ∃ code, FnAt W a__law_lookup sp__law_lookup code 1 []
  f__law_scene : ∃ code, FnAt W a__law_scene sp__law_scene code 5 []
  f__law_seen : ∃ code, FnAt W a__law_seen sp__law_seen code 3 []
  f__law_row : ∃ code, FnAt W a__law_row sp__law_row code 3 []
  f__law_rule : ∃ code, FnAt W a__law_rule sp__law_rule code 3 []
  f__law_table : ∃ code, FnAt W a__law_table sp__law_table code 5 []
  f__law_plain : ∃ code, FnAt W a__law_plain sp__law_plain code 3 []
  f__law_ways : ∃ code, FnAt W a__law_ways sp__law_ways code 5 []
  f__law_found : ∃ code, FnAt W a__law_found sp__law_found code 7 []
  f_law : FnAt W a_law sp_law (.ref 633) 1 []
  k__law_buffer : W.fns.contains a__law_buffer = true
  k__law_gdef : W.fns.contains a__law_gdef = true
  k__law_lookup : W.fns.contains a__law_lookup = true
  k__law_scene : W.fns.contains a__law_scene = true
  k__law_seen : W.fns.contains a__law_seen = true
  k__law_row : W.fns.contains a__law_row = true
  k__law_rule : W.fns.contains a__law_rule = true
  k__law_table : W.fns.contains a__law_table = true
  k__law_plain : W.fns.contains a__law_plain = true
  k__law_ways : W.fns.contains a__law_ways = true
  k__law_found : W.fns.contains a__law_found = true
  mk_law : ∀ (n : Nat) (c0 c1 c2 c3 c4 c5 : Addr) (G : GH) (K : KV), G P = some (.raw (tabObj #[])) →
    (∀ f c' G', f ≠ c' → G f = none → G c' = none → (∀ a, a ≠ f → a ≠ c' → a ≠ P → G' a = G a) → Tab G' P → CloAt W G' f sp_law_apply_at [c5] 2 → K (.ref f) G') →
    FDefT W n (.ref 633) sp_law.cels [c0, c1, c2, c3, c4, c5] st_law G K
end
section
open PySem PySem.W PySem.Calls PyProof.Rows
variable {W : Wd} {n : Nat} {F G : GH} {K : KV} {cs : List Addr} {M : List (Addr × GO)}
structure St (M : List (Addr × GO)) (F G : GH) : Prop where
  nd : (M.map (·.1)).Nodup
  fr : ∀ p ∈ M, F p.1 = none
  at' : ∀ a, G a = (M.lookup a).or (F a)
theorem lookup_hd {a : Addr} {o : GO} : ((a, o) :: M).lookup a = some o := by simp
theorem lookup_tl {a b : Addr} {o : GO} (h : b ≠ a) : ((a, o) :: M).lookup b = M.lookup b := by
  wide_open with List.lookup_cons
  have : (b == a) = false := by simpa using h
  rw [this]
theorem lookup_none : ∀ {M : List (Addr × GO)} {a : Addr}, (∀ p ∈ M, p.1 ≠ a) → M.lookup a = none
  | [], _, _ => rfl
  | (b, o) :: M, a, h => by
    wide_open with lookup_tl (h (b, o) List.mem_cons_self).symm
    exact lookup_none fun q hq => h q (List.mem_cons_of_mem _ hq)
theorem lookup_in : ∀ {M : List (Addr × GO)} {a : Addr} {o : GO}, M.lookup a = some o → (a, o) ∈ M
  | [], _, _, h => by wide_open using h
  | (b, p) :: M, a, o, h => by
    by_cases e : a = b
    · subst e; wide_line with lookup_hd using h; exact List.mem_cons_self
    · rw [lookup_tl e] at h; exact List.mem_cons_of_mem _ (lookup_in h)
theorem lookup_no : ∀ {M : List (Addr × GO)} {a : Addr}, M.lookup a = none → ∀ p ∈ M, p.1 ≠ a
  | [], _, _, _, h => by cases h
  | (b, o) :: M, a, h, p, hp => by
    by_cases e : a = b
    · subst e; wide_line with lookup_hd using h
    · rw [lookup_tl e] at h
      rcases List.mem_cons.mp hp with rfl | hp
      · exact fun e2 => e e2.symm
      · exact lookup_no h p hp
theorem St.start : St [] F F := ⟨.nil, fun z9 h => (by cases h), fun z9 => rfl⟩
theorem St.sub (h : St M F G) : Sub F G := fun a g e => by
  wide_open with h.at' a
  cases q : M.lookup a with
  | none => exact e
  | some o => have := h.fr _ (lookup_in q); wide_line with e using this
theorem St.hd {a : Addr} {o : GO} (h : St ((a, o) :: M) F G) : G a = some o := by (wide_line using h.at' a; wide_open with lookup_hd); rfl
theorem St.hd2 {p : Addr × GO} {a : Addr} {o : GO} (h : St (p :: (a, o) :: M) F G) : G a = some o := by
  have hn := h.nd
  simp only [List.map_cons, List.nodup_cons, List.mem_cons, not_or] at hn
  (wide_line using h.at' a; wide_line using (show p = (p.1, p.2) from rfl); wide_line using lookup_tl (fun e => hn.1.1 e.symm); wide_open with lookup_hd); rfl
theorem St.fre {a : Addr} (h : St M F G) (ha : G a = none) : F a = none ∧ ∀ p ∈ M, p.1 ≠ a := by
  rw [h.at' a] at ha
  cases q : M.lookup a with
  | none => rw [q] at ha; exact ⟨ha, lookup_no q⟩
  | some o => wide_line with q using ha
theorem St.new {a : Addr} {o : GO} (h : St M F G) (ha : G a = none) : F a = none ∧ St M (F.set a o) (G.set a o) := by
  obtain ⟨h1, h2⟩ := h.fre ha
  refine ⟨h1, h.nd, fun p hp => by wide_open with GH.set_ne _ _ (h2 p hp); exact h.fr p hp, fun b => ?_⟩
  by_cases e : b = a
  · subst e; (wide_line using GH.set_self; wide_line using GH.set_self; wide_open with lookup_none h2); rfl
  · (wide_line using GH.set_ne _ _ e; wide_open with GH.set_ne _ _ e); exact h.at' b
theorem St.newm {a : Addr} {o : GO} (h : St M F G) (ha : G a = none) : St ((a, o) :: M) F (G.set a o) := by
  obtain ⟨h1, h2⟩ := h.fre ha
  refine ⟨?_, fun p hp => ?_, fun b => ?_⟩
  · (wide_line using List.map_cons; wide_open with List.nodup_cons)
    exact ⟨fun hm => by refine o_EA (List.mem_map.mp hm) fun p hp e => ?_; exact h2 p hp e, h.nd⟩
  · rcases List.mem_cons.mp hp with rfl | hp
    · exact h1
    · exact h.fr p hp
  · by_cases e : b = a
    · subst e; (wide_line using GH.set_self; wide_open with lookup_hd); rfl
    · (wide_line using GH.set_ne _ _ e; wide_open with lookup_tl e); exact h.at' b
theorem St.upd {a : Addr} {o o' : GO} (h : St ((a, o) :: M) F G) : St ((a, o') :: M) F (G.set a o') := by
  refine ⟨h.nd, fun p hp => ?_, fun b => ?_⟩
  · rcases List.mem_cons.mp hp with rfl | hp
    · exact h.fr (a, o) (by simp)
    · exact h.fr p (by simp [hp])
  · by_cases e : b = a
    · subst e; (wide_line using GH.set_self; wide_open with lookup_hd); rfl
    · (wide_line using GH.set_ne _ _ e; wide_line using lookup_tl e; wide_line using h.at' b; wide_open with lookup_tl e)
theorem St.frz {a : Addr} {o o' : GO} (h : St ((a, o) :: M) F G) : F a = none ∧ St M (F.set a o') (G.set a o') := by
  have hn := h.nd
  rw [List.map_cons, List.nodup_cons] at hn
  have hne : ∀ p ∈ M, p.1 ≠ a := fun p hp e => hn.1 (List.mem_map.mpr (i_EA p hp e))
  refine ⟨h.fr (a, o) (by simp), hn.2, fun p hp => by wide_open with GH.set_ne _ _ (hne p hp); exact h.fr p (by simp [hp]), fun b => ?_⟩
  by_cases e : b = a
  · subst e; (wide_line using GH.set_self; wide_line using GH.set_self; wide_open with lookup_none hne); rfl
  · (wide_line using GH.set_ne _ _ e; wide_line using GH.set_ne _ _ e; wide_line using h.at' b; wide_open with lookup_tl e)
theorem St.swap {p q : Addr × GO} (h : St (p :: q :: M) F G) : St (q :: p :: M) F G := by
  have hn := h.nd
  simp only [List.map_cons, List.nodup_cons, List.mem_cons, not_or] at hn
  refine ⟨?_, fun x hx => h.fr x (by rcases List.mem_cons.mp hx with rfl | hx; · simp
                                     · rcases List.mem_cons.mp hx with rfl | hx <;> simp [*]), fun b => ?_⟩
  · simp only [List.map_cons, List.nodup_cons, List.mem_cons, not_or]
    exact (i_AA ⟨fun e => hn.1.1 e.symm, hn.2.1⟩ hn.1.2 hn.2.2)
  · wide_open with h.at' b
    by_cases e : b = p.1
    · have hq : b ≠ q.1 := fun e2 => hn.1.1 (e ▸ e2)
      subst e
      (wide_line using (show p = (p.1, p.2) from rfl); wide_line using lookup_hd; wide_line using (show q = (q.1, q.2) from rfl); wide_line using lookup_tl hq; wide_open with lookup_hd)
    · (wide_line using (show p = (p.1, p.2) from rfl); wide_open with lookup_tl e)
      by_cases e2 : b = q.1
      · subst e2; (wide_line using (show q = (q.1, q.2) from rfl); wide_line using lookup_hd; wide_open with lookup_hd)
      · (wide_line using (show q = (q.1, q.2) from rfl); wide_line using lookup_tl e2; wide_line using lookup_tl e2; wide_open with lookup_tl e)
theorem St.call {f : Value} {args : List Value} (h : St M F G) (hc : CallC W n f args F fun v F' => ∀ G', St M F' G' → K v G') : CallC W n f args G K := by
  intro A fv vs hA hf hv H s D R
  have mem_lk : ∀ {a : Addr} {o : GO}, M.lookup a = some o → G a = some o := fun {a o} e => by (wide_line using h.at' a; wide_open with e); rfl
  let N : GH := fun a => M.lookup a
  have eN : ∀ F', (∀ a g, F' a = some g → N a = none) → GH.un (GH.un H N) F' = GH.un H (fun a => (M.lookup a).or (F' a)) := fun F' hF => by
    funext a
    simp only [GH.un]
    cases q : F' a with
    | some g => have q2 : M.lookup a = none := hF a g q; wide_open with q2; rfl
    | none =>
      refine (?_ : (match N a with | some g => some g | none => H a) = _)
      refine (?_ : (match M.lookup a with | some g => some g | none => H a) = _)
      cases M.lookup a <;> rfl
  have FN : ∀ a g, F a = some g → N a = none := fun a g e => by
    cases q : M.lookup a with
    | none => exact q
    | some o => have := h.fr _ (lookup_in q); wide_line with e using this
  have eG : (fun a => (M.lookup a).or (F a)) = G := funext fun a => (h.at' a).symm
  have D2 : Disj (GH.un H N) F := fun a ha => by
    obtain ⟨g, hg⟩ := Option.isSome_iff_exists.mp ha
    wide_open with GH.un_left (FN a g hg)
    exact D a (by wide_open with h.sub _ _ hg; rfl)
  refine codeAny_mono (hc A fv vs hA hf hv (GH.un H N) s D2 (by (wide_line using eN F FN; wide_open with eG); exact R)) fun r s' q => ?_
  rcases r with e | (_ | _ | _ | v)
  · exact q
  · exact q
  · exact q
  · exact q
  · refine o_EAA q fun F' D' R' k => ?_; try clear q
    have FN' : ∀ a g, F' a = some g → N a = none := fun a g e => by
      have := D' a (by wide_open with e; rfl)
      cases q : N a with
      | none => rfl
      | some o => wide_line with GH.un_right q using this
    refine (i_EAA (fun a => (M.lookup a).or (F' a)) (fun a ha => ?_) (by rw [eN F' FN'] at R'; exact R') (k _ ⟨h.nd, fun p hp => ?_, fun a => rfl⟩))
    · cases q : M.lookup a with
      | some o => exact D a (by wide_open with mem_lk q; rfl)
      | none =>
        have ha : ((M.lookup a).or (F' a)).isSome = true := ha
        rw [q] at ha
        have := D' a ha
        rwa [GH.un_left (show N a = none from q)] at this
    · cases q : F' p.1 with
      | none => rfl
      | some g =>
        have h0 : M.lookup p.1 = none := FN' _ _ q
        exact absurd rfl (lookup_no h0 p hp)
end
section
open PySem PySem.W PySem.Calls PyProof.Rows
variable {W : Wd} {n : Nat} {F G : GH} {K : KV} {cs : List Addr} {M : List (Addr × GO)} {pl P : Addr}
structure Fam (S : GH → GH → Prop) : Prop where
  sub : ∀ {F G}, S F G → Sub F G
  new : ∀ {F G a o}, S F G → G a = none → F a = none ∧ S (F.set a o) (G.set a o)
theorem famS : Fam (St M) := ⟨St.sub, St.new⟩
noncomputable def PSt (pl : Addr) (M : List (Addr × GO)) (F G : GH) : Prop := ∃ ys : List Int, (∀ y ∈ ys, 0 ≤ y) ∧ St ((pl, .list (ys.map vInt)) :: M) F G
theorem famP : Fam (PSt pl M) := ⟨fun ⟨_, _, h⟩ => h.sub, fun {F G a o} h ha => by
  refine o_EA h fun ys h0 h => ?_
  obtain ⟨h1, h2⟩ := h.new (o := o) ha
  exact (i_AEA h1 ys h0 h2)⟩
theorem PSt.sub (h : PSt pl M F G) : Sub F G := famP.sub h
theorem PSt.newm {a : Addr} {o : GO} (h : PSt pl M F G) (ha : G a = none) : PSt pl ((a, o) :: M) F (G.set a o) := let ⟨ys, h0, h⟩ := h; (i_EA ys h0 ((h.newm ha).swap))
theorem PSt.hd {a : Addr} {o : GO} (h : PSt pl ((a, o) :: M) F G) : G a = some o := let ⟨_, _, h⟩ := h; h.hd2
theorem PSt.hd2 {a : Addr} {p : Addr × GO} {o : GO} (h : PSt pl (p :: (a, o) :: M) F G) : G a = some o := by
  refine o_EA h fun z9 z9 h => ?_
  have hn := h.nd
  simp only [List.map_cons, List.nodup_cons, List.mem_cons, not_or] at hn
  have e := (h.swap.frz (o' := p.2)).2.hd2
  rwa [GH.set_ne _ _ (fun e2 => hn.2.1.1 e2.symm)] at e
theorem PSt.upd {a : Addr} {o o' : GO} (h : PSt pl ((a, o) :: M) F G) : PSt pl ((a, o') :: M) F (G.set a o') := let ⟨ys, h0, h⟩ := h; (i_EA ys h0 h.swap.upd.swap)
theorem PSt.frz {a : Addr} {o o' : GO} (h : PSt pl ((a, o) :: M) F G) : F a = none ∧ PSt pl M (F.set a o') (G.set a o') := by
  refine o_EA h fun ys h0 h => ?_
  obtain ⟨h1, h2⟩ := h.swap.frz (o' := o')
  exact (i_AEA h1 ys h0 h2)
theorem Fam.mk_ {S : GH → GH → Prop} (hS : Fam S) {o : GO} (h : S F G) (k : ∀ a F' G', Sub F F' → F a = none → F' a = some o → S F' G' → K (.ref a) G') : newG o G K :=
  fun a ha => let ⟨h1, h2⟩ := hS.new h ha; k a _ _ (sub_set h1) h1 (GH.set_self _ _ _) h2
theorem take_ (Fa : Facts W) {xs : List Int} {m : Nat} (hp : G pl = some (.list (xs.map vInt))) (hx : ∀ x ∈ xs, 0 ≤ x) (hm : 1 ≤ m ∧ m ≤ 1000)
    (k : ∀ (d : Nat) (ys : List Int), d < m → (∀ y ∈ ys, 0 ≤ y) → K (.int d 0) (G.set pl (.list (ys.map vInt)))) : CallC W (n + 1) (.ref a__law_take) [.ref pl, .int m 0] G K := by
  refine fnC Fa Fa.f__law_take rfl rfl fun cd => ?_
  dsimp only [sp__law_take, b__law_take]
  walk_at "open_"
  refine ⟨trivial, len_list_ok hp ?_⟩
  refine cmpI_ok rfl ?_
  cases xs with
  | nil =>
    wide_open with decide_eq_true (by simp)
    walk_at "open_"
    refine ret_same ?_
    have := k 0 [] hm.1 (fun y hy => by cases hy)
    rwa [GH.set_same _ hp] at this
  | cons x xs =>
    have hx0 := hx x List.mem_cons_self
    wide_open with decide_eq_false (by simp; lia)
    walk_at "open_"
    refine sub_list hp rfl ?_
    refine mod_ok (by lia) ?_
    walk_at "open_"
    refine sub_list hp rfl ?_
    refine div_ok (by lia) (PyProof.noPylong_small (by lia)) ?_
    unfold setiG
    dsimp only
    wide_open with hp
    refine (i_EA _ (by unfold setIdx; rw [if_pos ⟨by decide, by simp⟩]) ?_)
    obtain ⟨q, hq⟩ := Int.eq_ofNat_of_zero_le hx0
    subst hq
    have hmod : ((q : Int)).fmod (m : Int) = ((q % m : Nat) : Int) := by wide_open with Int.fmod_eq_emod_of_nonneg _ (by lia); rfl
    have hdiv : ((q : Int)).fdiv (m : Int) = ((q / m : Nat) : Int) := by wide_open with Int.fdiv_eq_ediv_of_nonneg _ (by lia); rfl
    have e0 : List.set ((((q : Int)) :: xs).map vInt) (Int.toNat 0) (.int (((q : Int)).fdiv (m : Int)) 0) = ((((q / m : Nat) : Int)) :: xs).map vInt := by wide_open with hdiv; rfl
    wide_open with e0
    wide_open with hmod
    have h1 : (G.set pl (.list (((((q / m : Nat) : Int)) :: xs).map vInt))) pl = some (.list (((((q / m : Nat) : Int)) :: xs).map vInt)) := GH.set_self _ _ _
    walk_at "open_"
    refine sub_list h1 rfl ?_
    have hd : q % m < m := Nat.mod_lt _ hm.1
    refine cmp_if (p := ((q / m : Nat) : Int) = 0) rfl (fun h0 => ?_) (fun h0 => ?_)
    · walk_at "open_"
      refine (i_EAA _ (meth_pop Fa h1) trivial (pop0_ok h1 ?_))
      wide_open with GH.set_set
      exact ret_same (k (q % m) xs hd fun y hy => hx y (List.mem_cons_of_mem _ hy))
    · walk_at "open_"
      refine ret_same (k (q % m) _ hd fun y hy => ?_)
      rcases List.mem_cons.mp hy with rfl | hy
      · exact Int.natCast_nonneg _
      · exact hx y (List.mem_cons_of_mem _ hy)
theorem takeS (Fa : Facts W) (m : Nat) (h : PSt pl M F G) (k : ∀ (d : Nat) G', d < m → PSt pl M F G' → K (.int d 0) G') (hm : 1 ≤ m ∧ m ≤ 1000 := by decide) : CallC W (n + 1) (.ref a__law_take) [.ref pl, .int m 0] G K :=
  let ⟨_, h0, h⟩ := h; take_ Fa h.hd h0 hm fun d ys hd hy => k d _ hd (i_EA ys hy h.upd)
theorem All2.right {α β : Type} {R : α → β → Prop} {Q : β → Prop} {as : List α} {bs : List β} (h : All2 R as bs) (f : ∀ a b, R a b → Q b) : ∀ b ∈ bs, Q b := by
  induction h with
  | nil => intro b hb; cases hb
  | cons x _ ih =>
    intro b hb
    rcases List.mem_cons.mp hb with rfl | hb
    · exact f _ _ x
    · exact ih b hb
theorem comp_fam {S : GH → GH → Prop} (hS : Fam S) {α : Type} {chk : GH → Prop} {el : Value → GH → (Option Value → GH → Prop) → Prop} {xs : List Value} (R : Value → GH → Value → α → Prop) (mono : ∀ {x F F' v d}, R x F v d → Sub F F' → R x F' v d) (h : S F G)
    (hc : ∀ F' G', Sub F F' → S F' G' → chk G') (he : ∀ x ∈ xs, ∀ F' G' Kc, Sub F F' → S F' G' → (∀ F'' G'' v d, Sub F' F'' → S F'' G'' → R x F'' v d → Kc (some v) G'') → el x G' Kc)
    (k : ∀ a F' G' ps, Sub F F' → F a = none → S F' G' → F' a = some (.list (ps.map (·.1))) → All2 (fun x (p : Value × α) => R x F' p.1 p.2) xs ps → K (.ref a) G') : compG chk el xs [] G K := by
  refine comp_inv (fun ys acc G' => ∃ F' dn ps, xs = dn ++ ys ∧ acc = ps.map (·.1) ∧ Sub F F' ∧ S F' G' ∧ All2 (fun x (p : Value × α) => R x F' p.1 p.2) dn ps) ?_ ?_ ?_ _ _ _ (i_EEEAAAA F ([]) ([]) rfl rfl (Sub.refl _) h .nil)
  · intro ys acc G' hx9; refine o_EEEAAAA hx9 fun F' dn ps z9 z9 s h' z9 => ?_; try clear hx9; exact hc _ _ s h'
  · intro acc G' hx9; refine o_EEEAAAA hx9 fun F' dn ps e e95 s h' hA => ?_; try clear hx9; subst e95
    rw [List.append_nil] at e
    subst e
    exact hS.mk_ h' fun a F2 G2 s2 h0 ha h2 => k a F2 G2 ps (s.trans s2) (none_of_sub s h0) h2 ha (hA.imp fun z9 z9 x => mono x s2)
  · intro x ys acc G' Kc nxt hx9; refine o_EEEAAAA hx9 fun F' dn ps e e95 s h' hA => ?_; try clear hx9; subst e95
    refine he x (by wide_open with e; simp) F' G' Kc s h' fun F2 G2 v d s2 h2 hR => nxt (some v) G2 (i_EEEAAAA F2 (dn ++ [x]) (ps ++ [(v, d)]) (by wide_open with e; simp) (by simp) (s.trans s2) h2 ((hA.imp fun z9 z9 x => mono x s2).snoc hR))
/-! dicts of ints -/
noncomputable def DictR (F : GH) (d : Addr) (es : List (Int × Int)) : Prop := ∃ ep, F d = some (.dict (dictI es) ep)
theorem DictR.sub {F' : GH} {d es} (x : DictR F d es) (h : Sub F F') : DictR F' d es := let ⟨ep, e⟩ := x; ⟨ep, h _ _ e⟩
theorem foldP_new : ∀ (l acc : List (Int × Value)), ((acc ++ l).map (·.1)).Nodup → foldP acc l = acc ++ l
  | [], acc, _ => by simp [foldP]
  | p :: l, acc, h => by
    have hk : acc.any (fun kv => kv.1 = p.1) = false := by
      wide_open with List.any_eq_false
      intro q hq
      simp only [List.map_append, List.map_cons, List.nodup_append, List.mem_map, List.mem_cons] at h
      simpa using h.2.2 q.1 (i_EA q hq rfl) p.1 (.inl rfl)
    refine (?_ : foldP (put acc p.1 p.2) l = _)
    have e : put acc p.1 p.2 = acc ++ [p] := by unfold put; wide_open with hk; rfl
    (wide_line using e; wide_open with foldP_new l (acc ++ [p]) (by simpa using h))
    simp
theorem dictI_keys (es : List (Int × Int)) : (dictI es).map (·.1) = es.map (·.1) := by unfold dictI; wide_open with List.map_map; rfl
theorem dictI_fold {es : List (Int × Int)} (h : (es.map (·.1)).Nodup) : foldP [] (dictI es) = dictI es := foldP_new _ [] (by (wide_line using List.nil_append; wide_open with dictI_keys); exact h)
noncomputable def PairR (x : Value) (F : GH) (v : Value) (q : Int × Int) : Prop := x = .int q.1 0 ∧ ∃ t, v = .ref t ∧ PairAt F t (q.1, .int q.2 0)
theorem PairR.sub {x : Value} {F F' : GH} {v : Value} {q : Int × Int} (h : PairR x F v q) (s : Sub F F') : PairR x F' v q := ⟨h.1, let ⟨t, e, p⟩ := h.2; (i_EA t e (s _ _ p))⟩
set_option tactic.hygienic true in
theorem pairs_of {ps : List (Value × (Int × Int))} {xs : List Value} (h : All2 (fun x (p : Value × (Int × Int)) => PairR x F p.1 p.2) xs ps) :
    ∃ ts, ps.map (·.1) = refs ts ∧ All2 (PairAt F) ts (dictI (ps.map (·.2))) ∧ xs = (ps.map fun p => p.2.1).map vInt := by
  induction h with
  | nil => exact (i_EAA ([]) rfl .nil rfl)
  | cons h1 _ ih =>
    rename_i x p xs ps
    refine o_EAA ih fun ts e1 e2 e3 => ?_; try clear ih
    refine o_AEA h1 fun e4 t e5 e6 => ?_; try clear h1
    exact (i_EAA (t :: ts) (by simp [e1, e5, refs]) (.cons e6 e2) (by (wide_line using e4; wide_open with e3); rfl))
theorem map_vInt_inj : ∀ {a b : List Int}, a.map vInt = b.map vInt → a = b
  | [], [], _ => rfl
  | x :: a, y :: b, h => by
    simp only [List.map_cons, List.cons.injEq, vInt, Value.int.injEq] at h
    (wide_line using h.1.1; wide_open with map_vInt_inj h.2)
theorem range_vInt (m : Nat) : ((List.range m).map fun (j : Nat) => Value.int (j : Int) 0) = ((List.range m).map fun (j : Nat) => (j : Int)).map vInt := by wide_open with List.map_map; rfl
structure Dict6 (F : GH) (d : Addr) (es : List (Int × Int)) (b : Nat) : Prop where
  at' : DictR F d es
  keys : es.map (·.1) = [0, 1, 2, 3, 4, 5]
  vals : ∀ q ∈ es, 0 ≤ q.2 ∧ q.2 < b
theorem Dict6.sub {F' : GH} {d es b} (x : Dict6 F d es b) (h : Sub F F') : Dict6 F' d es b := ⟨x.at'.sub h, x.keys, x.vals⟩
theorem dict6_ (Fa : Facts W) {c0 : Addr} {b : Nat} (hb : 1 ≤ b ∧ b ≤ 1000) (h : PSt pl M F G) (hc : F c0 = some (.cell (some (.ref pl)))) (k : ∀ d es F' G', Sub F F' → PSt pl M F' G' → Dict6 F' d es b → K (.ref d) G') :
    keepG W (.type "range") G ∧ CallT W (n + 1) (.type "range") [.int 6 0] G fun iv G1 => iterG iv G1 fun xs chk => small xs.length ∧ compG chk (fun x G2 k => optG (getP [c0] [] (.cel 0) G2) fun v => keepG W (.ref a__law_take) G2 ∧ CallT W (n + 1) (.ref a__law_take) [v, .int (b : Int) 0] G2 fun v1 G3 => newG (.tup [x, v1]) G3 fun v G5 => k (some v) G5) xs [] G1 fun v G1 =>
      keepG W (.type "dict") G1 ∧ CallT W (n + 1) (.type "dict") [v] G1 K := by
  refine ⟨trivial, range1_ok (famP.mk_ h fun rg F1 G1 s1 z9 hr h1 => ?_)⟩
  refine iter_range (m := 6) (h1.sub _ _ hr) (by decide) ⟨by simp [small], ?_⟩
  refine comp_fam famP (fun x F v (q : Int × Int) => PairR x F v q ∧ 0 ≤ q.2 ∧ q.2 < b) (fun {x F F' v d} h s => ⟨h.1.sub s, h.2⟩) h1 (fun z9 z9 z9 z9 => trivial) (fun x hx F2 G2 Kc s2 h2 kc => ?_) (fun a F2 G2 ps s2 z9 h2 ha hA => ?_)
  · refine o_EA (List.mem_map.mp hx) fun j hj e93 => ?_; subst e93
    refine cell_ok (h2.sub _ _ (s2 _ _ (s1 _ _ hc))) ?_
    refine ⟨keep_fn Fa.k__law_take, CallC.T (takeS Fa b h2 (hm := hb) fun d G3 hd h3 => famP.mk_ h3 fun t F4 G4 s4 z9 ht h4 => ?_)⟩
    exact kc F4 G4 _ ((j : Int), (d : Int)) s4 h4 (i_AA (i_AEA rfl t rfl ht) (by lia) (by refine (?_ : (d : Int) < b); lia))
  · refine o_EAA (pairs_of (hA.imp fun z9 z9 x => x.1)) fun ts e1 e2 e3 => ?_
    rw [range_vInt] at e3
    have e3 := map_vInt_inj e3
    have hk : (ps.map (·.2)).map (·.1) = [0, 1, 2, 3, 4, 5] := by wide_open with List.map_map; exact e3.symm
    rw [e1] at ha
    refine ⟨trivial, dict_pairs_ok Fa.O (h2.sub _ _ ha) (e2.imp fun _ _ (x : PairAt F2 _ _) => h2.sub _ _ x) (by have := congrArg List.length hk; simp [dictI] at this ⊢; lia) fun ep => ?_⟩
    wide_open with dictI_fold (by wide_open with hk; decide)
    refine famP.mk_ h2 fun d F3 G3 s3 z9 hd h3 => k d (ps.map (·.2)) F3 G3 (s1.trans (s2.trans s3)) h3 ⟨⟨ep, hd⟩, hk, fun q hq => ?_⟩
    refine o_EA (List.mem_map.mp hq) fun p hp e93 => ?_; subst e93
    exact hA.right (fun z9 z9 x => x.2) p hp
end
section
open PySem PySem.W PySem.Calls PyProof.Rows
variable {W : Wd} {n : Nat} {F G : GH} {K : KV} {cs : List Addr} {M : List (Addr × GO)} {pl P : Addr}
theorem gdef_ (H2 : Facts2 W P) (h : PSt pl M F G) (k : ∀ d es F' G', Sub F F' → PSt pl M F' G' → Dict6 F' d es 4 → K (.ref d) G') : CallC W (n + 2) (.ref a__law_gdef) [.ref pl] G K := by
  refine fnCc H2.F H2.f__law_gdef rfl (by simp [sp__law_gdef]) fun cd cs hl hn hf => ?_
  obtain ⟨c0, rfl⟩ := one_cell hl
  obtain ⟨h0, h1⟩ := famP.new (o := .cell (some (.ref pl))) h (hf c0 (by simp))
  dsimp only [sp__law_gdef, b__law_gdef]
  walk_at "open_"
  exact dict6_ (b := 4) H2.F (by decide) h1 (GH.set_self _ _ _) fun d es F' G' s h' hd => ret_same (k d es F' G' ((sub_set h0).trans s) h' hd)
theorem pick6_flag {d : Nat} (hd : d < 6) : ∃ fl : Nat, fl < 16 ∧ pickI [Value.int 0 0, .int 8 0, .int 2 0, .int 4 0, .int 12 0, .int 14 0] (d : Int) = some (.int fl 0) := by
  rcases d with _ | _ | _ | _ | _ | _ | d
  · exact (i_EA 0 (by decide) rfl)
  · exact (i_EA 8 (by decide) rfl)
  · exact (i_EA 2 (by decide) rfl)
  · exact (i_EA 4 (by decide) rfl)
  · exact (i_EA 12 (by decide) rfl)
  · exact (i_EA 14 (by decide) rfl)
  · exact absurd hd (by simp)
theorem lookup_ (H2 : Facts2 W P) (h : PSt pl M F G) (k : ∀ l (fl : Nat) F' G', Sub F F' → PSt pl M F' G' → fl < 16 → LookAt F' l "context" fl 0 → K (.ref l) G') : CallC W (n + 3) (.ref a__law_lookup) [.ref pl] G K := by
  have Fa := H2.F
  refine fnC Fa H2.f__law_lookup rfl rfl fun cd => ?_
  dsimp only [sp__law_lookup, b__law_lookup]
  walk_at "open_"
  refine famP.mk_ h fun t F1 G1 s1 z9 ht h1 => ?_
  refine ⟨keep_fn Fa.k__law_take, CallC.T (takeS Fa 6 h1 fun d G2 hd h2 => ?_)⟩
  have hv := pick6_flag hd
  refine o_EA hv fun fl hfl hv => ?_
  refine sub_tup (h2.sub _ _ ht) hv ?_
  refine famP.mk_ h2 fun t2 F3 G3 s3 z9 z9 h3 => ?_
  refine ⟨keep_fn Fa.k_Lookup, CallC.T (new_Lookup Fa (famP.mk_ h3 fun l F4 G4 s4 z9 hl h4 => ret_same (k l fl F4 G4 (s1.trans (s3.trans s4)) h4 hfl ⟨_, hl⟩)))⟩
theorem PSt.frz0 {a : Addr} {o : GO} (h : PSt pl ((a, o) :: M) F G) : F a = none ∧ PSt pl M (F.set a o) G := by
  obtain ⟨h1, h2⟩ := h.frz (o' := o)
  rw [GH.set_same _ h.hd] at h2
  exact ⟨h1, h2⟩
theorem St.frz0 {a : Addr} {o : GO} (h : St ((a, o) :: M) F G) : F a = none ∧ St M (F.set a o) G := by
  obtain ⟨h1, h2⟩ := h.frz (o' := o)
  rw [GH.set_same _ h.hd] at h2
  exact ⟨h1, h2⟩
structure InfOK (i : Nat) (d : Inf) : Prop where
  g0 : 0 ≤ d.glyph
  g1 : d.glyph < 6
  cl : d.cluster = i
  msk : d.mask = 1 ∨ d.mask = 3 ∨ d.mask = 2
  un : d.uns = false
structure BufAt (F : GH) (b : Addr) (as : List Addr) (ds : List Inf) : Prop where
  ex : ∃ r, F b = some (bufO r) ∧ F r = some (.list (refs as))
  infos : All2 (fun a d => F a = some (infoO d)) as ds
  nd : as.Nodup
theorem BufAt.sub {F' : GH} {b as ds} (x : BufAt F b as ds) (h : Sub F F') : BufAt F' b as ds := ⟨let ⟨r, e1, e2⟩ := x.ex; (i_EA r (h _ _ e1) (h _ _ e2)), x.infos.imp fun z9 z9 e => h _ _ e, x.nd⟩
theorem not_in {α : Type} {f : α → GO} {as : List Addr} {ds : List α} {a : Addr} (h : All2 (fun a d => F a = some (f d)) as ds) (ha : F a = none) : a ∉ as := by
  induction h with
  | nil => intro h; cases h
  | cons x _ ih =>
    intro hm
    rcases List.mem_cons.mp hm with rfl | hm
    · wide_line with x using ha
    · exact ih hm
theorem snoc_get {α : Type} {l : List α} {x y : α} {i : Nat} (h : (l ++ [x])[i]? = some y) : l[i]? = some y ∨ (i = l.length ∧ y = x) := by
  rcases Nat.lt_or_ge i l.length with z | z
  · rw [List.getElem?_append_left z] at h; exact .inl h
  · have hl := (List.getElem?_eq_some_iff.mp h).1
    have : i = l.length := by simp at hl; lia
    subst this
    rw [List.getElem?_append_right (Nat.le_refl _), Nat.sub_self] at h
    exact .inr ⟨rfl, (Option.some.inj h).symm⟩
theorem nodup_snoc {as : List Addr} {a : Addr} (h : as.Nodup) (ha : a ∉ as) : (as ++ [a]).Nodup := List.nodup_append.mpr (i_AA h (by simp) (fun x hx y hy => by wide_open with List.mem_singleton.mp hy; rintro rfl; exact ha hx))
theorem seta_info (Fa : Facts W) {a : Addr} {i : Nat} {d d' : Inf} {v : Value} {K : GH → Prop} (h : G a = some (infoO d)) (hi : k_Info.attrs.contains i = true) (he : ∀ fs, infoO d = .inst a_Info fs → GO.inst a_Info (setF fs i v) = infoO d') (k : K (G.set a (infoO d'))) : setaG W (.ref a) i v G K := by
  refine seta_ h Fa.c_Info hi (Nat.le_of_ble_eq_true rfl) ?_
  wide_open with he _ rfl; exact k
theorem drop_range {m j : Nat} {x : Value} {xs : List Value} (e : x :: xs = ((List.range m).map fun (j : Nat) => Value.int (j : Int) 0).drop j) : j < m ∧ x = .int (j : Int) 0 ∧ xs = ((List.range m).map fun (j : Nat) => Value.int (j : Int) 0).drop (j + 1) := by
  have hj : j < m := by
    rcases Nat.lt_or_ge j m with h | h
    · exact h
    · wide_line with List.drop_eq_nil_of_le (by simpa using h) using e
  rw [List.drop_eq_getElem_cons (by simpa using hj)] at e
  simp only [List.cons.injEq] at e
  exact (i_AA hj (by wide_open with e.1; simp) e.2)
theorem drop_range0 {m j : Nat} (hj : j ≤ m) (e : [] = ((List.range m).map fun (j : Nat) => Value.int (j : Int) 0).drop j) : j = m := by
  have := List.drop_eq_nil_iff.mp e.symm
  simp at this; lia
theorem pick6_kind {d1 : Nat} (hd : d1 < 6) : ∃ kd : Str, pickI [Value.str "" 0, .str "zwj" 0, .str "" 0, .str "zwnj" 0, .str "" 0, .str "hidden" 0] (d1 : Int) = some (.str kd 0) := by
  rcases d1 with _ | _ | _ | _ | _ | _ | d
  · exact ⟨_, rfl⟩
  · exact ⟨_, rfl⟩
  · exact ⟨_, rfl⟩
  · exact ⟨_, rfl⟩
  · exact ⟨_, rfl⟩
  · exact ⟨_, rfl⟩
  · exact absurd hd (by simp)
theorem pick3_mark {d2 : Nat} (hd : d2 < 3) : ∃ mk : Int, (mk = 1 ∨ mk = 3 ∨ mk = 2) ∧ pickI [Value.int 1 0, .int 3 0, .int 2 0] (d2 : Int) = some (.int mk 0) := by
  rcases d2 with _ | _ | _ | d
  · exact (i_EA _ (.inl rfl) rfl)
  · exact (i_EA _ (.inr (.inl rfl)) rfl)
  · exact (i_EA _ (.inr (.inr rfl)) rfl)
  · exact absurd hd (by simp)
theorem buffer_ (H2 : Facts2 W P) {m : Nat} (hm : m ≤ 100) (h : PSt pl M F G) (k : ∀ b as ds F' G', Sub F F' → PSt pl M F' G' → BufAt F' b as ds → ds.length = m → (∀ i d, ds[i]? = some d → InfOK i d) → K (.ref b) G') : CallC W (n + 3) (.ref a__law_buffer) [.ref pl, .int m 0] G K := by
  have Fa := H2.F
  refine fnC Fa H2.f__law_buffer rfl rfl fun cd => ?_
  dsimp only [sp__law_buffer, b__law_buffer]
  walk_at "open_"
  intro ra hra
  have h1 := h.newm (o := .list []) hra
  generalize G.set ra (.list []) = G1 at *
  walk_at "open_"
  refine ⟨trivial, range1_ok (famP.mk_ h1 fun rg F2 G2 s2 z9 hr h2 => ?_)⟩
  refine iter_range (h2.sub _ _ hr) (by lia) ?_
  refine for_inv (fun ys mm G' => ∃ (j : Nat) (F' : GH) (as : List Addr) (ds : List Inf) (x y : Option Value), ys = ((List.range m).map fun (j : Nat) => Value.int (j : Int) 0).drop j ∧ j ≤ m ∧ mm = [some (.ref pl), some (.int m 0), some (.ref ra), x, y] ∧
    Sub F F' ∧ PSt pl ((ra, .list (refs as)) :: M) F' G' ∧ All2 (fun a d => F' a = some (infoO d)) as ds ∧ as.Nodup ∧ ds.length = j ∧ (∀ i d, ds[i]? = some d → InfOK i d)) (fun z9 z9 z9 z9 => trivial) ?_ ?_ _ _ _
    (i_EEEEEEAAAAAAAA 0 F2 ([]) ([]) none none rfl (Nat.zero_le _) rfl s2 h2 .nil .nil rfl (fun i d e => by simp at e))
  · intro mm G' hx9; refine o_EEEEEEAAAAAAAA hx9 fun j F3 as ds x y e hj e99 s3 h3 hA hnd hl hok => ?_; try clear hx9; subst e99
    obtain rfl := drop_range0 hj e
    walk_at "open_"
    obtain ⟨f0, h4⟩ := h3.frz0
    have s4 := sub_set (o := .list (refs as)) f0
    refine ⟨keep_fn Fa.k_Buffer, CallC.T (new_Buffer Fa (famP.mk_ h4 fun b F5 G5 s5 z9 hb h5 => ret_same (k b as ds F5 G5 (s3.trans (s4.trans s5)) h5 ⟨(i_EA ra hb (s5 _ _ (GH.set_self _ _ _))), hA.imp fun z9 z9 e => s5 _ _ (s4 _ _ e), hnd⟩ hl hok)))⟩
  · intro xv ys mm G' Kn nxt nxc nxr hx9; refine o_EEEEEEAAAAAAAA hx9 fun j F3 as ds x y e hj e99 s3 h3 hA hnd hl hok => ?_; try clear hx9; subst e99
    refine o_AA (drop_range e) fun hjm e92 e93 => ?_; subst e92; subst e93
    walk_at "open_"
    refine add_ok ?_
    refine ⟨keep_fn Fa.k__law_take, CallC.T (takeS Fa 6 h3 fun g G4 hg h4 => ?_)⟩
    refine ⟨keep_fn Fa.k_Info, CallC.T (new_Info Fa ?_)⟩
    intro ia hia
    have h5 := h4.newm (o := infoO ⟨65 + (j : Int), g, j, 0, false, ""⟩) hia
    have hin := not_in hA (none_of_sub h4.sub hia)
    generalize G4.set ia (infoO ⟨65 + (j : Int), g, j, 0, false, ""⟩) = G5 at *
    walk_at "open_"
    refine famP.mk_ h5 fun t1 F6 G6 s6 z9 ht1 h6 => ?_
    refine ⟨keep_fn Fa.k__law_take, CallC.T (takeS Fa 6 h6 fun d1 G7 hd1 h7 => ?_)⟩
    have hv := pick6_kind hd1
    obtain ⟨kd, hv⟩ := hv
    refine sub_tup (h7.sub _ _ ht1) hv ?_
    refine seta_info Fa (d' := ⟨65 + (j : Int), g, j, 0, false, kd⟩) h7.hd rfl (fun fs e => by wide_open using e; rfl) ?_
    have h8 := h7.upd (o' := infoO ⟨65 + (j : Int), g, j, 0, false, kd⟩)
    generalize G7.set ia (infoO ⟨65 + (j : Int), g, j, 0, false, kd⟩) = G8 at *
    walk_at "open_"
    refine famP.mk_ h8 fun t2 F9 G9 s9 z9 ht2 h9 => ?_
    refine ⟨keep_fn Fa.k__law_take, CallC.T (takeS Fa 3 h9 fun d2 G10 hd2 h10 => ?_)⟩
    have hv := pick3_mark hd2
    refine o_EA hv fun mk hmk hv => ?_
    refine sub_tup (h10.sub _ _ ht2) hv ?_
    refine seta_info Fa (d' := ⟨65 + (j : Int), g, j, mk, false, kd⟩) h10.hd rfl (fun fs e => by wide_open using e; rfl) ?_
    have h11 := h10.upd (o' := infoO ⟨65 + (j : Int), g, j, mk, false, kd⟩)
    generalize G10.set ia (infoO ⟨65 + (j : Int), g, j, mk, false, kd⟩) = G11 at *
    walk_at "open_"
    obtain ⟨f0, h12⟩ := h11.frz0
    have s12 := sub_set (o := infoO ⟨65 + (j : Int), g, j, mk, false, kd⟩) f0
    have hlen := hA.length
    refine (i_EAA _ (meth_append Fa h12.hd) trivial (append_ok h12.hd (by simp [small, refs]; lia) ?_))
    have h13 := h12.upd (o' := .list (refs as ++ [.ref ia]))
    have sA := s6.trans (s9.trans s12)
    refine nxt _ _ (i_EEEEEEAAAAAAAA (j + 1) _ (as ++ [ia]) (ds ++ [⟨65 + (j : Int), g, j, mk, false, kd⟩]) _ _ rfl hjm rfl (s3.trans sA) (by wide_open with (show refs (as ++ [ia]) = refs as ++ [.ref ia] from by simp [refs]); exact h13) ((hA.imp fun z9 z9 e => sA _ _ e).snoc (GH.set_self _ _ _)) (nodup_snoc hnd hin) (by simp [hl]) (fun i d e => ?_))
    rcases snoc_get e with e | ⟨rfl, rfl⟩
    · exact hok i d e
    · wide_open with hl
      exact ⟨Int.natCast_nonneg _, by refine (?_ : (g : Int) < 6); lia, rfl, hmk, rfl⟩
end
section
open PySem PySem.W PySem.Calls PyProof.Rows
variable {W : Wd} {n : Nat} {F G : GH} {K : KV} {cs : List Addr} {M : List (Addr × GO)} {pl P : Addr}
inductive Sp where
  | num (x : Int)
  | cov (ns : List Int)
noncomputable def Sp.isCov : Sp → Bool
  | .num _ => false
  | .cov _ => true
noncomputable def SpAt (F : GH) (v : Value) : Sp → Prop
  | .num x => v = .int x 0
  | .cov ns => ∃ u, v = .ref u ∧ F u = some (.list (ns.map vInt)) ∧ ns.length ≤ 10
theorem SpAt.sub {F' : GH} {v : Value} {sp : Sp} (x : SpAt F v sp) (h : Sub F F') : SpAt F' v sp := by
  cases sp with
  | num y => exact x
  | cov ns => refine o_EAA x fun u e h1 h2 => ?_; try clear x; exact (i_EAA u e (h _ _ h1) h2)
noncomputable def RowSp (F : GH) (t : Addr) (row : List Sp) : Prop := ∃ vs, F t = some (.tup vs) ∧ All2 (SpAt F) vs row
theorem RowSp.sub {F' : GH} {t row} (x : RowSp F t row) (h : Sub F F') : RowSp F' t row := by refine o_EA x fun vs e a => ?_; try clear x; exact (i_EA vs (h _ _ e) (a.imp fun z9 z9 z => z.sub h))
noncomputable def ActsAt (F : GH) (t : Addr) (avs : List (Nat × Nat)) : Prop := ∃ ts, F t = some (.tup (refs ts)) ∧ All2 (fun t (q : Nat × Nat) => F t = some (.tup [.int q.1 0, .int q.2 0])) ts avs
theorem ActsAt.sub {F' : GH} {t row} (x : ActsAt F t row) (h : Sub F F') : ActsAt F' t row := by refine o_EA x fun vs e a => ?_; try clear x; exact (i_EA vs (h _ _ e) (a.imp fun z9 z9 z => h _ _ z))
structure RuleD where
  back : List Sp
  inside : List Sp
  ahead : List Sp
  acts : List (Nat × Nat)
noncomputable def RuleAt (F : GH) (r : Addr) (d : RuleD) : Prop := ∃ b i a c, F r = some (.tup [.ref b, .ref i, .ref a, .ref c]) ∧ RowSp F b d.back ∧ RowSp F i d.inside ∧ RowSp F a d.ahead ∧ ActsAt F c d.acts
theorem RuleAt.sub {F' : GH} {t d} (x : RuleAt F t d) (h : Sub F F') : RuleAt F' t d := by refine o_EEEEAAAA x fun b i a c e h1 h2 h3 h4 => ?_; try clear x; exact (i_EEEEAAAA b i a c (h _ _ e) (h1.sub h) (h2.sub h) (h3.sub h) (h4.sub h))
noncomputable def OfForm (form : Int) (row : List Sp) : Prop := row.length ≤ 3 ∧ ∀ e ∈ row, e.isCov = decide (form = 3)
structure RuleOK (form : Int) (d : RuleD) : Prop where
  back : OfForm form d.back
  inside : OfForm form d.inside
  ahead : OfForm form d.ahead
  ne : d.inside ≠ []
  al : d.acts.length ≤ 2
  acts : ∀ q ∈ d.acts, q.1 < d.inside.length ∧ q.2 < 3
theorem All2.map_left {α β γ : Type} {R : α → γ → Prop} {as : List β} {f : β → α} {g : β → γ} : (∀ b ∈ as, R (f b) (g b)) → All2 R (as.map f) (as.map g) := by
  induction as with
  | nil => intro _; exact .nil
  | cons b bs ih => intro h; exact .cons (h b (by simp)) (ih fun c hc => h c (by simp [hc]))
theorem Fam.cells {S : GH → GH → Prop} (hS : Fam S) : ∀ {cs : List Addr} {vs : List Value} {F G : GH}, S F G → cs.Nodup → (∀ c ∈ cs, G c = none) → ∃ F', Sub F F' ∧ S F' (setCs G cs (vs.map some)) ∧ ∀ (i : Nat) c v, cs[i]? = some c → vs[i]? = some v → F' c = some (.cell (some v))
  | [], vs, F, G, h, _, _ => (i_EAA F (Sub.refl _) h (fun i c v e => by simp at e))
  | c :: cs, [], F, G, h, _, _ => (i_EAA F (Sub.refl _) h (fun i c v z9 e => by simp at e))
  | c :: cs, v :: vs, F, G, h, hn, hf => by
    refine o_EAA (hS.cells (vs := vs) h (List.nodup_cons.mp hn).2 fun d hd => hf d (List.mem_cons_of_mem _ hd)) fun F1 s1 h1 z1 => ?_
    obtain ⟨f0, h0⟩ := hS.new (o := .cell (some v)) h1 (a := c) (by wide_open with setCs_other (List.nodup_cons.mp hn).1; exact hf c List.mem_cons_self)
    have s0 := sub_set (o := .cell (some v)) f0
    refine (i_EAA _ (s1.trans s0) h0 (fun i c' v' e1 e2 => ?_))
    cases i with
    | zero => wide_open using e1; wide_open using e2; exact GH.set_self _ _ _
    | succ i => exact s0 _ _ (z1 i c' v' e1 e2)
theorem row_ (H2 : Facts2 W P) {form : Int} {m : Nat} (hm : m ≤ 3) (h : PSt pl M F G) (k : ∀ t row F' G', Sub F F' → PSt pl M F' G' → RowSp F' t row → row.length = m → OfForm form row → K (.ref t) G') : CallC W (n + 2) (.ref a__law_row) [.ref pl, .int form 0, .int m 0] G K := by
  have Fa := H2.F
  refine fnCc Fa H2.f__law_row rfl (by simp [sp__law_row]) fun cd cs hl hn hf => ?_
  refine o_EEA (two_cells hl hn) fun c0 c1 e93 hc => ?_; subst e93
  dsimp only [sp__law_row, b__law_row]
  refine o_EAA (famP.cells (vs := [.ref pl, .int form 0]) h hn hf) fun F0 s0 h0 hz => ?_
  have z0 := hz 0 c0 _ rfl rfl
  have z1 := hz 1 c1 _ rfl rfl
  clear hz hf
  walk_at "open_"
  have h0 : PSt pl M F0 (setCs G [c0, c1] [some (.ref pl), some (.int form 0)]) := h0
  generalize setCs G [c0, c1] [some (.ref pl), some (.int form 0)] = G0 at *
  refine cell_ok (h0.sub _ _ z1) ?_
  -- behind the comprehension
  have fin : ∀ a F' G' (ps : List (Value × Sp)), Sub F0 F' → PSt pl M F' G' → F' a = some (.list (ps.map (·.1))) → All2 (fun (_ : Value) (p : Value × Sp) => SpAt F' p.1 p.2 ∧ p.2.isCov = decide (form = 3)) ((List.range m).map fun (j : Nat) => Value.int (j : Int) 0) ps →
      CallT W (n + 1) (.type "tuple") [.ref a] G' fun v G' => bodyK K (.ret v) [some (.int m 0)] G' := fun a F' G' ps s h' ha hA => by
    have hl := hA.length
    simp at hl
    refine tup_of_list_ok (h'.sub _ _ ha) (famP.mk_ h' fun t F2 G2 s2 z9 ht h2 => ret_same (k t (ps.map (·.2)) F2 G2 (s0.trans (s.trans s2)) h2 (i_EA _ ht ?_) (by simp [← hl]) ⟨by simp [← hl]; exact hm, fun e he => ?_⟩))
    · exact All2.map_left fun p hp => (hA.right (Q := fun p => SpAt F' p.1 p.2) (fun z9 z9 x => x.1) p hp).sub s2
    · refine o_EA (List.mem_map.mp he) fun p hp e93 => ?_; subst e93
      exact hA.right (Q := fun p => p.2.isCov = decide (form = 3)) (fun z9 z9 x => x.2) p hp
  refine cmp_if (p := form = 3) rfl (fun h3 => ?_) (fun h3 => ?_)
  · walk_at "open_"
    refine ⟨trivial, range1_ok (famP.mk_ h0 fun rg F1 G1 s1 z9 hr h1 => ?_)⟩
    refine iter_range (h1.sub _ _ hr) (by lia) ⟨by simp [small]; lia, ?_⟩
    refine comp_fam famP (fun z9 F v sp => SpAt F v sp ∧ sp.isCov = decide (form = 3)) (fun {x F F' v d} h s => ⟨h.1.sub s, h.2⟩) h1 (fun z9 z9 z9 z9 => trivial) (fun x hx F2 G2 Kc s2 h2 kc => ?_) (fun a F2 G2 ps s2 z9 h2 ha hA => ⟨trivial, fin a F2 G2 ps (s1.trans s2) h2 ha hA⟩)
    have z2 := s2 _ _ (s1 _ _ z0)
    walk_at "open_"
    refine cell_ok (h2.sub _ _ z2) ?_
    refine ⟨keep_fn Fa.k__law_take, CallC.T (takeS Fa 4 h2 fun d G3 hd h3' => ?_)⟩
    refine add_ok ?_
    wide_open with (show (1 : Int) + (d : Int) = ((1 + d : Nat) : Int) by push_cast; rfl)
    refine ⟨trivial, range1_ok (famP.mk_ h3' fun rg F4 G4 s4 z9 hr h4 => ?_)⟩
    refine iter_range (h4.sub _ _ hr) (by lia) ⟨by simp [small]; lia, ?_⟩
    refine comp_fam famP (fun (_ : Value) F v (q : Int) => ∃ t, v = .ref t ∧ PairAt F t (q, .bool true)) (fun {x F F' v d} h s => let ⟨t, e, p⟩ := h; (i_EA t e (s _ _ p))) h4 (fun z9 z9 z9 z9 => trivial) (fun x hx F5 G5 Kc5 s5 h5 kc5 => ?_) (fun a F5 G5 ps s5 z9 h5 ha hA => ?_)
    · walk_at "open_"
      refine cell_ok (h5.sub _ _ (s5 _ _ (s4 _ _ z2))) ?_
      refine ⟨keep_fn Fa.k__law_take, CallC.T (takeS Fa 6 h5 fun q G6 hq h6 => famP.mk_ h6 fun t F7 G7 s7 z9 ht h7 => kc5 F7 G7 _ (q : Int) s7 h7 (i_EA t rfl ht))⟩
    · have hlp := hA.length
      simp at hlp
      obtain ⟨ts, e1, e2⟩ : ∃ ts, ps.map (·.1) = refs ts ∧ All2 (PairAt F5) ts (ps.map fun p => (p.2, Value.bool true)) := by
        clear ha hlp
        generalize ((List.range (1 + d)).map fun (j : Nat) => Value.int (j : Int) 0) = xs at hA
        induction hA with
        | nil => exact (i_EA ([]) rfl .nil)
        | cons x _ ih =>
          refine o_EA ih fun ts e1 e2 => ?_; try clear ih
          refine o_EA x fun t e3 e4 => ?_; try clear x
          exact (i_EA (t :: ts) (by simp [e1, e3, refs]) (.cons e4 e2))
      rw [e1] at ha
      have hfl := foldP_len (ps.map fun p => (p.2, Value.bool true)) []
      simp at hfl
      refine ⟨trivial, dict_pairs_ok Fa.O (h5.sub _ _ ha) (e2.imp fun _ _ (x : PairAt F5 _ _) => h5.sub _ _ x) (by simp; lia) fun ep => famP.mk_ h5 fun dd F6 G6 s6 z9 hdd h6 => ?_⟩
      refine ⟨trivial, sorted_dict_ok (h6.sub _ _ hdd) (by lia) fun ns hp z9 => famP.mk_ h6 fun u F7 G7 s7 z9 hu h7 => ?_⟩
      refine kc F7 G7 _ (.cov ns) (s4.trans (s5.trans (s6.trans s7))) h7 ⟨(i_EAA u rfl hu ?_), ?_⟩
      · have := hp.length_eq
        simp at this; lia
      · wide_open with decide_eq_true h3; rfl
  · walk_at "open_"
    refine ⟨trivial, range1_ok (famP.mk_ h0 fun rg F1 G1 s1 z9 hr h1 => ?_)⟩
    refine iter_range (h1.sub _ _ hr) (by lia) ⟨by simp [small]; lia, ?_⟩
    refine comp_fam famP (fun z9 F v sp => SpAt F v sp ∧ sp.isCov = decide (form = 3)) (fun {x F F' v d} h s => ⟨h.1.sub s, h.2⟩) h1 (fun z9 z9 z9 z9 => trivial) (fun x hx F2 G2 Kc s2 h2 kc => ?_) (fun a F2 G2 ps s2 z9 h2 ha hA => ⟨trivial, fin a F2 G2 ps (s1.trans s2) h2 ha hA⟩)
    walk_at "open_"
    refine cell_ok (h2.sub _ _ (s2 _ _ (s1 _ _ z0))) ?_
    refine cell_ok (h2.sub _ _ (s2 _ _ (s1 _ _ z1))) ?_
    have go : ∀ mm : Nat, 1 ≤ mm ∧ mm ≤ 1000 → CallT W (n + 1) (.ref a__law_take) [.ref pl, .int mm 0] G2 fun v G => Kc (some v) G := fun mm hmm => CallC.T (takeS Fa mm h2 (fun d G3 z9 h3' => kc F2 G3 _ (.num d) (Sub.refl _) h3' ⟨rfl, (decide_eq_false h3).symm⟩) hmm)
    refine cmp_if (p := form = 1) rfl (fun z9 => ⟨keep_fn Fa.k__law_take, go 6 (by decide)⟩) (fun z9 => ⟨keep_fn Fa.k__law_take, go 3 (by decide)⟩)
end
section
open PySem PySem.W PySem.Calls PyProof.Rows
variable {W : Wd} {n : Nat} {F G : GH} {K : KV} {cs : List Addr} {M : List (Addr × GO)} {pl P : Addr}
theorem optRow_ (H2 : Facts2 W P) {form : Int} {ch : Bool} {cs : List Addr} {c0 : Addr} {x y z : Option Value} (hc : cs[0]? = some c0) (h : PSt pl M F G) (h0 : F c0 = some (.cell (some (.ref pl)))) (k : ∀ t row F' G', Sub F F' → PSt pl M F' G' → RowSp F' t row → OfForm form row → K (.ref t) G') :
    wpE W (n + 2) cs [some (.int form 0), some (.bool ch), x, y, z] (.ite (.tr (.var (.loc 1))) (.call (.val (.ref a__law_row)) [(.var (.cel 0)), (.var (.loc 0)), (.call (.val (.ref a__law_take)) [(.var (.cel 0)), (.val (.int (3) 0))])]) (.tup [])) G K := by
  have Fa := H2.F
  walk_at "open_"
  cases ch with
  | true =>
    walk_at "open_"
    refine opt_ok (cel_ (m := []) hc (h.sub _ _ h0)) ?_
    refine opt_ok (cel_ (m := []) hc (h.sub _ _ h0)) ?_
    refine ⟨keep_fn Fa.k__law_take, CallC.T (takeS Fa 3 h fun d G1 hd h1 => ?_)⟩
    exact ⟨keep_fn H2.k__law_row, CallC.T (row_ H2 (by lia) h1 fun t row F' G' s h' hr z9 ho => k t row F' G' s h' hr ho)⟩
  | false =>
    walk_at "open_"
    exact famP.mk_ h fun t F1 G1 s1 z9 ht h1 => k t [] F1 G1 s1 h1 (i_EA ([]) ht .nil) ⟨by simp, fun e he => by cases he⟩
theorem rule_ (H2 : Facts2 W P) {form : Int} {ch : Bool} (h : PSt pl M F G) (k : ∀ r d F' G', Sub F F' → PSt pl M F' G' → RuleAt F' r d → RuleOK form d → K (.ref r) G') : CallC W (n + 3) (.ref a__law_rule) [.ref pl, .int form 0, .bool ch] G K := by
  have Fa := H2.F
  refine fnCc Fa H2.f__law_rule rfl (by simp [sp__law_rule]) fun cd cs hl hn hf => ?_
  refine o_EEA (two_cells hl hn) fun c0 c1 e93 hc => ?_; subst e93
  dsimp only [sp__law_rule, b__law_rule]
  have h1 := h.newm (o := .cell none) (hf c1 (by simp))
  obtain ⟨f0, h0⟩ := famP.new (o := .cell (some (.ref pl))) h1 (a := c0) (by wide_open with GH.set_ne _ _ hc; exact hf c0 (by simp))
  have s0 := sub_set (o := .cell (some (.ref pl))) f0
  have z0 := GH.set_self F c0 (.cell (some (.ref pl)))
  walk_at "open_"
  (wide_line using setCs_cons; wide_line using setCs_cons; wide_open with setCs_nil)
  generalize (G.set c1 (.cell none)).set c0 (.cell (some (.ref pl))) = G0 at *
  generalize F.set c0 (.cell (some (.ref pl))) = F0 at *
  refine cell_ok (h0.sub _ _ z0) ?_
  refine cell_ok (h0.sub _ _ z0) ?_
  refine ⟨keep_fn Fa.k__law_take, CallC.T (takeS Fa 3 h0 fun d G1 hd h1 => ?_)⟩
  refine add_ok ?_
  wide_open with (show (1 : Int) + (d : Int) = ((1 + d : Nat) : Int) by push_cast; rfl)
  refine ⟨keep_fn H2.k__law_row, CallC.T (row_ H2 (by lia) h1 fun ti rowi F2 G2 s2 h2 hri hli hoi => ?_)⟩
  refine (i_EEAA c1 _ rfl h2.hd ?_)
  obtain ⟨f1, h3⟩ := h2.frz (o' := .cell (some (.ref ti)))
  have s3 := sub_set (o := .cell (some (.ref ti))) f1
  have z1 := GH.set_self F2 c1 (.cell (some (.ref ti)))
  have z0 := s3 _ _ (s2 _ _ z0)
  have hri := hri.sub s3
  have s03 := s0.trans (s2.trans s3)
  generalize F2.set c1 (.cell (some (.ref ti))) = F3 at *
  generalize G2.set c1 (.cell (some (.ref ti))) = G3 at *
  clear h h0 h1 h2 s0 s2 s3 f0 f1
  refine ss_cons (optRow_ H2 rfl h3 z0 fun tb rowb F4 G4 s4 h4 hrb hob => ?_)
  have z0 := s4 _ _ z0
  have z1 := s4 _ _ z1
  have hri := hri.sub s4
  have s04 := s03.trans s4
  clear h3 s03 s4
  refine ss_cons (optRow_ H2 rfl h4 z0 fun ta rowa F5 G5 s5 h5 hra hoa => ?_)
  have z0 := s5 _ _ z0
  have z1 := s5 _ _ z1
  have hri := hri.sub s5
  have hrb := hrb.sub s5
  have s05 := s04.trans s5
  clear h4 s04 s5
  walk_at "open_"
  refine cell_ok (h5.sub _ _ z0) ?_
  refine ⟨keep_fn Fa.k__law_take, CallC.T (takeS Fa 3 h5 fun d2 G6 hd2 h6 => ?_)⟩
  refine ⟨trivial, range1_ok (famP.mk_ h6 fun rg F7 G7 s7 z9 hr h7 => ?_)⟩
  refine iter_range (h7.sub _ _ hr) (by lia) ⟨by simp [small]; lia, ?_⟩
  refine o_EA (id hri) fun vsi hvi hai => ?_
  have hlv := hai.length
  have hne : rowi ≠ [] := fun e => by rw [e] at hli; simp at hli; lia
  have hpos : 0 < vsi.length := by (wide_line using hlv; wide_open with hli); lia
  refine comp_fam famP (fun (_ : Value) F v (q : Nat × Nat) => ∃ t, v = .ref t ∧ F t = some (.tup [.int q.1 0, .int q.2 0]) ∧ q.1 < rowi.length ∧ q.2 < 3) (fun {x F F' v d} h s => let ⟨t, e, p, r⟩ := h; (i_EAA t e (s _ _ p) r)) h7 (fun z9 z9 z9 z9 => trivial) (fun x hx F8 G8 Kc s8 h8 kc => ?_) (fun a F8 G8 ps s8 z9 h8 ha hA => ?_)
  · walk_at "open_"
    have s78 := s7.trans s8
    refine cell_ok (h8.sub _ _ (s78 _ _ z0)) ?_
    refine ⟨keep_fn Fa.k__law_take, CallC.T (takeS Fa 3 h8 fun e1 G9 he1 h9 => ?_)⟩
    refine cell_ok (h9.sub _ _ (s78 _ _ z1)) ?_
    refine ⟨trivial, len_tup_ok (h9.sub _ _ (s78 _ _ hvi)) ?_⟩
    refine mod_ok (by lia) ?_
    refine cell_ok (h9.sub _ _ (s78 _ _ z0)) ?_
    refine ⟨keep_fn Fa.k__law_take, CallC.T (takeS Fa 3 h9 fun e2 G10 he2 h10 => ?_)⟩
    wide_open with (show ((e1 : Int)).fmod (vsi.length : Int) = ((e1 % vsi.length : Nat) : Int) from by wide_open with Int.fmod_eq_emod_of_nonneg _ (by lia); rfl)
    exact famP.mk_ h10 fun t F11 G11 s11 z9 ht h11 => kc F11 G11 _ (e1 % vsi.length, e2) s11 h11 (i_EAAA t rfl ht (by ((first | refine hlv ▸ ?_ | rewrite [← hlv]); try with_reducible rfl); exact Nat.mod_lt _ hpos) he2)
  · have hlp := hA.length
    simp at hlp
    have hall := hA.right (Q := fun p => ∃ t, p.1 = .ref t ∧ F8 t = some (.tup [.int p.2.1 0, .int p.2.2 0]) ∧ p.2.1 < rowi.length ∧ p.2.2 < 3) (fun z9 z9 x => x)
    obtain ⟨ts, e1, e2⟩ : ∃ ts, ps.map (·.1) = refs ts ∧ All2 (fun t (q : Nat × Nat) => F8 t = some (.tup [.int q.1 0, .int q.2 0])) ts (ps.map (·.2)) := by
      clear ha hlp hA
      induction ps with
      | nil => exact (i_EA ([]) rfl .nil)
      | cons p ps ih =>
        refine o_EA (ih fun q hq => hall q (by simp [hq])) fun ts e1 e2 => ?_
        refine o_EAA (hall p (by simp)) fun t e3 e4 z9 => ?_
        exact (i_EA (t :: ts) (by simp [e1, e3, refs]) (.cons e4 e2))
    rw [e1] at ha
    have s58 := s7.trans s8
    refine ⟨trivial, tup_of_list_ok (h8.sub _ _ ha) (famP.mk_ h8 fun ac F9 G9 s9 z9 hac h9 => ?_)⟩
    have s59 := s58.trans s9
    walk_at "open_"
    refine cell_ok (h9.sub _ _ (s59 _ _ z1)) ?_
    refine famP.mk_ h9 fun r F10 G10 s10 z9 hr h10 => ?_
    refine ret_same (k r ⟨rowb, rowi, rowa, ps.map (·.2)⟩ F10 G10 (s05.trans (s59.trans s10)) h10 (i_EEEEAAAAEA tb ti ta ac hr (hrb.sub (s59.trans s10)) (hri.sub (s59.trans s10)) (hra.sub (s59.trans s10)) ts (s10 _ _ hac) (e2.imp fun z9 z9 x => (s9.trans s10) _ _ x)) ⟨hob, hoi, hoa, hne, by simp; lia, fun q hq => ?_⟩)
    refine o_EA (List.mem_map.mp hq) fun p hp e93 => ?_; subst e93
    refine o_EAAA (hall p hp) fun z9 z9 z9 h1 h2 => ?_
    exact ⟨h1, h2⟩
end
section
open PySem PySem.W PySem.Calls PyProof.Rows PySem.SeqAt
variable {W : Wd} {n : Nat} {F G : GH} {K : KV} {cs : List Addr} {M : List (Addr × GO)} {pl P : Addr}
theorem comp_filt {S : GH → GH → Prop} (hS : Fam S) {α : Type} {chk : GH → Prop} {el : Value → GH → (Option Value → GH → Prop) → Prop} {xs : List Value} (p : Value → Bool) (R : Value → GH → Value → α → Prop) (mono : ∀ {x F F' v d}, R x F v d → Sub F F' → R x F' v d) (h : S F G)
    (hc : ∀ F' G', Sub F F' → S F' G' → chk G') (he : ∀ x ∈ xs, ∀ F' G' Kc, Sub F F' → S F' G' → (p x = true → ∀ F'' G'' v d, Sub F' F'' → S F'' G'' → R x F'' v d → Kc (some v) G'') → (p x = false → ∀ F'' G'', Sub F' F'' → S F'' G'' → Kc none G'') → el x G' Kc)
    (k : ∀ a F' G' ps, Sub F F' → F a = none → S F' G' → F' a = some (.list (ps.map (·.1))) → All2 (fun x (p : Value × α) => R x F' p.1 p.2) (xs.filter p) ps → K (.ref a) G') : compG chk el xs [] G K := by
  refine comp_inv (fun ys acc G' => ∃ F' dn ps, xs = dn ++ ys ∧ acc = ps.map (·.1) ∧ Sub F F' ∧ S F' G' ∧ All2 (fun x (p : Value × α) => R x F' p.1 p.2) (dn.filter p) ps) ?_ ?_ ?_ _ _ _ (i_EEEAAAA F ([]) ([]) rfl rfl (Sub.refl _) h .nil)
  · intro ys acc G' hx9; refine o_EEEAAAA hx9 fun F' dn ps z9 z9 s h' z9 => ?_; try clear hx9; exact hc _ _ s h'
  · intro acc G' hx9; refine o_EEEAAAA hx9 fun F' dn ps e e95 s h' hA => ?_; try clear hx9; subst e95
    rw [List.append_nil] at e
    subst e
    exact hS.mk_ h' fun a F2 G2 s2 h0 ha h2 => k a F2 G2 ps (s.trans s2) (none_of_sub s h0) h2 ha (hA.imp fun z9 z9 x => mono x s2)
  · intro x ys acc G' Kc nxt hx9; refine o_EEEAAAA hx9 fun F' dn ps e e95 s h' hA => ?_; try clear hx9; subst e95
    refine he x (by wide_open with e; simp) F' G' Kc s h' (fun hp F2 G2 v d s2 h2 hR => nxt (some v) G2 (i_EEEAAAA F2 (dn ++ [x]) (ps ++ [(v, d)]) (by wide_open with e; simp) (by simp) (s.trans s2) h2 ?_)) (fun hp F2 G2 s2 h2 => nxt none G2 (i_EEEAAAA F2 (dn ++ [x]) ps (by wide_open with e; simp) (by simp) (s.trans s2) h2 ?_))
    · (wide_line using List.filter_append; wide_line using List.filter_cons_of_pos hp; wide_open with List.filter_nil)
      exact (hA.imp fun z9 z9 x => mono x s2).snoc hR
    · (wide_line using List.filter_append; wide_line using List.filter_cons_of_neg (by wide_open with hp; exact Bool.false_ne_true); wide_line using List.filter_nil; wide_open with List.append_nil)
      exact hA.imp fun z9 z9 x => mono x s2
theorem lookup_nodup {β : Type} : ∀ {es : List (Int × β)} {q : Int × β}, (es.map (·.1)).Nodup → q ∈ es → es.lookup q.1 = some q.2
  | (k, v) :: es, q, hn, hq => by
    rw [List.map_cons, List.nodup_cons] at hn
    wide_open with List.lookup_cons
    rcases List.mem_cons.mp hq with e | hm
    · wide_open with e; simp
    · have : (q.1 == k) = false := by
        simp only [beq_eq_false_iff_ne, ne_eq]
        intro e
        exact hn.1 (List.mem_map.mpr (i_EA q hm e))
      wide_open with this; exact lookup_nodup hn.2 hm
theorem lookup_absent {β : Type} : ∀ {es : List (Int × β)} {g : Int}, g ∉ es.map (·.1) → es.lookup g = none
  | [], _, _ => rfl
  | (k, v) :: es, g, h => by
    simp only [List.map_cons, List.mem_cons, not_or] at h
    wide_open with List.lookup_cons
    have : (g == k) = false := by simpa using h.1
    wide_open with this; exact lookup_absent h.2
noncomputable def heldOf (es : List (Int × Int)) : List (Int × Int) := es.filter fun q => decide (0 < q.2)
theorem dictI_lookup {es : List (Int × Int)} {g : Int} (h : (es.map (·.1)).Nodup) (hg : g ∈ es.map (·.1)) : (dictI es).lookup g = some (.int (getI es g) 0) := by
  refine o_EA (List.mem_map.mp hg) fun q hq e93 => ?_; subst e93
  have h1 := lookup_nodup h hq
  have h2 : (q.1, Value.int q.2 0) ∈ dictI es := List.mem_map.mpr (i_EA q hq rfl)
  have h3 := lookup_nodup (by wide_open with dictI_keys; exact h) h2
  unfold getI
  wide_open with h1
  exact h3
theorem getI_held {es : List (Int × Int)} (h : (es.map (·.1)).Nodup) (h0 : ∀ q ∈ es, 0 ≤ q.2) (g : Int) : getI (heldOf es) g = getI es g := by
  have hsub : ((heldOf es).map (·.1)).Nodup := h.sublist (List.Sublist.map _ List.filter_sublist)
  unfold getI
  by_cases hg : g ∈ es.map (·.1)
  · refine o_EA (List.mem_map.mp hg) fun q hq e93 => ?_; subst e93
    wide_open with lookup_nodup h hq
    by_cases hp : 0 < q.2
    · wide_open with (lookup_nodup hsub (List.mem_filter.mpr ⟨hq, by simpa using hp⟩))
    · have e0 : q.2 = 0 := by have := h0 q hq; lia
      (wide_line using lookup_absent; wide_open with e0); rfl
      intro hm
      refine o_EA (List.mem_map.mp hm) fun r hr e => ?_
      obtain ⟨hr1, hr2⟩ := List.mem_filter.mp hr
      have h5 := lookup_nodup h hr1
      rw [e, lookup_nodup h hq] at h5
      have h6 := Option.some.inj h5
      simp at hr2; lia
  · (wide_line using lookup_absent hg; wide_open with lookup_absent)
    intro hm
    refine o_EA (List.mem_map.mp hm) fun r hr e => ?_
    exact hg (List.mem_map.mpr (i_EA r ((List.mem_filter.mp hr).1) e))
theorem Dict6.nd {d : Addr} {es : List (Int × Int)} {b : Nat} (x : Dict6 F d es b) : (es.map (·.1)).Nodup := by wide_open with x.keys; decide
theorem Dict6.mem {d : Addr} {es : List (Int × Int)} {b : Nat} (x : Dict6 F d es b) {g : Int} (h0 : 0 ≤ g) (h1 : g < 6) : g ∈ es.map (·.1) := by
  wide_open with x.keys
  obtain ⟨j, rfl⟩ := Int.eq_ofNat_of_zero_le h0
  match j, h1 with
  | 0, _ | 1, _ | 2, _ | 3, _ | 4, _ | 5, _ => decide
  | j + 6, h => exact absurd h (by lia)
theorem Dict6.val {d : Addr} {es : List (Int × Int)} {b : Nat} (x : Dict6 F d es b) {g : Int} (h0 : 0 ≤ g) (h1 : g < 6) : 0 ≤ getI es g ∧ getI es g < b := by
  refine o_EA (List.mem_map.mp (x.mem h0 h1)) fun q hq e => ?_
  unfold getI
  ((first | refine e ▸ ?_ | rewrite [← e]); wide_open with lookup_nodup x.nd hq)
  exact x.vals q hq
theorem iter_dict {a : Addr} {es : List (Int × Value)} {ep : Nat} {K : List Value → (GH → Prop) → Prop} (h : G a = some (.dict es ep)) (k : K (es.map fun p => .int p.1 0) fun G' => G' a = some (.dict es ep)) : iterG (.ref a) G K := by
  unfold iterG; dsimp only; wide_open with h; exact k
theorem held_ {S : GH → GH → Prop} (hS : Fam S) (Fa : Facts W) {c0 dd : Addr} {es : List (Int × Int)} {b : Nat} (h : S F G) (hc : ∀ F' G', Sub F F' → S F' G' → G' c0 = some (.cell (some (.ref dd)))) (hd : Dict6 F dd es b)
    (k : ∀ d F' G', Sub F F' → S F' G' → DictR F' d (heldOf es) → K (.ref d) G') : optG (getP [c0] [] (.cel 0) G) fun v => iterG v G fun xs chk => small xs.length ∧ compG chk (fun x G2 k => optG (getP [c0] [] (.cel 0) G2) fun v => subG v x G2 fun x2 G1 => cmpG W n .Gt x2 (.int 0 0) G1 fun c2 G4 => match c2 with
      | true => optG (getP [c0] [] (.cel 0) G4) fun v => subG v x G4 fun v G1 => newG (.tup [x, v]) G1 fun v G5 => k (some v) G5
      | false => k none G4) xs [] G fun v G1 => keepG W (.type "dict") G1 ∧ CallT W n (.type "dict") [v] G1 K := by
  obtain ⟨ep, hd0⟩ := hd.at'
  refine cell_ok (hc F G (Sub.refl _) h) ?_
  refine iter_dict (hS.sub h _ _ hd0) ⟨by have := congrArg List.length hd.keys; simp [small, dictI] at this ⊢; lia, ?_⟩
  have key : ∀ x ∈ (dictI es).map (fun p => Value.int p.1 0), ∃ g : Int, x = .int g 0 ∧ 0 ≤ g ∧ g < 6 := fun x hx => by
    refine o_EA (List.mem_map.mp hx) fun p hp e93 => ?_; subst e93
    have hm : p.1 ∈ (dictI es).map (·.1) := List.mem_map.mpr (i_EA p hp rfl)
    rw [dictI_keys, hd.keys] at hm
    exact (i_EAA p.1 rfl (by simp at hm; lia) (by simp at hm; lia))
  refine comp_filt hS (fun x => match x with | .int g _ => decide (0 < getI es g) | _ => false) (fun x F v (q : Int × Int) => PairR x F v q ∧ q.2 = getI es q.1) (fun {x F F' v d} h s => ⟨h.1.sub s, h.2⟩) h (fun F' G' s h' => hS.sub h' _ _ (s _ _ hd0)) (fun x hx F2 G2 Kc s2 h2 yes no => ?_) (fun a F2 G2 ps s2 z9 h2 ha hA => ?_)
  · refine o_EAA (key x hx) fun g e92 g0 g1 => ?_; subst e92
    have hl := dictI_lookup hd.nd (hd.mem g0 g1)
    have hc2 := hc F2 G2 s2 h2
    have hd2 := hS.sub h2 _ _ (s2 _ _ hd0)
    refine cell_ok hc2 ?_
    refine sub_dict hd2 hl ?_
    refine cmp_if (p := 0 < getI es g) rfl (fun hp => ?_) (fun hp => ?_)
    · refine cell_ok hc2 ?_
      refine sub_dict hd2 hl ?_
      exact hS.mk_ h2 fun t F3 G3 s3 z9 ht h3 => yes (decide_eq_true hp) F3 G3 _ (g, getI es g) s3 h3 ⟨(i_AEA rfl t rfl ht), rfl⟩
    · exact no (decide_eq_false hp) F2 G2 (Sub.refl _) h2
  · refine o_EAA (pairs_of (hA.imp fun z9 z9 x => x.1)) fun ts e1 e2 e3 => ?_
    rw [e1] at ha
    have e4 : ps.map (·.2) = heldOf es := by
      have h5 : (ps.map fun p => p.2.1) = (heldOf es).map (·.1) := by
        refine map_vInt_inj (e3.symm.trans ?_)
        unfold heldOf
        have : ∀ l : List (Int × Int), (∀ q ∈ l, getI es q.1 = q.2) → ((dictI l).map fun p => Value.int p.1 0).filter (fun x => match x with | .int g _ => decide (0 < getI es g) | _ => false) = ((l.filter fun q => decide (0 < q.2)).map (·.1)).map vInt := fun l => by
          induction l with
          | nil => intro _; rfl
          | cons q l ih =>
            intro hl
            have hq := hl q (by simp)
            have ih := ih fun r hr => hl r (by simp [hr])
            simp only [dictI, List.map_cons, List.filter_cons, hq] at ih ⊢
            by_cases hp : 0 < q.2
            · simp only [decide_eq_true hp, if_true, List.map_cons]
              wide_open with ih; rfl
            · simp only [decide_eq_false hp, Bool.false_eq_true, if_false]
              exact ih
        exact this es fun q hq => by unfold getI; wide_open with lookup_nodup hd.nd hq; rfl
      have h6 : ∀ p ∈ ps, p.2.2 = getI es p.2.1 := hA.right (Q := fun p => p.2.2 = getI es p.2.1) fun z9 z9 x => x.2
      have h7 : ∀ q ∈ heldOf es, q.2 = getI es q.1 := fun q hq => by unfold getI; wide_open with lookup_nodup hd.nd (List.mem_filter.mp hq).1; rfl
      have : ∀ (l r : List (Int × Int)), l.map (·.1) = r.map (·.1) → (∀ p ∈ l, p.2 = getI es p.1) → (∀ p ∈ r, p.2 = getI es p.1) → l = r := fun l => by
        induction l with
        | nil => intro r h _ _; cases r with
          | nil => rfl
          | cons _ _ => wide_open using h
        | cons p l ih =>
          intro r h h1 h2
          cases r with
          | nil => wide_open using h
          | cons q r =>
            simp only [List.map_cons, List.cons.injEq] at h
            have e1 := h1 p (by simp)
            have e2 := h2 q (by simp)
            (wide_line using (ih r h.2 (fun x hx => h1 x (by simp [hx])) fun x hx => h2 x (by simp [hx])); wide_open with Prod.ext (x := p) (y := q) h.1 (by (wide_line using e1; wide_line using e2; wide_open with h.1)))
      exact this _ _ (by wide_open with List.map_map; exact h5) (fun p hp => by obtain ⟨r, hr, rfl⟩ := List.mem_map.mp hp; exact h6 r hr) h7
    rw [e4] at e2
    have hn : ((heldOf es).map (·.1)).Nodup := hd.nd.sublist (List.Sublist.map _ List.filter_sublist)
    refine ⟨trivial, dict_pairs_ok Fa.O (hS.sub h2 _ _ ha) (e2.imp fun _ _ (x : PairAt F2 _ _) => hS.sub h2 _ _ x) ?_ fun ep2 => ?_⟩
    · have h8 : (heldOf es).length ≤ es.length := List.length_filter_le _ _
      have h9 := congrArg List.length hd.keys
      simp at h9
      simp [dictI]; lia
    wide_open with dictI_fold hn
    exact hS.mk_ h2 fun d F3 G3 s3 z9 hd3 h3 => k d F3 G3 (s2.trans s3) h3 ⟨ep2, hd3⟩
end
section
open PySem PySem.W PySem.Calls PyProof.Rows PySem.SeqAt
variable {W : Wd} {n : Nat} {F G : GH} {K : KV} {cs : List Addr} {M : List (Addr × GO)} {pl P : Addr}
theorem famE : Fam (fun F G => F = G) := ⟨fun {F G} h => by wide_open with h; exact Sub.refl _, fun {F G a o} h ha => by subst h; exact ⟨ha, rfl⟩⟩
theorem scene_ (H2 : Facts2 W P) {rows lk cd : Addr} {mask dp : Int} {es : List (Int × Int)} (hd : Dict6 G cd es 4) (k : ∀ s b gd ls l m d st G', Sub G G' → G' s = some (sceneO b gd ls l m d st) → GdefAt G' gd (heldOf es) → K (.ref s) G') :
    CallC W (n + 4) (.ref a__law_scene) [.ref rows, .ref cd, .ref lk, .int mask 0, .int dp 0] G K := by
  have Fa := H2.F
  refine fnCc Fa H2.f__law_scene rfl (by simp [sp__law_scene]) fun cod cs hl hn hf => ?_
  obtain ⟨c0, rfl⟩ := one_cell hl
  dsimp only [sp__law_scene, b__law_scene]
  refine o_EAA (famE.cells (vs := [.ref cd]) rfl hn hf) fun F0 s0 h0 hz => ?_
  have z0 := hz 0 c0 _ rfl rfl
  clear hz hf
  have h0 : F0 = setCs G [c0] [some (.ref cd)] := h0
  have hd := hd.sub s0
  refine (?_ : wpSs W (n + 3) cod _ [c0] _ _ (setCs G [c0] [some (.ref cd)]) _)
  ((first | refine h0 ▸ ?_ | rewrite [← h0]); try with_reducible rfl)
  walk_at "open_"
  refine held_ famE Fa rfl (fun F' G' s e => e ▸ s _ _ z0) hd fun hd' F1 G1 s1 e hh => ?_
  wide_open using e
  obtain ⟨ep, hh⟩ := hh
  walk_at "open_"
  refine ⟨keep_fn Fa.k_ClassDef, CallC.T (new_ClassDef Fa (famE.mk_ rfl fun c1 F2 z9 s2 z9 hc1 e => ?_))⟩
  wide_open using e
  intro ep2
  refine famE.mk_ rfl fun d2 F3 z9 s3 z9 z9 e => ?_
  wide_open using e
  refine ⟨keep_fn Fa.k_ClassDef, CallC.T (new_ClassDef Fa (famE.mk_ rfl fun c2 F4 z9 s4 z9 hc2 e => ?_))⟩
  wide_open using e
  refine famE.mk_ rfl fun l5 F5 z9 s5 z9 z9 e => ?_
  wide_open using e
  refine ⟨keep_fn Fa.k_Gdef, CallC.T (new_Gdef Fa fun gd d1 d2' F6 s6 z9 hgd => ?_)⟩
  refine famE.mk_ rfl fun ls F7 z9 s7 z9 z9 e => ?_
  wide_open using e
  refine ⟨keep_fn Fa.k_Scene, CallC.T (new_Scene Fa fun s st hs hst hne => ret_same ?_)⟩
  have s8 := sub_set_new (o := .list [.int 0 0]) (sub_set (o := sceneO rows gd ls lk mask dp st) hs) hst
  have s27 := s3.trans (s4.trans (s5.trans (s6.trans (s7.trans s8))))
  exact k s rows gd ls lk mask dp st _ (s0.trans (s1.trans (s2.trans s27))) (by (wide_line using GH.set_ne _ _ hne; wide_open with GH.set_self)) ⟨(i_EEEEEAEEA c1 _ _ _ _ ((s7.trans s8) _ _ hgd) hd' ep (s27 _ _ hc1) ((s2.trans s27) _ _ hh))⟩
noncomputable def seenL (ds : List Inf) (es : List (Int × Int)) (fl : Nat) : List Nat := (List.range ds.length).filter fun j => match ds[j]? with
  | some d => !ignoredM es fl d.glyph
  | none => false
noncomputable def natsV (l : List Nat) : List Value := l.map fun (j : Nat) => Value.int (j : Int) 0
theorem filt_nats {p : Value → Bool} {q : Nat → Bool} (h : ∀ j : Nat, p (.int (j : Int) 0) = q j) : ∀ l : List Nat, (natsV l).filter p = natsV (l.filter q)
  | [] => rfl
  | j :: l => by
    have ih := filt_nats h l
    unfold natsV at ih ⊢
    (wide_line using List.map_cons; wide_line using List.filter_cons; wide_line using List.filter_cons; wide_line using h j; wide_open with ih)
    cases q j <;> rfl
theorem bits_pick {es : List (Int × Int)} {g : Int} (h0 : 0 ≤ getI es g) (h1 : getI es g < 4) : pickI [Value.int 0 0, .int 2 0, .int 4 0, .int 8 0] (getI es g) = some (.int (classBit (clsNum es g)) 0) := by
  obtain ⟨j, hj⟩ := Int.eq_ofNat_of_zero_le h0
  unfold clsNum
  rw [hj] at h1 ⊢
  match j, h1 with
  | 0, _ => rfl
  | 1, _ => rfl
  | 2, _ => rfl
  | 3, _ => rfl
  | j + 4, h => exact absurd h (by lia)
theorem clsNum_held {es : List (Int × Int)} {g : Int} (h : getI (heldOf es) g = getI es g) : clsNum (heldOf es) g = clsNum es g := by unfold clsNum; wide_open with h
theorem BufAt.len {b : Addr} {as : List Addr} {ds : List Inf} (x : BufAt F b as ds) : as.length = ds.length := x.infos.length
theorem All2.get {α β : Type} {R : α → β → Prop} {as : List α} {bs : List β} (h : All2 R as bs) : ∀ {i : Nat} {b : β}, bs[i]? = some b → ∃ a, as[i]? = some a ∧ R a b := by
  induction h with
  | nil => intro i b e; simp at e
  | cons h _ ih => intro i b e; cases i with
    | zero => simp at e; subst e; exact ⟨_, rfl, h⟩
    | succ i => simp at e; obtain ⟨b, h1, h2⟩ := ih e; exact ⟨b, by simpa using h1, h2⟩
theorem BufAt.at' {b : Addr} {as : List Addr} {ds : List Inf} (x : BufAt F b as ds) {i : Nat} {d : Inf} (h : ds[i]? = some d) : ∃ a, as[i]? = some a ∧ F a = some (infoO d) := x.infos.get h
theorem setCs_last {c : Addr} {v : Option Value} {cs : List Addr} : ∀ {vs : Mm}, cs.length = vs.length → setCs G (cs ++ [c]) (vs ++ [v]) = setCs (G.set c (.cell v)) cs vs := by
  induction cs with
  | nil => intro vs h; cases vs with
    | nil => rfl
    | cons _ _ => cases h
  | cons d cs ih => intro vs h; cases vs with
    | nil => cases h
    | cons w vs =>
      show (setCs G (cs ++ [c]) (vs ++ [v])).set d _ = (setCs (G.set c (.cell v)) cs vs).set d _
      rw [ih (by simpa using h)]
theorem cells_last {c : Addr} {cs : List Addr} {vs : List Value} (hl : cs.length = vs.length) (hn : (cs ++ [c]).Nodup) (hf : ∀ d ∈ cs ++ [c], G d = none) :
    ∃ F', Sub G F' ∧ St [(c, .cell none)] F' (setCs G (cs ++ [c]) (vs.map some ++ [none])) ∧ ∀ (i : Nat) c v, cs[i]? = some c → vs[i]? = some v → F' c = some (.cell (some v)) := by
  have hd := List.nodup_append.mp hn
  obtain ⟨F', s, h, z⟩ := famS.cells (cs := cs) (vs := vs) (St.start.newm (o := .cell none) (hf c (by simp))) hd.1 fun d hm => by
    wide_open with GH.set_ne _ _ (hd.2.2 d hm c (by simp)); exact hf d (by simp [hm])
  exact (i_EAA F' s (by wide_open with setCs_last (by simpa using hl); exact h) z)
theorem same_of {xs : List Value} {ps : List (Value × Unit)} (h : All2 (fun x (p : Value × Unit) => p.1 = x) xs ps) : ps.map (·.1) = xs := by
  induction h with
  | nil => rfl
  | cons x t ih => rw [List.map_cons, x, ih]
theorem seen_ (H2 : Facts2 W P) {rows cd : Addr} {fl : Nat} {es : List (Int × Int)} {as : List Addr} {ds : List Inf} (hb : BufAt G rows as ds) (hz : ds.length ≤ 100) (hok : ∀ i d, ds[i]? = some d → InfOK i d) (hD : Dict6 G cd es 4)
    (k : ∀ l G', Sub G G' → G' l = some (.list (natsV (seenL ds (heldOf es) fl))) → K (.ref l) G') : CallC W (n + 1) (.ref a__law_seen) [.ref rows, .ref cd, .int fl 0] G K := by
  have Fa := H2.F
  refine fnCc Fa H2.f__law_seen rfl (by simp [sp__law_seen]) fun cod cs hl hn hf => ?_
  refine o_EE (List.exists_cons_of_length_eq_add_one hl) fun c0 t e93 => ?_; subst e93
  refine o_EEE (len3 (Nat.succ.inj hl)) fun c1 c2 c3 e94 => ?_; subst e94
  dsimp only [sp__law_seen, b__law_seen]
  refine o_EAA (cells_last (cs := [c0, c1, c2]) (c := c3) (vs := [.ref rows, .ref cd, .int fl 0]) rfl hn hf) fun F0 s0 h0 hz0 => ?_
  have z0 := hz0 0 c0 _ rfl rfl
  have z1 := hz0 1 c1 _ rfl rfl
  have z2 := hz0 2 c2 _ rfl rfl
  clear hz0 hf
  walk_at "open_"
  have h0 : St [(c3, .cell none)] F0 (setCs G [c0, c1, c2, c3] [some (.ref rows), some (.ref cd), some (.int fl 0), none]) := h0
  generalize setCs G [c0, c1, c2, c3] [some (.ref rows), some (.ref cd), some (.int fl 0), none] = G0 at *
  refine famS.mk_ h0 fun bt F1 G1 s1 z9 hbt h1 => ?_
  refine (i_EEAA c3 _ rfl h1.hd ?_)
  obtain ⟨f3, h2⟩ := h1.frz (o' := .cell (some (.ref bt)))
  have s2 := sub_set (o := .cell (some (.ref bt))) f3
  have z3 := GH.set_self F1 c3 (.cell (some (.ref bt)))
  have hbt := s2 _ _ hbt
  have s12 := s1.trans s2
  have z0 := s12 _ _ z0
  have z1 := s12 _ _ z1
  have z2 := s12 _ _ z2
  have s02 := s0.trans s12
  have hb2 := hb.sub s02
  obtain ⟨ep, hd2⟩ := (hD.sub s02).at'
  generalize F1.set c3 (.cell (some (.ref bt))) = F2 at *
  generalize G1.set c3 (.cell (some (.ref bt))) = G2 at *
  clear h0 h1 s0 s1 s2 s12 f3
  walk_at "open_"
  refine o_EA hb2.ex fun r r1 r2 => ?_
  refine cell_ok (h2.sub _ _ z0) ?_
  refine attr_ (h2.sub _ _ r1) Fa.c_Buffer rfl rfl rfl ?_
  refine ⟨trivial, len_list_ok (h2.sub _ _ r2) ?_⟩
  (wide_line using refs_length; wide_open with hb2.len)
  refine ⟨trivial, range1_ok (famS.mk_ h2 fun rg F3 G3 s3 z9 hr h3 => ?_)⟩
  refine iter_range (h3.sub _ _ hr) (by lia) ⟨by simp [small]; lia, ?_⟩
  refine comp_filt famS (fun x => match x with | .int j _ => (match ds[j.toNat]? with | some d => !ignoredM (heldOf es) fl d.glyph | none => false) | _ => false) (fun x F v (q : Unit) => v = x) (fun {x F F' v d} h s => h) h3 (fun z9 z9 z9 z9 => trivial) (fun x hx F4 G4 Kc s4 h4 yes no => ?_) (fun a F4 G4 ps s4 z9 h4 ha hA => ?_)
  · refine o_EA (List.mem_map.mp hx) fun j hj e93 => ?_; subst e93
    obtain ⟨d, hd⟩ : ∃ d, ds[j]? = some d := ⟨_, List.getElem?_eq_getElem (by simpa using hj)⟩
    refine o_EA (hb2.at' hd) fun a ha hia => ?_
    have hok := hok j d hd
    have hv := hD.val hok.g0 hok.g1
    have s34 := s3.trans s4
    walk_at "open_"
    refine cell_ok (h4.sub _ _ (s34 _ _ z2)) ?_
    refine cell_ok (h4.sub _ _ (s34 _ _ z3)) ?_
    refine cell_ok (h4.sub _ _ (s34 _ _ z1)) ?_
    refine cell_ok (h4.sub _ _ (s34 _ _ z0)) ?_
    refine attr_ (h4.sub _ _ (s34 _ _ r1)) Fa.c_Buffer rfl rfl rfl ?_
    refine sub_list (h4.sub _ _ (s34 _ _ r2)) (pick_ref ha) ?_
    refine attr_ (h4.sub _ _ (s34 _ _ hia)) Fa.c_Info rfl rfl rfl ?_
    refine sub_dict (h4.sub _ _ (s34 _ _ hd2)) (dictI_lookup hD.nd (hD.mem hok.g0 hok.g1)) ?_
    refine sub_tup (h4.sub _ _ (s34 _ _ hbt)) (bits_pick hv.1 hv.2) ?_
    refine and_ok ?_
    have ep : (match ds[((j : Int)).toNat]? with | some d => !ignoredM (heldOf es) fl d.glyph | none => false) = decide (Builtin.bitAnd (fl : Int) (classBit (clsNum es d.glyph)) = 0) := by
      (wide_line using Int.toNat_natCast; wide_open with hd)
      dsimp only
      unfold ignoredM
      wide_open with clsNum_held (getI_held hD.nd (fun q hq => (hD.vals q hq).1) _)
      by_cases h : Builtin.bitAnd (fl : Int) (classBit (clsNum es d.glyph)) = 0
      · (wide_line using decide_eq_true h; wide_open with h); rfl
      · wide_open with decide_eq_false h; simpa using h
    refine cmp_if (p := Builtin.bitAnd (fl : Int) (classBit (clsNum es d.glyph)) = 0) rfl (fun hp => ?_) (fun hp => ?_)
    · exact yes (ep.trans (decide_eq_true hp)) F4 G4 _ () (Sub.refl _) h4 rfl
    · exact no (ep.trans (decide_eq_false hp)) F4 G4 (Sub.refl _) h4
  · rw [same_of hA] at ha
    refine ret_same (k a G4 (s02.trans ((s3.trans s4).trans h4.sub)) ?_)
    wide_open with h4.sub _ _ ha
    exact congrArg (fun l => some (GO.list l)) (filt_nats (fun j => rfl) _)
end
section
open PySem PySem.W PySem.Calls PyProof.Rows
variable {W : Wd} {n : Nat} {F G : GH} {K : KV} {cs : List Addr} {M : List (Addr × GO)} {pl P : Addr}
noncomputable def evalSp (form : Int) (es : List (Int × Int)) : Sp → Int → Bool
  | .cov ns, g => decide (g ∈ ns)
  | .num x, g => if form = 1 then decide (x = g) else decide (getI es g = x)
noncomputable def PlainOne (F : GH) (u : Addr) (f : Int → Bool) : Prop := ∃ ns : List Int, F u = some (.list (ns.map vInt)) ∧ ns.length ≤ 10 ∧ ∀ g, 0 ≤ g → g < 6 → (g ∈ ns ↔ f g = true)
theorem PlainOne.sub {F' : GH} {u f} (x : PlainOne F u f) (h : Sub F F') : PlainOne F' u f := by refine o_EA x fun ns e r => ?_; try clear x; exact (i_EA ns (h _ _ e) r)
noncomputable def PlainAt (F : GH) (l : Addr) (fs : List (Int → Bool)) : Prop := ∃ us, F l = some (.list (refs us)) ∧ All2 (PlainOne F) us fs
theorem PlainAt.sub {F' : GH} {u f} (x : PlainAt F u f) (h : Sub F F') : PlainAt F' u f := by refine o_EA x fun ns e r => ?_; try clear x; exact (i_EA ns (h _ _ e) (r.imp fun z9 z9 z => z.sub h))
theorem all_num {vs : List Value} {row : List Sp} (h : All2 (SpAt F) vs row) (hn : ∀ e ∈ row, e.isCov = false) : ∃ ys : List Int, vs = ys.map vInt ∧ row = ys.map .num := by
  induction h with
  | nil => exact ⟨[], rfl, rfl⟩
  | @cons v e vs row x t ih =>
    obtain ⟨ys, rfl, rfl⟩ := ih fun e he => hn e (List.mem_cons_of_mem _ he)
    have hq := hn e List.mem_cons_self
    cases e with
    | num y =>
      have x : v = .int y 0 := x
      subst x; exact ⟨y :: ys, rfl, rfl⟩
    | cov ns => cases hq
theorem all_cov {vs : List Value} {row : List Sp} (h : All2 (SpAt F) vs row) (hn : ∀ e ∈ row, e.isCov = true) : ∃ us nss, vs = refs us ∧ row = nss.map .cov ∧ All2 (fun u (ns : List Int) => F u = some (.list (ns.map vInt)) ∧ ns.length ≤ 10) us nss := by
  induction h with
  | nil => exact ⟨[], [], rfl, rfl, .nil⟩
  | @cons v e vs row x t ih =>
    obtain ⟨us, nss, rfl, rfl, h⟩ := ih fun e he => hn e (List.mem_cons_of_mem _ he)
    have hq := hn e List.mem_cons_self
    cases e with
    | num y => cases hq
    | cov ns =>
      obtain ⟨u, rfl, h1⟩ := x
      exact ⟨u :: us, ns :: nss, rfl, rfl, .cons h1 h⟩
theorem plain_of {g : Int → Int → Bool} : ∀ {ys : List Int} {ps : List (Value × Unit)}, All2 (fun x (p : Value × Unit) => ∀ y, x = vInt y → ∃ u, p.1 = .ref u ∧ PlainOne F u (g y)) (ys.map vInt) ps → ∃ us, ps.map (·.1) = refs us ∧ All2 (PlainOne F) us (ys.map g) := by
  intro ys
  induction ys with
  | nil => intro ps h; obtain rfl := h.nil_inv; exact ⟨[], rfl, .nil⟩
  | cons y ys ih =>
    intro ps h
    obtain ⟨p, qs, rfl, a1, a2⟩ := h.cons_inv
    obtain ⟨us, e, a⟩ := ih a2
    obtain ⟨u, e1, e2⟩ := a1 y rfl
    exact ⟨u :: us, by simp [e, e1, refs], .cons e2 a⟩
theorem All2.mapR {α β γ : Type} {R : α → β → Prop} {S : α → γ → Prop} {f : β → γ} (h : ∀ a b, R a b → S a (f b)) {as : List α} {bs : List β} (x : All2 R as bs) : All2 S as (bs.map f) := by
  induction x with
  | nil => exact .nil
  | cons y _ ih => exact .cons (h _ _ y) ih
theorem famC {c : Addr} : Fam (fun F G => ∃ v, St ((c, .cell v) :: M) F G) := ⟨fun ⟨_, h⟩ => h.sub, fun {F G a o} h ha => by
  obtain ⟨v, h⟩ := h
  obtain ⟨h1, h2⟩ := h.new (o := o) ha
  exact (i_AE h1 v h2)⟩
theorem plain_ (H2 : Facts2 W P) {form : Int} {t dd : Addr} {row : List Sp} {es : List (Int × Int)} {b : Nat} (hr : RowSp G t row) (ho : OfForm form row) (hD : Dict6 G dd es b)
    (k : ∀ l G', Sub G G' → PlainAt G' l (row.map (evalSp form es)) → K (.ref l) G') : CallC W (n + 1) (.ref a__law_plain) [.ref t, .int form 0, .ref dd] G K := by
  have Fa := H2.F
  refine fnCc Fa H2.f__law_plain rfl (by simp [sp__law_plain]) fun cod cs hl hn hf => ?_
  obtain ⟨c0, rfl⟩ := one_cell hl
  dsimp only [sp__law_plain, b__law_plain]
  refine o_EAA (famE.cells (vs := [.ref dd]) rfl hn hf) fun F0 s0 h0 hz => ?_
  have z0 := hz 0 c0 _ rfl rfl
  have h0 : F0 = setCs G [c0] [some (.ref dd)] := h0
  clear hz hf
  refine o_EA hr fun vs r1 r2 => ?_; try clear hr
  have hl := r2.length
  have hlr := ho.1
  have hD0 := hD.sub s0
  walk_at "open_"
  ((first | refine h0 ▸ ?_ | rewrite [← h0]); try with_reducible rfl)
  clear h0
  have r1 := s0 _ _ r1
  refine cmp_if (p := form = 1) rfl (fun f1 => ?_) (fun f1 => ?_)
  · walk_at "open_"
    refine o_EA (all_num r2 fun e he => by wide_open with ho.2 e he; exact decide_eq_false (by lia)) fun ys e92 e93 => ?_; subst e92; subst e93
    refine iter_tup r1 ⟨by simp at hlr; simp [small]; lia, ?_⟩
    refine comp_fam famE (fun x F v (_ : Unit) => ∀ y, x = vInt y → ∃ u, v = .ref u ∧ PlainOne F u (evalSp form es (.num y))) (fun {x F F' v d} h s y e => let ⟨u, e1, e2⟩ := h y e; (i_EA u e1 (e2.sub s))) rfl (fun F' G' s e => by subst e; exact s _ _ r1) (fun x hx F2 G2 Kc s2 e kc => ?_) (fun a F2 G2 ps s2 z9 e ha hA => ?_)
    · subst e
      refine o_EA (List.mem_map.mp hx) fun y z9 e93 => ?_; subst e93
      walk_at "open_"
      refine famE.mk_ rfl fun u F3 z9 s3 z9 hu e => ?_
      subst e
      refine kc F3 F3 _ () s3 rfl fun y' e => ?_
      wide_open using e
      refine (i_EAEAA u rfl ([y]) hu (by simp) (fun g z9 z9 => ?_))
      simp only [evalSp, f1, if_true, decide_eq_true_eq, List.mem_singleton]
      exact eq_comm
    · subst e
      refine o_EA (plain_of hA) fun us e hP => ?_
      rw [e] at ha
      exact ret_same (k a F2 (s0.trans s2) (i_EA us ha (by wide_open with List.map_map; exact hP)))
  · walk_at "open_"
    refine cmp_if (p := form = 3) rfl (fun f3 => ?_) (fun f3 => ?_)
    · walk_at "open_"
      refine o_EEAA (all_cov r2 fun e he => by wide_open with ho.2 e he; exact decide_eq_true f3) fun us nss e93 e94 hA => ?_; subst e93; subst e94
      refine ⟨trivial, list_of_tup_ok r1 (famE.mk_ rfl fun l F2 z9 s2 z9 hl2 e => ?_)⟩
      subst e
      refine ret_same (k l F2 (s0.trans s2) (i_EA us hl2 ?_))
      wide_open with List.map_map
      exact All2.mapR (fun u ns h => ⟨ns, (s0.trans s2) _ _ h.1, h.2, fun g z9 z9 => by simp [evalSp]⟩) hA
    · refine o_EA (all_num r2 fun e he => by wide_open with ho.2 e he; exact decide_eq_false f3) fun ys e92 e93 => ?_; subst e92; subst e93
      obtain ⟨ep, hd⟩ := hD0.at'
      walk_at "open_"
      refine iter_tup r1 ⟨by simp at hlr; simp [small]; lia, ?_⟩
      intro new hnl _ hnf
      obtain ⟨c, rfl⟩ := one_cell hnl
      have h1 := St.start.newm (F := F0) (o := .cell none) (hnf c (by simp))
      refine (?_ : compG _ _ _ [] (F0.set c (.cell none)) _)
      refine comp_fam (famC (M := [])) (fun x F v (_ : Unit) => ∀ y, x = vInt y → ∃ u, v = .ref u ∧ PlainOne F u (evalSp form es (.num y))) (fun {x F F' v d} h s y e => let ⟨u, e1, e2⟩ := h y e; (i_EA u e1 (e2.sub s))) ⟨_, h1⟩ (fun F' G' s h => famC.sub h _ _ (s _ _ r1)) (fun x hx F2 G2 Kc s2 h2 kc => ?_) (fun a F2 G2 ps s2 z9 h2 ha hA => ?_)
      · refine o_EA (List.mem_map.mp hx) fun y z9 e93 => ?_; subst e93
        obtain ⟨v, h2⟩ := h2
        walk_at "open_"
        refine (i_EEAA c _ rfl h2.hd ?_)
        have h3 := h2.upd (o' := .cell (some (vInt y)))
        generalize G2.set c (.cell (some (vInt y))) = G3 at *
        walk_at "open_"
        refine ⟨trivial, range1_ok (famS.mk_ h3 fun rg F4 G4 s4 z9 hrg h4 => ?_)⟩
        refine iter_range (m := 6) (h4.sub _ _ hrg) (by decide) ⟨by simp [small], ?_⟩
        have s24 := s2.trans s4
        refine comp_filt famS (fun x => match x with | .int j _ => decide (getI es j = y) | _ => false) (fun x F v (_ : Unit) => v = x) (fun {x F F' v d} h s => h) h4 (fun z9 z9 z9 z9 => trivial) (fun x hx F5 G5 Kc5 s5 h5 yes no => ?_) (fun a F5 G5 ps s5 z9 h5 ha hA => ?_)
        · refine o_EA (List.mem_map.mp hx) fun j hj e93 => ?_; subst e93
          have hj6 : j < 6 := by simpa using hj
          walk_at "open_"
          refine cell_ok (h5.sub _ _ (s5 _ _ (s24 _ _ z0))) ?_
          refine sub_dict (h5.sub _ _ (s5 _ _ (s24 _ _ hd))) (dictI_lookup hD.nd (hD.mem (Int.natCast_nonneg j) (by lia))) ?_
          refine cell_ok (v := .int y 0) h5.hd ?_
          refine cmp_if (p := getI es (j : Int) = y) rfl (fun hp => ?_) (fun hp => ?_)
          · exact yes (decide_eq_true hp) F5 G5 _ () (Sub.refl _) h5 rfl
          · exact no (decide_eq_false hp) F5 G5 (Sub.refl _) h5
        · rw [same_of hA] at ha
          refine kc F5 G5 (.ref a) () (s4.trans s5) ⟨_, h5⟩ fun y' e => ?_
          wide_open using e
          refine (i_EAEAA a rfl (((List.range 6).filter fun (j : Nat) => decide (getI es (j : Int) = y)).map fun (j : Nat) => (j : Int)) ?_ ?_ (fun g g0 g6 => ?_))
          · (wide_line using ha; wide_open with List.map_map)
            exact congrArg (fun l => some (GO.list l)) (filt_nats (q := fun (j : Nat) => decide (getI es (j : Int) = y)) (fun j => rfl) _)
          · have := List.length_filter_le (fun j : Nat => decide (getI es (j : Int) = y)) (List.range 6)
            simp at this ⊢; lia
          · simp only [evalSp, f1, if_false, decide_eq_true_eq, List.mem_map, List.mem_filter, List.mem_range]
            constructor
            · intro hx9; refine o_EA hx9 fun j n92 e93 => ?_; try clear hx9; obtain ⟨_, h⟩ := n92; subst e93; exact h
            · intro h
              obtain ⟨j, rfl⟩ := Int.eq_ofNat_of_zero_le g0
              exact (i_EA j ⟨by lia, h⟩ rfl)
      · refine o_EA (plain_of hA) fun us e hP => ?_
        rw [e] at ha
        exact ret_same (k a G2 (s0.trans (s2.trans (famC.sub h2))) (i_EA us (famC.sub h2 _ _ ha) (by wide_open with List.map_map; exact hP.imp fun z9 z9 z => z.sub (famC.sub h2))))
end
section
open PySem PySem.W PySem.Calls PyProof.Rows PySem.SeqAt
variable {W : Wd} {n : Nat} {F G : GH} {K : KV} {cs : List Addr} {M : List (Addr × GO)} {pl P : Addr}
/-! data that the law compares -/
noncomputable def intsD (ns : List Int) : PyData := .list (ns.map .int)
theorem lay_all {α : Type} {f : α → PyData} {m : Nat} (h : ∀ x, (f x).canLay0 = true ∧ (f x).depth ≤ m) : ∀ xs : List α, PyData.canLayAll0 (xs.map f) = true ∧ PyData.depthAll (xs.map f) ≤ m
  | [] => by simp [PyData.canLayAll0, PyData.depthAll]
  | x :: xs => by
    obtain ⟨a, b⟩ := lay_all h xs
    obtain ⟨c, d⟩ := h x
    simp only [List.map_cons, PyData.canLayAll0, PyData.depthAll, a, c, Bool.and_self, true_and]
    lia
theorem shaped_all {α : Type} {f : α → PyData} {m : Nat} (hm : m < 64) (h : ∀ x, (f x).canLay0 = true ∧ (f x).depth ≤ m) (xs : List α) : shaped (.list (xs.map f)) = true := by
  obtain ⟨a, b⟩ := lay_all h xs
  unfold shaped
  simp only [PyData.canLay0, PyData.depth, a, Bool.true_and]
  exact decide_eq_true (by lia)
theorem noMix_all {α : Type} {f : α → PyData} (h : ∀ x y, noMix (f x) (f y) = true) : ∀ xs ys : List α, noMixAll (xs.map f) (ys.map f) = true
  | [], [] => by simp [noMixAll]
  | [], _ :: _ => by simp [noMixAll]
  | _ :: _, [] => by simp [noMixAll]
  | x :: xs, y :: ys => by simp [noMixAll, h x y, noMix_all h xs ys]
theorem same_all {α : Type} [DecidableEq α] {f : α → PyData} (h : ∀ x y, PySem.Spec.same (f x) (f y) = decide (x = y)) : ∀ xs ys : List α, PySem.Spec.sameAll (xs.map f) (ys.map f) = decide (xs = ys)
  | [], [] => by simp [PySem.Spec.sameAll]
  | [], _ :: _ => by simp [PySem.Spec.sameAll]
  | _ :: _, [] => by simp [PySem.Spec.sameAll]
  | x :: xs, y :: ys => by simp [PySem.Spec.sameAll, h x y, same_all h xs ys]
theorem rds_map {α : Type} {f : α → Value} {g : α → PyData} (h : ∀ x, GRd G (f x) (g x)) : ∀ xs : List α, GRds G (xs.map f) (xs.map g)
  | [] => .nil
  | x :: xs => .cons (h x) (rds_map h xs)
theorem rd_ints {a : Addr} {ns : List Int} (h : G a = some (.list (ns.map vInt))) : GRd G (.ref a) (intsD ns) := .list h (rds_map (fun x => .int x) ns)
theorem eq_ints_ok {x y : Addr} {a b : List Int} {C : Bool → GH → Prop} (ha : G x = some (.list (a.map vInt))) (hb : G y = some (.list (b.map vInt))) (k : C (decide (a = b)) G) : cmpG W n .Eq (.ref x) (.ref y) G C := by
  have hs : ∀ l : List Int, shaped (intsD l) = true := shaped_all (m := 0) (by decide) (fun x => by simp [PyData.canLay0, PyData.depth])
  refine eq_data_ok (rd_ints ha) (rd_ints hb) (hs a) (hs b) (by unfold intsD; wide_open with noMix; exact noMix_all (fun x y => by simp [noMix]) a b) ?_
  have e : PySem.Spec.same (intsD a) (intsD b) = decide (a = b) := by unfold intsD; wide_open with PySem.Spec.same; exact same_all (fun x y => by simp only [PySem.Spec.same]; exact (Bool.beq_eq_decide_eq x y)) a b
  wide_open with e; exact k
/-! the law's own search -/
noncomputable def goodW (ds : List Inf) (mask : Int) (f : Int → Bool) (j : Nat) : Bool := match ds[j]? with
  | some d => f d.glyph && (Builtin.bitAnd d.mask mask != 0)
  | none => false
noncomputable def kinW (ds : List Inf) (kinds : List Str) (j : Nat) : Bool := match ds[j]? with
  | some d => kinds.any (· == d.kind)
  | none => true
noncomputable def stepW (g k : Nat → Bool) : List Nat → Option (Nat × List Nat)
  | [] => none
  | p :: L => bif g p then some (p, L) else bif k p then stepW g k L else none
noncomputable def way1 (ds : List Inf) (kinds : List Str) (mask : Int) : List (Int → Bool) → List Nat → Option (List Nat)
  | [], _ => some []
  | f :: fs, L => (stepW (goodW ds mask f) (kinW ds kinds) L).bind fun r => (way1 ds kinds mask fs r.2).map (r.1 :: ·)
noncomputable def OpenW (g k : Nat → Bool) (l : List Nat) : Prop := ∀ p ∈ l, g p = false ∧ k p = true
noncomputable def ClosedW (g k : Nat → Bool) (l : List Nat) : Prop := ∃ p ∈ l, g p = true ∨ k p = false
theorem OpenW.step {g k : Nat → Bool} : ∀ {l r : List Nat}, OpenW g k l → stepW g k (l ++ r) = stepW g k r
  | [], _, _ => rfl
  | p :: l, r, h => by
    obtain ⟨h1, h2⟩ := h p (by simp)
    have ih := OpenW.step (r := r) fun q hq => h q (List.mem_cons_of_mem p hq)
    refine (?_ : (bif g p then _ else bif k p then stepW g k (l ++ r) else none) = _)
    (wide_line using h1; wide_open with h2); exact ih
theorem OpenW.filt {g k : Nat → Bool} {l : List Nat} (h : OpenW g k l) : l.filter g = [] ∧ l.filter (fun j => !k j) = [] := by
  constructor <;> wide_open with List.filter_eq_nil_iff <;> intro p hp <;> simp [h p hp]
theorem ClosedW.not {g k : Nat → Bool} {l : List Nat} {p : Nat} (h : ClosedW g k l) (hn : (l ++ [p]).Nodup) (h1 : (l ++ [p]).filter g = [p]) (h2 : l.filter (fun j => !k j) = []) : False := by
  refine o_EA h fun q hq h => ?_
  rcases h with h | h
  · have : q ∈ (l ++ [p]).filter g := List.mem_filter.mpr ⟨by simp [hq], h⟩
    rw [h1] at this
    exact (List.nodup_append.mp hn).2.2 q hq p (by simp) (by simpa using this)
  · rw [List.filter_eq_nil_iff] at h2
    exact h2 q hq (by simp [h])
noncomputable def WaysC (F : GH) (c : List Value) (o : Option (List Nat)) : Prop := match o with
  | none => c = []
  | some ps => ∃ w, c = [.ref w] ∧ F w = some (.list (natsV ps))
theorem WaysC.sub {F' : GH} {c : List Value} {o : Option (List Nat)} (x : WaysC F c o) (h : Sub F F') : WaysC F' c o := by
  cases o with
  | none => exact x
  | some ps => refine o_EA x fun w e h1 => ?_; try clear x; exact (i_EA w e (h _ _ h1))
noncomputable def WaysAt (F : GH) (l : Addr) (o : Option (List Nat)) : Prop := ∃ c, F l = some (.list c) ∧ WaysC F c o
theorem cut_nats (L : List Nat) (lo hi : Option Nat) : cut (natsV L) lo hi = natsV ((L.take (hi.getD L.length)).drop (lo.getD 0)) := by simp [cut, natsV, List.map_drop, List.map_take]
theorem nats_ints (L : List Nat) : natsV L = (L.map fun (j : Nat) => (j : Int)).map vInt := by unfold natsV; wide_open with List.map_map; rfl
theorem nats_len (L : List Nat) : (natsV L).length = L.length := by simp [natsV]
theorem cast_eq {a b : List Nat} : (a.map fun (j : Nat) => (j : Int)) = b.map (fun (j : Nat) => (j : Int)) ↔ a = b := by
  constructor
  · intro h; exact List.map_inj_right (f := fun (j : Nat) => (j : Int)) (fun x y h => by exact_mod_cast h) |>.mp h
  · rintro rfl; rfl
theorem take_succ {L : List Nat} {j p : Nat} (h : L[j]? = some p) : L.take (j + 1) = L.take j ++ [p] := by (wide_line using List.take_add_one; wide_open with h); rfl
theorem drop_at {L : List Nat} {j p : Nat} (h : L[j]? = some p) : L.drop j = p :: L.drop (j + 1) := by
  obtain ⟨h1, rfl⟩ := List.getElem?_eq_some_iff.mp h
  exact List.drop_eq_getElem_cons h1
theorem cmp_ne {a b : Int} {C : Bool → GH → Prop} (t : a ≠ b → C true G) (f : a = b → C false G) : cmpG W n .NotEq (.int a 0) (.int b 0) G C := by
  refine cmpI_ok rfl ?_
  by_cases h : a = b
  · wide_open with decide_eq_true h; exact f h
  · wide_open with decide_eq_false h; exact t h
end
section
open PySem PySem.W PySem.Calls PyProof.Rows PySem.SeqAt
variable {W : Wd} {n : Nat} {F G : GH} {K : KV} {cs : List Addr} {M : List (Addr × GO)} {pl P : Addr}
theorem way1_len {ds : List Inf} {kinds : List Str} {mask : Int} : ∀ {fs : List (Int → Bool)} {L ps : List Nat}, way1 ds kinds mask fs L = some ps → ps.length = fs.length
  | [], _, _, h => by wide_open using h; rfl
  | f :: fs, L, ps, h => by
    unfold way1 at h
    refine o_EA (Option.bind_eq_some_iff.mp h) fun r z9 h => ?_
    refine o_EA (Option.map_eq_some_iff.mp h) fun qs h2 e93 => ?_; subst e93
    simp [way1_len h2]
set_option tactic.hygienic true in
theorem ways_ (H2 : Facts2 W P) {as : List Addr} {ds : List Inf} {kinds : List Str} {mask : Int} {rows kd : Addr} (hok : ∀ i d, ds[i]? = some d → InfOK i d) :
    ∀ (fs : List (Int → Bool)) {n : Nat} {G : GH} {K : KV} {sl pa : Addr} {L : List Nat}, BufAt G rows as ds → G kd = some (.tup (kinds.map vStr)) → G sl = some (.list (natsV L)) → L.Nodup → (∀ p ∈ L, p < ds.length) → L.length ≤ 100 → PlainAt G pa fs → fs.length ≤ 100 →
      (∀ l G', Sub G G' → WaysAt G' l (way1 ds kinds mask fs L) → K (.ref l) G') → CallC W (n + fs.length + 1) (.ref a__law_ways) [.ref sl, .ref rows, .ref pa, .ref kd, .int mask 0] G K := by
  have Fa := H2.F
  intro fs
  induction fs with
  | nil =>
    intro n G K sl pa L hb hk hs hnd hlt hL hp hfl k
    refine fnCc Fa H2.f__law_ways rfl (by simp [sp__law_ways]) fun cod cs hl hn hf => ?_
    refine o_EE (List.exists_cons_of_length_eq_add_one hl) fun c0 t e93 => ?_; subst e93
    refine o_EEE (len3 (Nat.succ.inj hl)) fun c1 c2 c3 e94 => ?_; subst e94
    dsimp only [sp__law_ways, b__law_ways]
    refine o_EAA (famS.cells (vs := [.ref rows, .ref pa, .ref kd, .int mask 0]) St.start hn hf) fun F0 s0 h0 hz0 => ?_
    have z1 := hz0 1 c1 _ rfl rfl
    walk_at "open_"
    have h0 : St [] F0 (setCs G [c0, c1, c2, c3] [some (.ref rows), some (.ref pa), some (.ref kd), some (.int mask 0)]) := h0
    generalize setCs G [c0, c1, c2, c3] [some (.ref rows), some (.ref pa), some (.ref kd), some (.int mask 0)] = G0 at *
    refine o_EA hp fun us p1 p2 => ?_; try clear hp
    cases p2
    refine cell_ok (h0.sub _ _ z1) ?_
    refine ⟨trivial, len_list_ok (h0.sub _ _ (s0 _ _ p1)) ?_⟩
    refine cmp_t (p := ((refs []).length : Int) = 0) rfl rfl ?_
    walk_at "open_"
    refine famS.mk_ h0 fun w F1 G1 s1 z9 hw h1 => ?_
    refine famS.mk_ h1 fun l F2 G2 s2 z9 hl2 h2 => ?_
    exact ret_same (k l G2 (s0.trans (s1.trans (s2.trans h2.sub))) (i_EAEA _ (h2.sub _ _ hl2) w rfl (h2.sub _ _ (s2 _ _ hw))))
  | cons f fs ih =>
    intro n G K sl pa L hb hk hs hnd hlt hL hp hfl k
    wide_open with (show n + (f :: fs).length + 1 = (n + fs.length + 1) + 1 by simp; lia)
    refine fnCc Fa H2.f__law_ways rfl (by simp [sp__law_ways]) fun cod cs hl hn hf => ?_
    refine o_EE (List.exists_cons_of_length_eq_add_one hl) fun c0 t e93 => ?_; subst e93
    refine o_EEE (len3 (Nat.succ.inj hl)) fun c1 c2 c3 e94 => ?_; subst e94
    dsimp only [sp__law_ways, b__law_ways]
    refine o_EAA (famS.cells (vs := [.ref rows, .ref pa, .ref kd, .int mask 0]) St.start hn hf) fun F0 s0 h0 hz0 => ?_
    have z0 := hz0 0 c0 _ rfl rfl
    have z1 := hz0 1 c1 _ rfl rfl
    have z2 := hz0 2 c2 _ rfl rfl
    have z3 := hz0 3 c3 _ rfl rfl
    clear hz0 hf
    walk_at "open_"
    have h0 : St [] F0 (setCs G [c0, c1, c2, c3] [some (.ref rows), some (.ref pa), some (.ref kd), some (.int mask 0)]) := h0
    generalize setCs G [c0, c1, c2, c3] [some (.ref rows), some (.ref pa), some (.ref kd), some (.int mask 0)] = G0 at *
    refine o_EA hp fun us p1 p2 => ?_; try clear hp
    have hus := p2.length
    cases p2 with
    | cons hu hus2 =>
    rename_i u us
    have s0b := hb.sub s0
    replace hk := s0 _ _ hk
    replace hs := s0 _ _ hs
    replace p1 := s0 _ _ p1
    replace hu := hu.sub s0
    replace hus2 := hus2.imp fun _ _ (z : PlainOne G _ _) => z.sub s0
    refine cell_ok (h0.sub _ _ z1) ?_
    refine ⟨trivial, len_list_ok (h0.sub _ _ p1) ?_⟩
    refine cmp_f (p := ((refs (u :: us)).length : Int) = 0) rfl (by simp [refs]; lia) ?_
    walk_at "open_"
    intro fa hfa
    have h1 := h0.newm (o := .list []) hfa
    generalize G0.set fa (.list []) = G1 at *
    walk_at "open_"
    refine ⟨trivial, len_list_ok (h1.sub _ _ hs) ?_⟩
    wide_open with nats_len
    refine ⟨trivial, range1_ok (famS.mk_ h1 fun rg F2 G2 s2 z9 hr h2 => ?_)⟩
    refine iter_range (h2.sub _ _ hr) (by lia) ?_
    -- what the turns keep
    refine for_inv (fun ys mm G' => ∃ (j : Nat) (F' : GH) (c : List Value) (x y z v : Option Value), ys = ((List.range L.length).map fun (j : Nat) => Value.int (j : Int) 0).drop j ∧ j ≤ L.length ∧ mm = [some (.ref sl), some (.ref fa), x, y, z, v] ∧
      Sub F0 F' ∧ St [(fa, .list c)] F' G' ∧ ((OpenW (goodW ds mask f) (kinW ds kinds) (L.take j) ∧ c = []) ∨ (ClosedW (goodW ds mask f) (kinW ds kinds) (L.take j) ∧ WaysC F' c (way1 ds kinds mask (f :: fs) L)))) (fun z9 z9 z9 z9 => trivial) ?_ ?_ _ _ _
      (i_EEEEEEEAAAAA 0 F2 ([]) none none none none rfl (Nat.zero_le _) rfl s2 h2 (.inl ⟨fun p hp => by simp at hp, rfl⟩))
    · intro mm G' hx9; refine o_EEEEEEEAAAAA hx9 fun j F3 c x y z v e hj e910 s3 h3 hc => ?_; try clear hx9; subst e910
      obtain rfl := drop_range0 hj e
      walk_at "open_"
      refine ret_same (k fa G' (s0.trans (s3.trans h3.sub)) (i_EA c h3.hd (WaysC.sub ?_ h3.sub)))
      rcases hc with ⟨ho, rfl⟩ | ⟨_, h⟩
      · rw [List.take_length] at ho
        have := ho.step (r := [])
        rw [List.append_nil] at this
        unfold way1
        wide_open with this; rfl
      · exact h
    · intro xv ys mm G' Kn nxt nxc nxr hx9; refine o_EEEEEEEAAAAA hx9 fun j F3 c x y z v e hj e910 s3 h3 hc => ?_; try clear hx9; subst e910
      refine o_AA (drop_range e) fun hjm e92 e93 => ?_; subst e92; subst e93
      obtain ⟨p, hp⟩ : ∃ p, L[j]? = some p := ⟨_, List.getElem?_eq_getElem hjm⟩
      have z0 := s3 _ _ z0
      have z1 := s3 _ _ z1
      have z2 := s3 _ _ z2
      have z3 := s3 _ _ z3
      have hb3 := s0b.sub s3
      have hk3 := s3 _ _ hk
      have hs3 := s3 _ _ hs
      have p3 := s3 _ _ p1
      have hu3 := hu.sub s3
      refine o_EAA hu3 fun ns u1 u2 u3 => ?_; try clear hu3
      refine o_EA hb3.ex fun r r1 r2 => ?_
      walk_at "open_"
      refine sub_list (h3.sub _ _ hs3) (pick_nat (i := j) (v := .int p 0) (by unfold natsV; (wide_line using List.getElem?_map; wide_open with hp); rfl)) ?_
      walk_at "open_"
      refine add_ok ?_
      refine slice_list_ok (lo := none) (hi := some (j + 1)) (h3.sub _ _ hs3) rfl (by simp [partV]) ?_
      wide_open with cut_nats
      refine famS.mk_ h3 fun cl F4 G4 s4 z9 hcl h4 => ?_
      simp only [Option.getD_some, Option.getD_none, List.drop_zero] at hcl
      refine iter_list (h4.sub _ _ hcl) ⟨by simp [small, natsV]; lia, ?_⟩
      have hsub : ∀ m, ∀ x ∈ natsV (L.take m), ∃ (q : Nat) (d : Inf) (a : Addr), x = .int (q : Int) 0 ∧ ds[q]? = some d ∧ InfOK q d ∧ as[q]? = some a ∧ F3 a = some (infoO d) := fun m x hx => by
        refine o_EA (List.mem_map.mp hx) fun q hq e93 => ?_; subst e93
        obtain ⟨d, hd⟩ : ∃ d, ds[q]? = some d := ⟨_, List.getElem?_eq_getElem (hlt q (List.mem_of_mem_take hq))⟩
        refine o_EA (hb3.at' hd) fun a ha hia => ?_
        exact (i_EEEAAAA q d a rfl hd (hok q d hd) ha hia)
      have etake := take_succ hp
      have skip : ∀ F' G' x y z v, Sub F3 F' → St [(fa, .list c)] F' G' → ¬ ((L.take (j + 1)).filter (goodW ds mask f) = [p] ∧ (L.take j).filter (fun j => !kinW ds kinds j) = []) → Kn .next [some (.ref sl), some (.ref fa), x, y, z, v] G' := fun F' G' x y z v s h hno => by
        refine nxt _ _ (i_EEEEEEEAAAAA (j + 1) F' c x y z v rfl hjm rfl (s3.trans s) h ?_)
        rcases hc with ⟨ho, hc⟩ | ⟨hcl, hc⟩
        · have hf := ho.filt
          rw [etake, List.filter_append, hf.1, List.nil_append] at hno
          cases hg : goodW ds mask f p with
          | true => exact absurd ⟨List.filter_cons_of_pos (l := []) hg, hf.2⟩ hno
          | false =>
            cases hkp : kinW ds kinds p with
            | true =>
              refine .inl ⟨fun q hq => ?_, hc⟩
              rw [etake] at hq
              rcases List.mem_append.mp hq with hq | hq
              · exact ho q hq
              · wide_open with List.mem_singleton.mp hq; exact ⟨hg, hkp⟩
            | false =>
              refine .inr ⟨(i_EA p (by wide_open with etake; simp) (.inr hkp)), ?_⟩
              have e := ho.step (r := L.drop j)
              rw [List.take_append_drop, drop_at hp] at e
              unfold way1
              (wide_line using e; wide_open with hc)
              refine (?_ : WaysC F' [] (Option.bind (bif goodW ds mask f p then _ else bif kinW ds kinds p then _ else _) _))
              (wide_line using hg; wide_open with hkp); rfl
        · refine o_EA hcl fun q hq h => ?_; try clear hcl
          exact .inr ⟨(i_EA q (by wide_open with etake; simp [hq]) h), hc.sub s⟩
      refine comp_filt famS (fun x => match x with | .int j _ => goodW ds mask f j.toNat | _ => false) (fun x F v (q : Unit) => v = x) (fun {x F F' v d} h s => h) h4 (fun F' G' s h' => h'.sub _ _ (s _ _ hcl)) (fun x hx F5 G5 Kc s5 h5 yes no => ?_) (fun ga F5 G5 ps s5 z9 h5 hga hA => ?_)
      · refine o_EEEAAAA (hsub _ x hx) fun q d a e94 hd hi ha hia => ?_; subst e94
        have s35 := s4.trans s5
        have eg : goodW ds mask f q = (f d.glyph && (Builtin.bitAnd d.mask mask != 0)) := by unfold goodW; wide_open with hd
        have yes := fun h => yes (eg.trans h)
        have no := fun h => no (eg.trans h)
        walk_at "open_"
        refine cell_ok (h5.sub _ _ (s35 _ _ z0)) ?_
        refine attr_ (h5.sub _ _ (s35 _ _ r1)) Fa.c_Buffer rfl rfl rfl ?_
        refine sub_list (h5.sub _ _ (s35 _ _ r2)) (pick_ref ha) ?_
        refine attr_ (h5.sub _ _ (s35 _ _ hia)) Fa.c_Info rfl rfl rfl ?_
        refine cell_ok (h5.sub _ _ (s35 _ _ z1)) ?_
        refine sub_list (h5.sub _ _ (s35 _ _ p3)) rfl ?_
        refine in_list_ok (h5.sub _ _ (s35 _ _ u1)) ?_
        have eany : ns.any (· == d.glyph) = f d.glyph := by
          have := u3 d.glyph hi.g0 hi.g1
          cases hf : f d.glyph with
          | true => rw [hf] at this; simpa using this
          | false =>
            rw [hf] at this
            wide_open with List.any_eq_false
            intro x hx e
            rw [eq_of_beq e] at hx
            exact absurd (this.mp hx) Bool.false_ne_true
        wide_open with eany
        cases hf : f d.glyph with
        | false => exact no (by wide_open with hf; rfl) F5 G5 (Sub.refl _) h5
        | true =>
          walk_at "open_"
          refine cell_ok (h5.sub _ _ (s35 _ _ z0)) ?_
          refine attr_ (h5.sub _ _ (s35 _ _ r1)) Fa.c_Buffer rfl rfl rfl ?_
          refine sub_list (h5.sub _ _ (s35 _ _ r2)) (pick_ref ha) ?_
          refine attr_ (h5.sub _ _ (s35 _ _ hia)) Fa.c_Info rfl rfl rfl ?_
          refine cell_ok (h5.sub _ _ (s35 _ _ z3)) ?_
          refine and_ok ?_
          refine cmp_ne (fun h => ?_) (fun h => ?_)
          · exact yes (by wide_open with hf; simpa using h) F5 G5 _ () (Sub.refl _) h5 rfl
          · exact no (by (wide_line using hf; wide_open with h); rfl) F5 G5 (Sub.refl _) h5
      rw [same_of hA, filt_nats (q := goodW ds mask f) (fun j => rfl)] at hga
      clear hA
      walk_at "open_"
      refine famS.mk_ h5 fun la F6 G6 s6 z9 hla h6 => ?_
      refine eq_ints_ok (b := [(p : Int)]) (by rw [← nats_ints]; exact h6.sub _ _ (s6 _ _ hga)) (h6.sub _ _ hla) ?_
      have s36 := s4.trans (s5.trans s6)
      by_cases hA : (L.take (j + 1)).filter (goodW ds mask f) = [p]
      · wide_open with (decide_eq_true (show ((L.take (j + 1)).filter (goodW ds mask f)).map (fun (j : Nat) => (j : Int)) = [(p : Int)] by wide_open with hA; rfl))
        walk_at "open_"
        have hs6 := h6.sub _ _ (s36 _ _ hs3)
        refine slice_list_ok (lo := none) (hi := some j) hs6 rfl rfl ?_
        wide_open with cut_nats
        refine famS.mk_ h6 fun bl F7 G7 s7 z9 hbl h7 => ?_
        simp only [Option.getD_some, Option.getD_none, List.drop_zero] at hbl
        refine iter_list (h7.sub _ _ hbl) ⟨by simp [small, natsV]; lia, ?_⟩
        have s37 := s36.trans s7
        refine comp_filt famS (fun x => match x with | .int j _ => !kinW ds kinds j.toNat | _ => false) (fun x F v (q : Unit) => v = x) (fun {x F F' v d} h s => h) h7 (fun F' G' s h' => h'.sub _ _ (s _ _ hbl)) (fun x hx F8 G8 Kc s8 h8 yes no => ?_) (fun ba F8 G8 ps s8 z9 h8 hba hA2 => ?_)
        · refine o_EEEAAAA (hsub _ x hx) fun q d a e94 hd hi ha hia => ?_; subst e94
          have s38 := s37.trans s8
          have eg : (!kinW ds kinds q) = !kinds.any (· == d.kind) := by unfold kinW; wide_open with hd
          have yes := fun h => yes (eg.trans h)
          have no := fun h => no (eg.trans h)
          walk_at "open_"
          refine cell_ok (h8.sub _ _ (s38 _ _ z0)) ?_
          refine attr_ (h8.sub _ _ (s38 _ _ r1)) Fa.c_Buffer rfl rfl rfl ?_
          refine sub_list (h8.sub _ _ (s38 _ _ r2)) (pick_ref ha) ?_
          refine attr_ (h8.sub _ _ (s38 _ _ hia)) Fa.c_Info rfl rfl rfl ?_
          refine cell_ok (h8.sub _ _ (s38 _ _ z2)) ?_
          refine notin_strs_ok (h8.sub _ _ (s38 _ _ hk3)) ?_
          cases hq : (!kinds.any (· == d.kind)) with
          | true => exact yes hq F8 G8 _ () (Sub.refl _) h8 rfl
          | false => exact no hq F8 G8 (Sub.refl _) h8
        rw [same_of hA2, filt_nats (q := fun j => !kinW ds kinds j) (fun j => rfl)] at hba
        clear hA2
        refine ⟨trivial, len_list_ok (h8.sub _ _ hba) ?_⟩
        wide_open with nats_len
        have s38 := s37.trans s8
        refine cmp_if (p := (((L.take j).filter fun j => !kinW ds kinds j).length : Int) = 0) rfl (fun hB => ?_) (fun hB => ?_)
        · have hB : (L.take j).filter (fun j => !kinW ds kinds j) = [] := List.length_eq_zero_iff.mp (by lia)
          rcases hc with ⟨ho, rfl⟩ | ⟨hcl, _⟩
          case inr => exact (hcl.not (by rw [← etake]; exact hnd.sublist (List.take_sublist _ _)) (by rw [← etake]; exact hA) hB).elim
          have hg : goodW ds mask f p = true := by
            rw [etake, List.filter_append, ho.filt.1, List.nil_append] at hA
            have : p ∈ [p].filter (goodW ds mask f) := by wide_open with hA; simp
            exact (List.mem_filter.mp this).2
          have eR : way1 ds kinds mask (f :: fs) L = (way1 ds kinds mask fs (L.drop (j + 1))).map (p :: ·) := by
            have e := ho.step (r := L.drop j)
            rw [List.take_append_drop, drop_at hp] at e
            refine (?_ : Option.bind _ _ = _)
            wide_open with e
            refine (?_ : Option.bind (bif goodW ds mask f p then _ else _) _ = _)
            wide_open with hg; rfl
          walk_at "open_"
          have hs8 := h8.sub _ _ (s38 _ _ hs3)
          refine add_ok ?_
          refine slice_list_ok (lo := some (j + 1)) (hi := none) hs8 (by simp [partV]) rfl ?_
          wide_open with cut_nats
          refine famS.mk_ h8 fun sl2 F9 G9 s9 z9 hsl2 h9 => ?_
          simp only [Option.getD_some, Option.getD_none, List.take_length] at hsl2
          have s39 := s38.trans s9
          refine cell_ok (h9.sub _ _ (s39 _ _ z0)) ?_
          refine cell_ok (h9.sub _ _ (s39 _ _ z1)) ?_
          refine slice_list_ok (lo := some 1) (hi := none) (h9.sub _ _ (s39 _ _ p3)) rfl rfl ?_
          refine famS.mk_ h9 fun pl2 F10 G10 s10 z9 hpl2 h10 => ?_
          have s310 := s39.trans s10
          refine cell_ok (h10.sub _ _ (s310 _ _ z2)) ?_
          refine cell_ok (h10.sub _ _ (s310 _ _ z3)) ?_
          have ecut : cut (refs (u :: us)) (some 1) none = refs us := by simp only [cut, refs, Option.getD_none, Option.getD_some, List.take_length]; rfl
          rw [ecut] at hpl2
          refine ⟨keep_fn H2.k__law_ways, CallC.T (h10.call (ih (hb3.sub s310) (s310 _ _ hk3) (s10 _ _ hsl2) (hnd.sublist (List.drop_sublist _ _)) (fun q hq => hlt q (List.mem_of_mem_drop hq)) (by simp; lia) (i_EA us hpl2 (hus2.imp fun _ _ (z : PlainOne F0 _ _) => (z.sub s3).sub s310)) (by simp at hfl; lia) fun l F11 s11 hw G11 h11 => ?_))⟩
          refine o_EA hw fun cw w1 w2 => ?_; try clear hw
          have w1' := h11.sub _ _ w1
          have sF := s310.trans s11
          refine iter_list w1' ?_
          cases hR : way1 ds kinds mask fs (L.drop (j + 1)) with
          | none =>
            rw [hR] at w2 eR
            have w2 : cw = [] := w2
            subst w2
            refine ⟨w1', ?_⟩
            walk_at "open_"
            refine nxt _ _ (i_EEEEEEEAAAAA (j + 1) F11 ([]) _ _ _ _ rfl hjm rfl (s3.trans sF) h11 (.inr ⟨(i_EA p (by wide_open with etake; simp) (.inl hg)), ?_⟩))
            wide_open with eR; rfl
          | some qs =>
            rw [hR] at w2 eR
            refine o_EA w2 fun w e92 hw => ?_; try clear w2; subst e92
            refine ⟨w1', ?_⟩
            walk_at "open_"
            refine (i_EA _ (meth_append Fa h11.hd) ?_)
            refine famS.mk_ h11 fun x1 F12 G12 s12 z9 hx1 h12 => ?_
            refine concat_ok (h12.sub _ _ hx1) (h12.sub _ _ (s12 _ _ hw)) ?_ ?_
            · have := way1_len hR
              wide_open with nats_len
              simp at hfl
              simp [small]; lia
            refine famS.mk_ h12 fun x2 F13 G13 s13 z9 hx2 h13 => ?_
            refine ⟨trivial, append_ok h13.hd (by simp [small]) ?_⟩
            have h14 := h13.upd (o' := .list ([] ++ [.ref x2]))
            generalize G13.set fa (.list ([] ++ [.ref x2])) = G14 at *
            walk_at "open_"
            have s14 := s12.trans s13
            refine ⟨h14.sub _ _ (s14 _ _ w1), ?_⟩
            walk_at "open_"
            refine nxt _ _ (i_EEEEEEEAAAAA (j + 1) F13 ([.ref x2]) _ _ _ _ rfl hjm rfl (s3.trans (sF.trans s14)) h14 (.inr ⟨(i_EA p (by wide_open with etake; simp) (.inl hg)), ?_⟩))
            wide_open with eR
            exact (i_EA x2 rfl hx2)
        · walk_at "open_"
          exact skip F8 G8 _ _ _ _ s38 h8 fun h => hB (by wide_open with h.2; rfl)
      · wide_open with (decide_eq_false (show ¬ ((L.take (j + 1)).filter (goodW ds mask f)).map (fun (j : Nat) => (j : Int)) = [(p : Int)] from fun h => hA (cast_eq (b := [p]).mp h)))
        walk_at "open_"
        exact skip F6 G6 _ _ _ _ s36 h6 fun h => hA h.1
end
section
open PySem PySem.W PySem.Calls PyProof.Rows PySem.SeqAt
variable {W : Wd} {n : Nat} {F G : GH} {K : KV} {cs : List Addr} {M : List (Addr × GO)} {pl P : Addr}
noncomputable def lastN (l : List Nat) (d : Nat) : Nat := l.getLast?.getD d
noncomputable def foundW (ds : List Inf) (L : List Nat) (i : Nat) (g : Int) (mask : Int) (fb fi fa : List (Int → Bool)) : Option (List Nat × Nat × Nat) := match fi with
  | [] => none
  | f :: fs => bif f g then
    (way1 ds kIn mask fs (L.filter fun j => decide (i < j))).bind fun ws => (way1 ds kAr 3 fb (L.filter fun j => decide (j < i)).reverse).bind fun bs =>
      (way1 ds kAr 3 fa (L.filter fun j => decide (lastN ws i < j))).map fun as => (i :: ws, lastN bs i, lastN as (lastN ws i))
    else none
noncomputable def FoundAt (F : GH) (v : Value) (o : Option (List Nat × Nat × Nat)) : Prop := match o with
  | none => v = .none
  | some q => ∃ t pl, v = .ref t ∧ F t = some (.tup [.ref pl, .int (q.2.1 : Nat) 0, .int (q.2.2 : Nat) 0]) ∧ F pl = some (.list (natsV q.1))
theorem WaysAt.sub' {F' : GH} {l : Addr} {o : Option (List Nat)} (x : WaysAt F l o) (h : Sub F F') : WaysAt F' l o := let ⟨c, e, r⟩ := x; (i_EA c (h _ _ e) (r.sub h))
theorem pick_lastN {l : List Nat} {p : Nat} (h : l.getLast? = some p) : pickI (natsV l) (-1) = some (.int (p : Int) 0) := by
  obtain ⟨ys, rfl⟩ := List.getLast?_eq_some_iff.mp h
  unfold natsV
  wide_open with List.map_append
  exact pick_last
theorem last_cons (i : Nat) (ws : List Nat) : (i :: ws).getLast? = some (lastN ws i) := List.getLast?_cons
theorem last_app {l : List Nat} {p : Nat} (h : l.getLast? = some p) (as : List Nat) : (l ++ as).getLast? = some (lastN as p) := by
  (wide_line using List.getLast?_append; wide_open with h)
  unfold lastN
  cases as.getLast? <;> rfl
theorem natsV_app (a b : List Nat) : natsV a ++ natsV b = natsV (a ++ b) := by simp [natsV]
theorem filt_len {L : List Nat} {q : Nat → Bool} {m : Nat} (h : L.length ≤ m) : (L.filter q).length ≤ m := Nat.le_trans (List.length_filter_le _ _) h
noncomputable def MapsAt (F : GH) (ml : Addr) (e0 e1 e2 : List (Int × Int)) : Prop := ∃ d0 d1 d2, F ml = some (.list [.ref d0, .ref d1, .ref d2]) ∧ Dict6 F d0 e0 3 ∧ Dict6 F d1 e1 3 ∧ Dict6 F d2 e2 3
theorem MapsAt.sub {F' : GH} {ml e0 e1 e2} (x : MapsAt F ml e0 e1 e2) (h : Sub F F') : MapsAt F' ml e0 e1 e2 := by refine o_EEEAAA x fun d0 d1 d2 e h0 h1 h2 => ?_; try clear x; exact (i_EEEAAA d0 d1 d2 (h _ _ e) (h0.sub h) (h1.sub h) (h2.sub h))
theorem nats_comp {S : GH → GH → Prop} (hS : Fam S) {chk : GH → Prop} {el : Value → GH → (Option Value → GH → Prop) → Prop} {L : List Nat} (q : Nat → Bool) (h : S F G) (hc : ∀ F' G', Sub F F' → S F' G' → chk G')
    (he : ∀ (j : Nat) F' G' Kc, j ∈ L → Sub F F' → S F' G' → (q j = true → Kc (some (.int (j : Int) 0)) G') → (q j = false → Kc none G') → el (.int (j : Int) 0) G' Kc)
    (k : ∀ a F' G', Sub F F' → S F' G' → F' a = some (.list (natsV (L.filter q))) → K (.ref a) G') : compG chk el (natsV L) [] G K := by
  refine comp_filt hS (fun x => match x with | .int j _ => q j.toNat | _ => false) (fun x F v (q : Unit) => v = x) (fun {x F F' v d} h s => h) h hc (fun x hx F' G' Kc s h' yes no => ?_) (fun a F' G' ps s z9 h' ha hA => ?_)
  · refine o_EA (List.mem_map.mp hx) fun j hj e93 => ?_; subst e93
    exact he j F' G' Kc hj s h' (fun e => yes e F' G' _ () (Sub.refl _) h' rfl) (fun e => no e F' G' (Sub.refl _) h')
  · rw [same_of hA, filt_nats (q := q) (fun j => rfl)] at ha
    exact k a F' G' s h' ha
set_option tactic.hygienic true in
theorem lfound_ (H2 : Facts2 W P) {as : List Addr} {ds : List Inf} {mask form : Int} {rows sl rl ml : Addr} {L : List Nat} {i : Nat} {d : RuleD} {e0 e1 e2 : List (Int × Int)} {di : Inf} (hok : ∀ i d, ds[i]? = some d → InfOK i d) (hb : BufAt G rows as ds) (hs : G sl = some (.list (natsV L))) (hnd : L.Nodup) (hlt : ∀ p ∈ L, p < ds.length) (hL : L.length ≤ 100)
    (hi : ds[i]? = some di) (hr : RuleAt G rl d) (ho : RuleOK form d) (hm : MapsAt G ml e0 e1 e2)
    (k : ∀ v G', Sub G G' → FoundAt G' v (foundW ds L i di.glyph mask (d.back.map (evalSp form e0)) (d.inside.map (evalSp form e1)) (d.ahead.map (evalSp form e2))) → isBlt v = false → K v G') :
    CallC W (n + 8) (.ref a__law_found) [.ref rows, .ref sl, .int i 0, .ref rl, .int form 0, .ref ml, .int mask 0] G K := by
  have Fa := H2.F
  refine fnCc Fa H2.f__law_found rfl (by simp [sp__law_found]) fun cod cs hl hn hf => ?_
  refine o_EE (List.exists_cons_of_length_eq_add_one hl) fun c0 t e93 => ?_; subst e93
  refine o_EE (List.exists_cons_of_length_eq_add_one (Nat.succ.inj hl)) fun c1 t e93 => ?_; subst e93
  refine o_EEE (len3 (Nat.succ.inj (Nat.succ.inj hl))) fun c2 c3 c4 e94 => ?_; subst e94
  dsimp only [sp__law_found, b__law_found]
  refine o_EAA (cells_last (cs := [c0, c1, c2, c3]) (c := c4) (vs := [.int i 0, .ref rl, .int form 0, .ref ml]) rfl hn hf) fun F0 s0 h0 hz0 => ?_
  have z0 := hz0 0 c0 _ rfl rfl
  have z1 := hz0 1 c1 _ rfl rfl
  have z2 := hz0 2 c2 _ rfl rfl
  have z3 := hz0 3 c3 _ rfl rfl
  clear hz0 hf
  walk_at "open_"
  have h0 : St [(c4, .cell none)] F0 (setCs G [c0, c1, c2, c3, c4] [some (.int i 0), some (.ref rl), some (.int form 0), some (.ref ml), none]) := h0
  generalize setCs G [c0, c1, c2, c3, c4] [some (.int i 0), some (.ref rl), some (.int form 0), some (.ref ml), none] = G0 at *
  replace hb := hb.sub s0
  replace hs := s0 _ _ hs
  refine o_EEEEAAAA (hr.sub s0) fun tb ti ta tc r1 r2 r3 r4 z9 => ?_
  refine o_EEEAAA (hm.sub s0) fun d0 d1 d2 m1 m2 m3 m4 => ?_
  generalize hfb : d.back.map (evalSp form e0) = fb at *
  generalize hfi : d.inside.map (evalSp form e1) = fi at *
  generalize hfa : d.ahead.map (evalSp form e2) = fa at *
  have lb : fb.length ≤ 3 := by ((first | refine hfb ▸ ?_ | rewrite [← hfb]); try with_reducible rfl); simpa using ho.back.1
  have li : fi.length ≤ 3 := by ((first | refine hfi ▸ ?_ | rewrite [← hfi]); try with_reducible rfl); simpa using ho.inside.1
  have la : fa.length ≤ 3 := by ((first | refine hfa ▸ ?_ | rewrite [← hfa]); try with_reducible rfl); simpa using ho.ahead.1
  have hne : fi ≠ [] := by ((first | refine hfi ▸ ?_ | rewrite [← hfi]); try with_reducible rfl); simpa using ho.ne
  refine ⟨trivial, range1_ok (famS.mk_ h0 fun rg F1 G1 s1 z9 hrg h1 => ?_)⟩
  refine iter_range (m := 3) (h1.sub _ _ hrg) (by decide) ⟨by simp [small], ?_⟩
  have item : ∀ j : Nat, j < 3 → ∃ t row dd es fs, pickI [.ref tb, .ref ti, .ref ta, .ref tc] (j : Int) = some (.ref t) ∧ RowSp F0 t row ∧ OfForm form row ∧ pickI [.ref d0, .ref d1, .ref d2] (j : Int) = some (.ref dd) ∧ Dict6 F0 dd es 3 ∧ row.map (evalSp form es) = fs ∧ [fb, fi, fa][j]? = some fs := fun j hj => by
    match j, hj with
    | 0, _ => exact (i_EEEEEAAAAAA tb _ d0 e0 fb rfl r2 ho.back rfl m2 hfb rfl)
    | 1, _ => exact (i_EEEEEAAAAAA ti _ d1 e1 fi rfl r3 ho.inside rfl m3 hfi rfl)
    | 2, _ => exact (i_EEEEEAAAAAA ta _ d2 e2 fa rfl r4 ho.ahead rfl m4 hfa rfl)
  refine comp_fam famS (fun x F v (_ : Unit) => ∀ j : Nat, x = .int (j : Int) 0 → ∃ l, v = .ref l ∧ ∀ fs, [fb, fi, fa][j]? = some fs → PlainAt F l fs) (fun {x F F' v d} h s j e => let ⟨l, e1, e2⟩ := h j e; (i_EA l e1 (fun fs e => (e2 fs e).sub s))) h1 (fun z9 z9 z9 z9 => trivial) (fun x hx F2 G2 Kc s2 h2 kc => ?_) (fun a F2 G2 ps s2 z9 h2 ha hA => ?_)
  · refine o_EA (List.mem_map.mp hx) fun j hj e93 => ?_; subst e93
    refine o_EEEEEAAAAAA (item j (by simpa using hj)) fun t row dd es fs p1 p2 p3 p4 p5 p6 p7 => ?_
    have s12 := s1.trans s2
    walk_at "open_"
    refine cell_ok (h2.sub _ _ (s12 _ _ z1)) ?_
    refine sub_tup (h2.sub _ _ (s12 _ _ r1)) p1 ?_
    refine cell_ok (h2.sub _ _ (s12 _ _ z2)) ?_
    refine cell_ok (h2.sub _ _ (s12 _ _ z3)) ?_
    refine sub_list (h2.sub _ _ (s12 _ _ m1)) p4 ?_
    refine ⟨keep_fn H2.k__law_plain, CallT.room (CallC.T (h2.call (plain_ (n := 0) H2 (p2.sub s12) p3 (p5.sub s12) fun l F3 s3 hl G3 h3 => ?_))) (by lia)⟩
    refine kc F3 G3 _ () s3 h3 fun j' e => ?_
    have : j' = j := by have := (Value.int.inj e).1; lia
    subst this
    exact (i_EA l rfl (fun fs' e => by wide_line with p7 using e; ((first | refine p6 ▸ ?_ | rewrite [← p6]); try with_reducible rfl); exact hl))
  obtain ⟨l0, l1, l2, e3, q0, q1, q2⟩ : ∃ l0 l1 l2, ps.map (·.1) = [.ref l0, .ref l1, .ref l2] ∧ PlainAt F2 l0 fb ∧ PlainAt F2 l1 fi ∧ PlainAt F2 l2 fa := by
    cases hA with
    | cons a0 hB =>
      cases hB with
      | cons a1 hC =>
        cases hC with
        | cons a2 hD =>
          cases hD
          refine o_EA (a0 0 rfl) fun l0 x0 y0 => ?_
          refine o_EA (a1 1 rfl) fun l1 x1 y1 => ?_
          refine o_EA (a2 2 rfl) fun l2 x2 y2 => ?_
          exact (i_EEEAAA l0 l1 l2 (by simp [x0, x1, x2]) (y0 _ rfl) (y1 _ rfl) (y2 _ rfl))
  rw [e3] at ha
  have s12 := s1.trans s2
  clear hA item hrg h0 h1 s1
  have ha' := h2.sub _ _ ha
  refine (i_EAA _ (by unfold itemsG; dsimp only; rw [ha']) rfl ?_)
  dsimp only [sPs_cons, sPs_nil]
  walk_at "open_"
  refine o_EA (id q1) fun us i1 i2 => ?_
  obtain ⟨f, fs, rfl⟩ : ∃ f fs, fi = f :: fs := List.exists_cons_of_ne_nil hne
  have hus := i2.length
  cases i2 with
  | cons hu hus2 =>
  rename_i u us
  replace hb := hb.sub s12
  replace hs := s12 _ _ hs
  replace z0 := s12 _ _ z0
  have s02 := s0.trans s12
  clear z1 z2 z3 r1 r2 r3 r4 m1 m2 m3 m4 s12 s2 s0 ha ha'
  refine famS.mk_ h2 fun kd F3 G3 s3 z9 hkd h3 => ?_
  have hkd : F3 kd = some (.tup (kAr.map vStr)) := hkd
  walk_at "open_"
  refine o_EA hb.ex fun r b1 b2 => ?_
  refine o_EA (hb.at' hi) fun a ha hia => ?_
  refine o_EAA hu fun ns u1 u2 u3 => ?_; try clear hu
  refine attr_ (h3.sub _ _ (s3 _ _ b1)) Fa.c_Buffer rfl rfl rfl ?_
  refine cell_ok (h3.sub _ _ (s3 _ _ z0)) ?_
  refine sub_list (h3.sub _ _ (s3 _ _ b2)) (pick_ref ha) ?_
  refine attr_ (h3.sub _ _ (s3 _ _ hia)) Fa.c_Info rfl rfl rfl ?_
  refine sub_list (h3.sub _ _ (s3 _ _ i1)) rfl ?_
  refine notin_list_ok (h3.sub _ _ (s3 _ _ u1)) ?_
  have eany : ns.any (· == di.glyph) = f di.glyph := by
    have hii := hok i di hi
    have := u3 di.glyph hii.g0 hii.g1
    cases hf : f di.glyph with
    | true => rw [hf] at this; simpa using this
    | false =>
      rw [hf] at this
      wide_open with List.any_eq_false
      intro x hx e
      rw [eq_of_beq e] at hx
      exact absurd (this.mp hx) Bool.false_ne_true
  wide_open with eany
  have s03 := s02.trans s3
  cases hf : f di.glyph with
  | false =>
    walk_at "open_"
    refine ret_same (k _ _ (s03.trans h3.sub) ?_ rfl)
    refine (?_ : FoundAt _ _ (bif f di.glyph then _ else _))
    wide_open with hf; rfl
  | true =>
  walk_at "open_"
  have hs3 := s3 _ _ hs
  have z3 := s3 _ _ z0
  refine iter_list (h3.sub _ _ hs3) ⟨by simp [small, natsV]; lia, ?_⟩
  refine nats_comp famS (fun j => decide (i < j)) h3 (fun F' G' s h => h.sub _ _ (s _ _ hs3)) (fun j F' G' Kc hj s h yes no => ?_) fun w1 F4 G4 s4 h4 hw1 => ?_
  · walk_at "open_"
    refine cell_ok (h.sub _ _ (s _ _ z3)) ?_
    exact cmp_if (p := (i : Int) < j) rfl (fun h => yes (decide_eq_true (by lia))) (fun h => no (decide_eq_false (by lia)))
  refine slice_list_ok (lo := some 1) (hi := none) (h4.sub _ _ (s4 _ _ (s3 _ _ i1))) rfl rfl ?_
  have ecut : cut (refs (u :: us)) (some 1) none = refs us := by simp only [cut, refs, Option.getD_none, Option.getD_some, List.take_length]; rfl
  wide_open with ecut
  refine famS.mk_ h4 fun p1 F5 G5 s5 z9 hp1 h5 => ?_
  refine famS.mk_ h5 fun k2 F6 G6 s6 z9 hk2 h6 => ?_
  have hk2 : F6 k2 = some (.tup (kIn.map vStr)) := hk2
  have s46 := s4.trans (s5.trans s6)
  have s36 := s3.trans s46
  refine ⟨keep_fn H2.k__law_ways, CallT.room (CallC.T (h6.call (ways_ (n := 0) H2 hok fs (hb.sub s36) hk2 (s5.trans s6 _ _ hw1) (hnd.sublist List.filter_sublist) (fun p hp => hlt p (List.mem_filter.mp hp).1) (Nat.le_trans (List.length_filter_le _ _) hL) (i_EA us (s6 _ _ hp1) (hus2.imp fun _ _ (z : PlainOne F2 _ _) => z.sub s36)) (by simp at li; lia) fun wl F7 s7 hwl G7 h7 => ?_))) (by simp at li; lia)⟩
  walk_at "open_"
  have s37 := s36.trans s7
  have hs7 := s37 _ _ hs
  have z7 := s37 _ _ z0
  refine iter_list (h7.sub _ _ hs7) ⟨by simp [small, natsV]; lia, ?_⟩
  refine nats_comp famS (fun j => decide (j < i)) h7 (fun F' G' s h => h.sub _ _ (s _ _ hs7)) (fun j F' G' Kc hj s h yes no => ?_) fun w2 F8 G8 s8 h8 hw2 => ?_
  · walk_at "open_"
    refine cell_ok (h.sub _ _ (s _ _ z7)) ?_
    exact cmp_if (p := (j : Int) < i) rfl (fun h => yes (decide_eq_true (by lia))) (fun h => no (decide_eq_false (by lia)))
  refine neg_ ?_
  refine slice_rev_ok (h8.sub _ _ hw2) ?_
  refine famS.mk_ h8 fun w3 F9 G9 s9 z9 hw3 h9 => ?_
  have hw3 : F9 w3 = some (.list (natsV (L.filter fun j => decide (j < i)).reverse)) := by wide_open with hw3; unfold natsV; wide_open with List.map_reverse
  have s79 := s8.trans s9
  have s39 := s37.trans s79
  refine ⟨keep_fn H2.k__law_ways, CallT.room (CallC.T (h9.call (ways_ (n := 0) H2 hok fb (hb.sub s39) ((s46.trans (s7.trans s79)) _ _ hkd) hw3 (by unfold List.Nodup; wide_open with List.pairwise_reverse; exact (hnd.sublist List.filter_sublist).imp Ne.symm) (fun p hp => hlt p (List.mem_filter.mp (List.mem_reverse.mp hp)).1) (by wide_open with List.length_reverse; exact Nat.le_trans (List.length_filter_le _ _) hL) (q0.sub s39) (by lia) fun bl F10 s10 hbl G10 h10 => ?_))) (by lia)⟩
  have s710 := s79.trans s10
  have s310 := s37.trans s710
  refine o_EA (hwl.sub' s710) fun cw wl1 wl2 => ?_
  refine o_EA hbl fun cb bl1 bl2 => ?_; try clear hbl
  have z10 := s710 _ _ z7
  have hb10 := hb.sub s310
  have hs10 := s710 _ _ hs7
  have hkd10 := (s46.trans (s7.trans s710)) _ _ hkd
  have q0 := q0.sub s310
  have q2 := q2.sub s310
  have s010 := s02.trans s310
  clear h2 h3 h4 h5 h6 h7 h8 h9 hw1 hw2 hw3 hp1 hk2 s46 s36 s37 s79 s39 s3 s4 s5 s6 s7 s8 s9 s10 s710 s310 hs3 z3 hs7 z7 hus2 u1 u3 i1 hia b1 b2 hb hs z0 s02 s03 hkd eany q1
  walk_at "open_"
  refine ⟨trivial, len_list_ok (h10.sub _ _ wl1) ?_⟩
  have eF : foundW ds L i di.glyph mask fb (f :: fs) fa = (way1 ds kIn mask fs (L.filter fun j => decide (i < j))).bind fun ws => (way1 ds kAr 3 fb (L.filter fun j => decide (j < i)).reverse).bind fun bs =>
      (way1 ds kAr 3 fa (L.filter fun j => decide (lastN ws i < j))).map fun as => (i :: ws, lastN bs i, lastN as (lastN ws i)) := by
    refine (?_ : (bif f di.glyph then _ else _) = _)
    wide_open with hf; rfl
  rw [eF] at k
  clear eF hf
  cases o1 : way1 ds kIn mask fs (L.filter fun j => decide (i < j)) with
  | none =>
    rw [o1] at wl2 k
    have wl2 : cw = [] := wl2
    subst wl2
    refine cmp_t (p := (([] : List Value).length : Int) = 0) rfl rfl ?_
    walk_at "open_"
    exact ret_same (k _ _ (s010.trans h10.sub) rfl rfl)
  | some ws =>
  rw [o1] at wl2 k
  refine o_EA wl2 fun ww e92 wl3 => ?_; try clear wl2; subst e92
  refine cmp_f (p := (([Value.ref ww] : List Value).length : Int) = 0) rfl (by simp) ?_
  walk_at "open_"
  refine ⟨trivial, len_list_ok (h10.sub _ _ bl1) ?_⟩
  cases o2 : way1 ds kAr 3 fb (L.filter fun j => decide (j < i)).reverse with
  | none =>
    rw [o2] at bl2 k
    have bl2 : cb = [] := bl2
    subst bl2
    refine cmp_t (p := (([] : List Value).length : Int) = 0) rfl rfl ?_
    walk_at "open_"
    exact ret_same (k _ _ (s010.trans h10.sub) rfl rfl)
  | some bs =>
  rw [o2] at bl2 k
  refine o_EA bl2 fun bw e92 bl3 => ?_; try clear bl2; subst e92
  refine cmp_f (p := (([Value.ref bw] : List Value).length : Int) = 0) rfl (by simp) ?_
  walk_at "open_"
  refine cell_ok (h10.sub _ _ z10) ?_
  refine famS.mk_ h10 fun x1 F11 G11 s11 z9 hx1 h11 => ?_
  refine sub_list (h11.sub _ _ (s11 _ _ wl1)) rfl ?_
  have lw := way1_len o1
  have lbs := way1_len o2
  refine concat_ok (h11.sub _ _ hx1) (h11.sub _ _ (s11 _ _ wl3)) (by wide_open with nats_len; simp at li; simp [small]; lia) ?_
  refine famS.mk_ h11 fun x2 F12 G12 s12 z9 hx2 h12 => ?_
  have hx2 : F12 x2 = some (.list (natsV (i :: ws))) := hx2
  refine (i_EEAA c4 _ rfl h12.hd ?_)
  obtain ⟨f4, h13⟩ := h12.frz (o' := .cell (some (.ref x2)))
  have s13 := sub_set (o := .cell (some (.ref x2))) f4
  have z4 := GH.set_self F12 c4 (.cell (some (.ref x2)))
  have hx2 := s13 _ _ hx2
  have s1013 := s11.trans (s12.trans s13)
  generalize F12.set c4 (.cell (some (.ref x2))) = F13 at *
  generalize G12.set c4 (.cell (some (.ref x2))) = G13 at *
  clear h10 h11 h12 hx1 f4 s11 s12 s13 wl1 wl3
  walk_at "open_"
  have hs13 := s1013 _ _ hs10
  refine iter_list (h13.sub _ _ hs13) ⟨by simp [small, natsV]; lia, ?_⟩
  refine nats_comp famS (fun j => decide (lastN ws i < j)) h13 (fun F' G' s h => h.sub _ _ (s _ _ hs13)) (fun j F' G' Kc hj s h yes no => ?_) fun w4 F14 G14 s14 h14 hw4 => ?_
  · walk_at "open_"
    refine cell_ok (h.sub _ _ (s _ _ z4)) ?_
    refine neg_ ?_
    refine sub_list (h.sub _ _ (s _ _ hx2)) (pick_lastN (last_cons i ws)) ?_
    exact cmp_if (p := ((lastN ws i : Nat) : Int) < j) rfl (fun h => yes (decide_eq_true (by lia))) (fun h => no (decide_eq_false (by lia)))
  have s1014 := s1013.trans s14
  refine ⟨keep_fn H2.k__law_ways, CallT.room (CallC.T (h14.call (ways_ (n := 0) H2 hok fa (hb10.sub s1014) (s1014 _ _ hkd10) hw4 (hnd.sublist List.filter_sublist) (fun p hp => hlt p (List.mem_filter.mp hp).1) (filt_len hL) (q2.sub s1014) (by lia) fun al F15 s15 hal G15 h15 => ?_))) (by lia)⟩
  refine o_EA hal fun ca al1 al2 => ?_; try clear hal
  have s1015 := s1014.trans s15
  have z4 := s15 _ _ (s14 _ _ z4)
  have z15 := s1015 _ _ z10
  have hx2 := s15 _ _ (s14 _ _ hx2)
  have bl1 := s1015 _ _ bl1
  have bl3 := s1015 _ _ bl3
  refine o_EA (q0.sub s1015) fun us0 q0 q0' => ?_
  have lq0 := q0'.length
  have s015 := s010.trans s1015
  clear h13 h14 hw4 s1013 s14 s1014 s15 s1015 hs13 q2 hs10 hb10 hkd10 z10 s010
  walk_at "open_"
  refine ⟨trivial, len_list_ok (h15.sub _ _ al1) ?_⟩
  cases o3 : way1 ds kAr 3 fa (L.filter fun j => decide (lastN ws i < j)) with
  | none =>
    simp only [Option.bind_some, o3] at al2 k
    have al2 : ca = [] := al2
    subst al2
    refine cmp_t (p := (([] : List Value).length : Int) = 0) rfl rfl ?_
    walk_at "open_"
    exact ret_same (k _ _ (s015.trans h15.sub) rfl rfl)
  | some al =>
  simp only [Option.bind_some, o3] at al2 k
  refine o_EA al2 fun aw e92 al3 => ?_; try clear al2; subst e92
  refine cmp_f (p := (([Value.ref aw] : List Value).length : Int) = 0) rfl (by simp) ?_
  walk_at "open_"
  refine cell_ok (h15.sub _ _ z4) ?_
  refine ⟨trivial, len_list_ok (h15.sub _ _ q0) ?_⟩
  (wide_line using refs_length; wide_open with lq0)
  have la3 := way1_len o3
  refine cmp_if (p := (fb.length : Int) = 0) rfl (fun hb0 => ?_) (fun hb0 => ?_)
  · have eb : lastN bs i = i := by
      have : bs = [] := List.length_eq_zero_iff.mp (by lia)
      wide_open with this; rfl
    rw [eb] at k
    walk_at "open_"
    refine sub_list (h15.sub _ _ bl1) rfl ?_
    refine cell_ok (h15.sub _ _ z15) ?_
    refine famS.mk_ h15 fun y1 F16 G16 s16 z9 hy1 h16 => ?_
    refine concat_ok (h16.sub _ _ (s16 _ _ bl3)) (h16.sub _ _ hy1) (by wide_open with nats_len; simp [small]; lia) ?_
    refine famS.mk_ h16 fun y2 F17 G17 s17 z9 hy2 h17 => ?_
    refine neg_ ?_
    refine sub_list (h17.sub _ _ hy2) pick_last ?_
    have s157 := s16.trans s17
    walk_at "open_"
    refine cell_ok (h17.sub _ _ (s157 _ _ z4)) ?_
    refine sub_list (h17.sub _ _ (s157 _ _ al1)) rfl ?_
    refine concat_ok (h17.sub _ _ (s157 _ _ hx2)) (h17.sub _ _ (s157 _ _ al3)) (by (wide_line using nats_len; wide_open with nats_len); simp at li; simp [small]; lia) ?_
    refine famS.mk_ h17 fun y F20 G20 s20 z9 hy h20 => ?_
    rw [natsV_app] at hy
    refine neg_ ?_
    refine sub_list (h20.sub _ _ hy) (pick_lastN (last_app (last_cons i ws) al)) ?_
    refine famS.mk_ h20 fun t F21 G21 s21 z9 ht h21 => ?_
    refine ret_same (k _ _ (s015.trans ((s157.trans (s20.trans s21)).trans h21.sub)) (i_EEAA t x2 rfl (h21.sub _ _ ht) (h21.sub _ _ ((s157.trans (s20.trans s21)) _ _ hx2))) rfl)
  · have eb : bs.getLast? = some (lastN bs i) := by
      cases hq : bs.getLast? with
      | none =>
        rw [List.getLast?_eq_none_iff] at hq
        rw [hq] at lbs
        simp at lbs; lia
      | some q => unfold lastN; wide_open with hq; rfl
    walk_at "open_"
    refine sub_list (h15.sub _ _ bl1) rfl ?_
    refine neg_ ?_
    refine sub_list (h15.sub _ _ bl3) (pick_lastN eb) ?_
    have s0' := Sub.refl F15
    walk_at "open_"
    refine cell_ok (h15.sub _ _ (s0' _ _ z4)) ?_
    refine sub_list (h15.sub _ _ (s0' _ _ al1)) rfl ?_
    refine concat_ok (h15.sub _ _ (s0' _ _ hx2)) (h15.sub _ _ (s0' _ _ al3)) (by (wide_line using nats_len; wide_open with nats_len); simp at li; simp [small]; lia) ?_
    refine famS.mk_ h15 fun y F20 G20 s20 z9 hy h20 => ?_
    rw [natsV_app] at hy
    refine neg_ ?_
    refine sub_list (h20.sub _ _ hy) (pick_lastN (last_app (last_cons i ws) al)) ?_
    refine famS.mk_ h20 fun t F21 G21 s21 z9 ht h21 => ?_
    refine ret_same (k _ _ (s015.trans ((s0'.trans (s20.trans s21)).trans h21.sub)) (i_EEAA t x2 rfl (h21.sub _ _ ht) (h21.sub _ _ ((s0'.trans (s20.trans s21)) _ _ hx2))) rfl)
end
section
open PySem PySem.W PySem.Calls PyProof.Rows PySem.SeqAt
variable {W : Wd} {n : Nat} {F G : GH} {K : KV} {cs : List Addr} {M : List (Addr × GO)} {pl P : Addr}
/-! the plain law: what the law finds is what the rule's match tells -/
noncomputable def notIgn (ds : List Inf) (es : List (Int × Int)) (fl : Nat) (j : Nat) : Bool := match ds[j]? with
  | some d => !ignoredM es fl d.glyph
  | none => false
noncomputable def tailW (p : Nat → Bool) (N h : Nat) : List Nat := (List.range' h (N - h)).filter p
noncomputable def headW (p : Nat → Bool) (h : Nat) : List Nat := ((List.range h).filter p).reverse
theorem tailW_step {p : Nat → Bool} {N h : Nat} (hl : h < N) : tailW p N h = bif p h then h :: tailW p N (h + 1) else tailW p N (h + 1) := by
  unfold tailW
  (wide_line using (show N - h = (N - (h + 1)) + 1 by lia); wide_line using List.range'_succ; wide_open with List.filter_cons)
  cases p h <;> rfl
theorem tailW_end {p : Nat → Bool} {N h : Nat} (hl : N ≤ h) : tailW p N h = [] := by unfold tailW; wide_open with (show N - h = 0 by lia); rfl
theorem headW_step {p : Nat → Bool} {h : Nat} : headW p (h + 1) = bif p h then h :: headW p h else headW p h := by
  unfold headW
  (wide_line using List.range_succ; wide_line using List.filter_append; wide_open with List.filter_cons)
  cases p h <;> simp
theorem range_from : ∀ (N h : Nat), (List.range N).filter (fun j => decide (h ≤ j)) = List.range' h (N - h)
  | 0, h => by simp
  | N + 1, h => by
    (wide_line using List.range_succ; wide_line using List.filter_append; wide_line using range_from N h; wide_open with List.filter_cons)
    by_cases hl : h ≤ N
    · (wide_line using if_pos (decide_eq_true hl); wide_line using (show N + 1 - h = (N - h) + 1 by lia); wide_open with List.range'_1_concat)
      congr 2
      lia
    · (wide_line using if_neg (by simpa using hl); wide_line using (show N + 1 - h = 0 by lia); wide_open with (show N - h = 0 by lia))
      rfl
theorem range_upto : ∀ (N h : Nat), h ≤ N → (List.range N).filter (fun j => decide (j < h)) = List.range h
  | 0, h, hl => by obtain rfl : h = 0 := by lia
                   rfl
  | N + 1, h, hl => by
    (wide_line using List.range_succ; wide_line using List.filter_append; wide_open with List.filter_cons)
    by_cases hN : h = N + 1
    · subst hN
      (wide_line using if_pos (decide_eq_true (Nat.lt_succ_self N)); wide_open with List.range_succ)
      congr 1
      wide_open with List.filter_eq_self
      intro j hj
      exact decide_eq_true (Nat.lt_succ_of_lt (List.mem_range.mp hj))
    · (wide_line using if_neg (by simp; lia); wide_open with range_upto N h (by lia))
      simp
theorem filter_swap {p q : Nat → Bool} (l : List Nat) : (l.filter p).filter q = (l.filter q).filter p := by
  (wide_line using List.filter_filter; wide_open with List.filter_filter)
  congr 1
  funext j
  exact Bool.and_comm _ _
theorem seen_tail {ds : List Inf} {es : List (Int × Int)} {fl i : Nat} : (seenL ds es fl).filter (fun j => decide (i < j)) = tailW (notIgn ds es fl) ds.length (i + 1) := by
  unfold seenL tailW
  ((first | refine range_from ▸ ?_ | rewrite [← range_from]); try with_reducible rfl)
  exact filter_swap _
theorem seen_head {ds : List Inf} {es : List (Int × Int)} {fl i : Nat} (h : i ≤ ds.length) : ((seenL ds es fl).filter (fun j => decide (j < i))).reverse = headW (notIgn ds es fl) i := by
  unfold seenL headW
  ((first | refine (range_upto ds.length i h) ▸ ?_ | rewrite [← range_upto ds.length i h]); try with_reducible rfl)
  exact congrArg List.reverse (filter_swap _)
noncomputable def outW (o : Option (Nat × List Nat)) : Int := match o with
  | some r => (r.1 : Nat)
  | none => -1
theorem tail_rest {p g k : Nat → Bool} {N : Nat} : ∀ (m h : Nat) {r : Nat × List Nat}, N - h = m → stepW g k (tailW p N h) = some r → r.2 = tailW p N (r.1 + 1) ∧ r.1 < N
  | 0, h, r, e, hs => by wide_line with tailW_end (by lia) using hs
  | m + 1, h, r, e, hs => by
    rw [tailW_step (by lia)] at hs
    cases hp : p h with
    | false => rw [hp] at hs; exact tail_rest m (h + 1) (by lia) hs
    | true =>
      rw [hp] at hs
      have hs : (bif g h then some (h, tailW p N (h + 1)) else bif k h then stepW g k (tailW p N (h + 1)) else none) = some r := hs
      cases hg : g h with
      | true => wide_line with hg using hs; exact ⟨rfl, by refine (?_ : h < N); lia⟩
      | false =>
        rw [hg] at hs
        cases hk : k h with
        | true => rw [hk] at hs; exact tail_rest m (h + 1) (by lia) hs
        | false => wide_line with hk using hs
theorem head_rest {p g k : Nat → Bool} : ∀ (h : Nat) {r : Nat × List Nat}, stepW g k (headW p h) = some r → r.2 = headW p r.1 ∧ r.1 < h
  | 0, r, hs => by wide_open using hs
  | h + 1, r, hs => by
    rw [headW_step] at hs
    cases hp : p h with
    | false => rw [hp] at hs; have := head_rest h hs; exact ⟨this.1, by lia⟩
    | true =>
      rw [hp] at hs
      have hs : (bif g h then some (h, headW p h) else bif k h then stepW g k (headW p h) else none) = some r := hs
      cases hg : g h with
      | true => wide_line with hg using hs; exact ⟨rfl, Nat.lt_succ_self _⟩
      | false =>
        rw [hg] at hs
        cases hk : k h with
        | true => rw [hk] at hs; have := head_rest h hs; exact ⟨this.1, by lia⟩
        | false => wide_line with hk using hs
structure ViewOf (V : View) (ds : List Inf) : Prop where
  len : V.as.length = ds.length
  at' : ∀ (j : Nat) (a : Addr) (d : Inf), V.as[j]? = some a → ds[j]? = some d → V.I a = d
noncomputable def goodB (ds : List Inf) (mask : Int) (inp : Bool) (f : Int → Bool) (j : Nat) : Bool := match ds[j]? with
  | some d => f d.glyph && (Builtin.bitAnd d.mask mask != 0 || !inp)
  | none => false
theorem seek_one {V : View} {ds : List Inf} (hv : ViewOf V ds) {f : Int → Bool} {kinds : List Str} {inp : Bool} {step : Int} {q h : Nat} (hl : h < ds.length) {rest : List Nat} (hr : seek V f kinds inp step q ((h : Int) + step) = outW (stepW (goodB ds V.mask inp f) (kinW ds kinds) rest)) :
    seek V f kinds inp step (q + 1) (h : Int) = outW (stepW (goodB ds V.mask inp f) (kinW ds kinds) (bif notIgn ds V.es V.fl h then h :: rest else rest)) := by
  obtain ⟨d, hd⟩ : ∃ d, ds[h]? = some d := ⟨_, List.getElem?_eq_getElem hl⟩
  obtain ⟨a, ha⟩ : ∃ a, V.as[h]? = some a := ⟨_, List.getElem?_eq_getElem (by wide_open with hv.len; exact hl)⟩
  rw [seek, if_pos ⟨Int.natCast_nonneg _, by have := hv.len; lia⟩, Int.toNat_natCast, ha]
  dsimp only
  wide_open with hv.at' h a d ha hd
  have e1 : notIgn ds V.es V.fl h = !ignoredM V.es V.fl d.glyph := by unfold notIgn; wide_open with hd
  wide_open with e1
  unfold judge
  cases hi : ignoredM V.es V.fl d.glyph with
  | true => simpa using hr
  | false =>
    simp only [Bool.false_eq_true, if_false, Bool.not_false, cond_true]
    refine (?_ : _ = outW (bif goodB ds V.mask inp f h then some (h, rest) else bif kinW ds kinds h then stepW (goodB ds V.mask inp f) (kinW ds kinds) rest else none))
    have e2 : goodB ds V.mask inp f h = (f d.glyph && (Builtin.bitAnd d.mask V.mask != 0 || !inp)) := by unfold goodB; wide_open with hd
    have e3 : kinW ds kinds h = kinds.any (· == d.kind) := by unfold kinW; wide_open with hd
    (wide_line using e2; wide_open with e3)
    cases (f d.glyph && (Builtin.bitAnd d.mask V.mask != 0 || !inp)) with
    | true => rfl
    | false =>
      cases kinds.any (· == d.kind) with
      | true => simpa using hr
      | false => rfl
theorem seek_tail {V : View} {ds : List Inf} (hv : ViewOf V ds) {f : Int → Bool} {kinds : List Str} {inp : Bool} : ∀ (q h : Nat), ds.length < h + q → seek V f kinds inp 1 q (h : Int) = outW (stepW (goodB ds V.mask inp f) (kinW ds kinds) (tailW (notIgn ds V.es V.fl) ds.length h))
  | 0, h, hq => by wide_open with tailW_end (by lia); rfl
  | q + 1, h, hq => by
    by_cases hl : h < ds.length
    · wide_open with tailW_step hl
      exact seek_one hv hl (by wide_open with (show ((h : Int) + 1) = ((h + 1 : Nat) : Int) by push_cast; rfl); exact seek_tail hv q (h + 1) (by lia))
    · (wide_line using tailW_end (by lia); wide_line using seek; wide_open with if_neg (by have := hv.len; lia))
      rfl
theorem seek_head {V : View} {ds : List Inf} (hv : ViewOf V ds) {f : Int → Bool} {kinds : List Str} {inp : Bool} : ∀ (q h : Nat), h < q → h ≤ ds.length → seek V f kinds inp (-1) q ((h : Int) + -1) = outW (stepW (goodB ds V.mask inp f) (kinW ds kinds) (headW (notIgn ds V.es V.fl) h))
  | 0, h, hq, _ => by lia
  | q + 1, 0, _, _ => by (wide_line using seek; wide_open with if_neg (by lia)); rfl
  | q + 1, h + 1, hq, hl => by
    (wide_line using headW_step; wide_open with (show (((h + 1 : Nat) : Int) + -1) = (h : Int) by push_cast; lia))
    exact seek_one hv (by lia) (seek_head hv q h (by lia) (by lia))
theorem places_way {S : (Int → Bool) → Int → Int} {ds : List Inf} {kinds : List Str} {mask : Int} {nx : Nat → List Nat} {N : Nat} (hS : ∀ f (i : Nat), i < N → S f i = outW (stepW (goodW ds mask f) (kinW ds kinds) (nx i))) (hr : ∀ f (i : Nat) r, i < N → stepW (goodW ds mask f) (kinW ds kinds) (nx i) = some r → r.2 = nx r.1 ∧ r.1 < N) :
    ∀ (fs : List (Int → Bool)) (i : Nat), i < N → placesM S fs i = (way1 ds kinds mask fs (nx i)).map (List.map fun (j : Nat) => (j : Int)) ∧ walkM S fs i = ((way1 ds kinds mask fs (nx i)).map fun w => ((lastN w i : Nat) : Int)) ∧ ∀ w, way1 ds kinds mask fs (nx i) = some w → lastN w i < N
  | [], i, hi => (i_AA rfl rfl (fun w e => by wide_open using e; exact hi))
  | f :: fs, i, hi => by
    have e := hS f i hi
    have ew : way1 ds kinds mask (f :: fs) (nx i) = (stepW (goodW ds mask f) (kinW ds kinds) (nx i)).bind fun r => (way1 ds kinds mask fs r.2).map (r.1 :: ·) := rfl
    (wide_line using ew; wide_line using placesM; wide_line using walkM; wide_open with e)
    cases hq : stepW (goodW ds mask f) (kinW ds kinds) (nx i) with
    | none => exact (i_AA rfl rfl (fun w e => by wide_open using e))
    | some r =>
      obtain ⟨r1, r2⟩ := hr f i r hi hq
      refine o_AA (places_way hS hr fs r.1 r2) fun h1 h2 h3 => ?_
      have e1 : outW (some r) = ((r.1 : Nat) : Int) := rfl
      (wide_line using e1; wide_line using if_neg (by lia); wide_line using if_neg (by lia); wide_line using h1; wide_line using h2; wide_line using Option.bind_some; wide_open with r1)
      cases hw : way1 ds kinds mask fs (nx r.1) with
      | none => exact (i_AA rfl rfl (fun w e => by wide_open using e))
      | some w =>
        have el : lastN (r.1 :: w) i = lastN w r.1 := by unfold lastN; wide_open with List.getLast?_cons; rfl
        exact (i_AA rfl (congrArg (fun x : Nat => some (x : Int)) el.symm) (fun w' e => by wide_open using e; wide_open with el; exact h3 w hw))
theorem good_in {ds : List Inf} {mask : Int} {f : Int → Bool} : goodB ds mask true f = goodW ds mask f := by
  funext j
  unfold goodB goodW
  cases ds[j]? with
  | none => rfl
  | some d => simp
theorem good_ar {ds : List Inf} (hok : ∀ i d, ds[i]? = some d → InfOK i d) {mask : Int} {f : Int → Bool} : goodB ds mask false f = goodW ds 3 f := by
  funext j
  unfold goodB goodW
  cases hd : ds[j]? with
  | none => rfl
  | some d =>
    have h3 : (Builtin.bitAnd d.mask 3 != 0) = true := by
      rcases (hok j d hd).msk with h | h | h <;> wide_open with h <;> decide +kernel
    simp [h3]
theorem match_found {V : View} {ds : List Inf} (hv : ViewOf V ds) (hok : ∀ i d, ds[i]? = some d → InfOK i d) {i : Nat} {a : Addr} {di : Inf} (ha : V.as[i]? = some a) (hi : ds[i]? = some di) (fb : List (Int → Bool)) (f : Int → Bool) (fs fa : List (Int → Bool)) :
    matchM V i a fb f fs fa = (foundW ds (seenL ds V.es V.fl) i di.glyph V.mask fb (f :: fs) fa).map fun q => (q.1.map fun (j : Nat) => (j : Int), ((q.2.1 : Nat) : Int), ((q.2.2 : Nat) : Int)) := by
  have hN : i < ds.length := (List.getElem?_eq_some_iff.mp hi).1
  have sF : ∀ (inp : Bool) (kinds : List Str) f (j : Nat), srch V kinds inp 1 f j = outW (stepW (goodB ds V.mask inp f) (kinW ds kinds) (tailW (notIgn ds V.es V.fl) ds.length (j + 1))) := fun inp kinds f j => by
    unfold srch
    wide_open with (show ((j : Int) + 1) = ((j + 1 : Nat) : Int) by push_cast; rfl)
    exact seek_tail hv _ _ (by have := hv.len; lia)
  have sB : ∀ (kinds : List Str) f (j : Nat), j < ds.length → srch V kinds false (-1) f j = outW (stepW (goodB ds V.mask false f) (kinW ds kinds) (headW (notIgn ds V.es V.fl) j)) := fun kinds f j hj => by
    unfold srch
    exact seek_head hv _ _ (by have := hv.len; lia) (by lia)
  have wIn := places_way (S := srch V kIn true 1) (ds := ds) (kinds := kIn) (mask := V.mask) (nx := fun j => tailW (notIgn ds V.es V.fl) ds.length (j + 1)) (N := ds.length) (fun f j z9 => by ((first | refine good_in ▸ ?_ | rewrite [← good_in]); try with_reducible rfl); exact sF true kIn f j) (fun f j r z9 h => tail_rest _ _ rfl h)
  have wAr := places_way (S := srch V kAr false 1) (ds := ds) (kinds := kAr) (mask := 3) (nx := fun j => tailW (notIgn ds V.es V.fl) ds.length (j + 1)) (N := ds.length) (fun f j z9 => by ((first | refine (good_ar hok (mask := V.mask)) ▸ ?_ | rewrite [← good_ar hok (mask := V.mask)]); try with_reducible rfl); exact sF false kAr f j) (fun f j r z9 h => tail_rest _ _ rfl h)
  have wBk := places_way (S := srch V kAr false (-1)) (ds := ds) (kinds := kAr) (mask := 3) (nx := fun j => headW (notIgn ds V.es V.fl) j) (N := ds.length) (fun f j hj => by ((first | refine (good_ar hok (mask := V.mask)) ▸ ?_ | rewrite [← good_ar hok (mask := V.mask)]); try with_reducible rfl); exact sB kAr f j hj) (fun f j r hj h => by have := head_rest _ h; exact ⟨this.1, by lia⟩)
  unfold matchM
  wide_open with hv.at' i a di ha hi
  have eF : foundW ds (seenL ds V.es V.fl) i di.glyph V.mask fb (f :: fs) fa = bif f di.glyph then
    (way1 ds kIn V.mask fs (tailW (notIgn ds V.es V.fl) ds.length (i + 1))).bind fun ws => (way1 ds kAr 3 fb (headW (notIgn ds V.es V.fl) i)).bind fun bs =>
      (way1 ds kAr 3 fa (tailW (notIgn ds V.es V.fl) ds.length (lastN ws i + 1))).map fun as => (i :: ws, lastN bs i, lastN as (lastN ws i))
    else none := by
    unfold foundW
    (wide_line using seen_tail; wide_open with seen_head (by lia))
    simp only [seen_tail]
  wide_open with eF
  cases f di.glyph with
  | false => rfl
  | true =>
    (wide_line using if_pos rfl; wide_line using cond_true; wide_open with (wIn fs i hN).1)
    cases hw : way1 ds kIn V.mask fs (tailW (notIgn ds V.es V.fl) ds.length (i + 1)) with
    | none => rfl
    | some ws =>
      simp only [Option.map_some, Option.bind_some]
      wide_open with (wBk fb i hN).2.1
      cases way1 ds kAr 3 fb (headW (notIgn ds V.es V.fl) i) with
      | none => rfl
      | some bs =>
        simp only [Option.map_some, Option.bind_some]
        have hl := (wIn fs i hN).2.2 ws hw
        have eg : ((i : Int) :: ws.map fun (j : Nat) => (j : Int)).getLast (by simp) = ((lastN ws i : Nat) : Int) := by
          have e1 : ((i : Int) :: ws.map fun (j : Nat) => (j : Int)).getLast? = some ((lastN ws i : Nat) : Int) := by
            (wide_line using (show ((i : Int) :: ws.map fun (j : Nat) => (j : Int)) = (i :: ws).map fun (j : Nat) => (j : Int) from rfl); wide_line using List.getLast?_map; wide_open with last_cons); rfl
          rw [List.getLast?_eq_some_getLast (by simp)] at e1
          exact Option.some.inj e1
        (wide_line using eg; wide_open with (wAr fa _ hl).2.1)
        cases way1 ds kAr 3 fa (tailW (notIgn ds V.es V.fl) ds.length (lastN ws i + 1)) with
        | none => rfl
        | some as => rfl
end
section
open PySem PySem.W PySem.Calls PyProof.Rows PySem.SeqAt
variable {W : Wd} {n : Nat} {F G : GH} {K : KV} {cs : List Addr} {M : List (Addr × GO)} {pl P : Addr}
noncomputable def wordOf (form : Int) : Str := if form = 1 then "glyph" else if form = 2 then "class" else "cover"
noncomputable def RowT (F : GH) (form : Int) (t : Addr) (x : Value) (fs : List (Int → Bool)) : Prop :=
  (form = 3 ∧ CovRow F t fs) ∨ ∃ ys : List Int, F t = some (.tup (ys.map vInt)) ∧ ys.length ≤ 10 ∧ ((form = 1 ∧ fs = ys.map fun y g => decide (y = g)) ∨ (form = 2 ∧ ∃ q es, x = .ref q ∧ ClsAt F q es ∧ fs = ys.map fun y g => decide (getI es g = y)))
theorem RowT.sub {F' : GH} {form t x fs} (z : RowT F form t x fs) (h : Sub F F') : RowT F' form t x fs := by
  rcases z with ⟨e, z⟩ | ⟨ys, e1, e2, z | ⟨e3, q, es, e4, e5, e6⟩⟩
  · exact .inl ⟨e, z.sub h⟩
  · exact .inr (i_EAA ys (h _ _ e1) e2 (.inl z))
  · exact .inr (i_EAA ys (h _ _ e1) e2 (.inr (i_AEEAA e3 q es e4 (e5.sub h) e6)))
theorem tests_ (Fa : Facts W) {form : Int} {row : Addr} {x : Value} {fs : List (Int → Bool)} (h : RowT G form row x fs) (k : ∀ l G', Sub G G' → TestsAt G' l fs → K (.ref l) G') : CallC W (n + 1) (.ref a_tests_of) [.ref row, .str (wordOf form) 0, x] G K := by
  have e3 : ((Str.ofString "class" : Str) == Str.ofString "class") = true := by decide +kernel
  have e5 : ((Str.ofString "glyph" : Str) == Str.ofString "class") = false := by decide +kernel
  rcases h with ⟨rfl, h⟩ | ⟨ys, h1, h2, h3⟩
  · exact tests_cover_ Fa h fun l G' s z9 ht => k l G' s ht
  refine fnCc Fa Fa.f_tests_of rfl (by simp [sp_tests_of]) fun cod cs hl hn hf => ?_
  refine o_EEA (two_cells hl hn) fun c0 c1 e93 hc => ?_; subst e93
  dsimp only [sp_tests_of, b_tests_of]
  refine o_EAA (famS.cells (vs := [.str (wordOf form) 0, x]) St.start hn hf) fun F0 s0 h0 hz => ?_
  have z0 := hz 0 c0 _ rfl rfl
  have z1 := hz 1 c1 _ rfl rfl
  walk_at "open_"
  replace h0 : St [] F0 (setCs G [c0, c1] [some (.str (wordOf form) 0), some x]) := h0
  clear hz hf
  generalize setCs G [c0, c1] [some (.str (wordOf form) 0), some x] = G0 at *
  replace h1 := s0 _ _ h1
  have fin : ∀ {g : Int → Int → Bool} {a : Addr} {F' G' : GH} {ps : List (Value × Unit)}, fs = ys.map g → Sub F0 F' → St [] F' G' → F' a = some (.list (ps.map (·.1))) → All2 (fun x (p : Value × Unit) => ∀ y, x = vInt y → ∃ u, p.1 = .ref u ∧ TestAt F' u (g y)) (ys.map vInt) ps → bodyK K (.ret (.ref a)) [some (.ref row)] G' := fun {g a F' G' ps} eg s h ha hA => by
    have : ∀ {ys : List Int} {ps : List (Value × Unit)}, All2 (fun x (p : Value × Unit) => ∀ y, x = vInt y → ∃ u, p.1 = .ref u ∧ TestAt F' u (g y)) (ys.map vInt) ps → ∃ us, ps.map (·.1) = refs us ∧ All2 (TestAt F') us (ys.map g) ∧ us.length = ys.length := fun {ys} => by
      induction ys with
      | nil => intro ps h; cases h; exact (i_EAA ([]) rfl .nil rfl)
      | cons y ys ih =>
        intro ps h
        cases h with
        | cons hx t =>
          refine o_EAA (ih t) fun us e a l => ?_
          refine o_EA (hx y rfl) fun u e1 e2 => ?_
          exact (i_EAA (u :: us) (by simp [e, e1, refs]) (.cons e2 a) (by simp [l]))
    refine o_EAA (this hA) fun us e hT hl => ?_
    rw [e] at ha
    exact ret_same (k a G' (s0.trans (s.trans h.sub)) (i_EAA us (h.sub _ _ ha) (by wide_open with eg; exact hT.imp fun z9 z9 z => z.sub h.sub) (by lia)))
  refine cell_ok (h0.sub _ _ z0) ?_
  rcases h3 with ⟨rfl, hfs⟩ | ⟨rfl, q, es, rfl, hq, hfs⟩
  · refine eq_str_ok ?_
    (wide_line using (show (wordOf 1 : Str) = Str.ofString "glyph" from rfl); wide_line using (show (("class" : Str)) = Str.ofString "class" from rfl); wide_open with e5)
    walk_at "open_"
    refine iter_tup (h0.sub _ _ h1) ⟨by simp [small]; lia, ?_⟩
    refine comp_fam famS (fun x F v (_ : Unit) => ∀ y, x = vInt y → ∃ u, v = .ref u ∧ TestAt F u (fun g => decide (y = g))) (fun {x F F' v d} h s y e => let ⟨u, e1, e2⟩ := h y e; (i_EA u e1 (e2.sub s))) h0 (fun F' G' s h => h.sub _ _ (s _ _ h1)) (fun x hx F2 G2 Kc s2 h2 kc => ?_) (fun a F2 G2 ps s2 z9 h2 ha hA => fin hfs s2 h2 ha hA)
    refine o_EA (List.mem_map.mp hx) fun y z9 e93 => ?_; subst e93
    walk_at "open_"
    refine cell_ok (h2.sub _ _ (s2 _ _ z0)) ?_
    refine famS.mk_ h2 fun u F3 G3 s3 z9 hu h3 => kc F3 G3 _ () s3 h3 fun y' e => ?_
    wide_open using e
    exact (i_EA u rfl (.inl (i_EA y hu rfl)))
  · refine eq_str_ok ?_
    (wide_line using (show (wordOf 2 : Str) = Str.ofString "class" from rfl); wide_line using (show (("class" : Str)) = Str.ofString "class" from rfl); wide_open with e3)
    walk_at "open_"
    refine iter_tup (h0.sub _ _ h1) ⟨by simp [small]; lia, ?_⟩
    refine comp_fam famS (fun x F v (_ : Unit) => ∀ y, x = vInt y → ∃ u, v = .ref u ∧ TestAt F u (fun g => decide (getI es g = y))) (fun {x F F' v d} h s y e => let ⟨u, e1, e2⟩ := h y e; (i_EA u e1 (e2.sub s))) h0 (fun F' G' s h => h.sub _ _ (s _ _ h1)) (fun x hx F2 G2 Kc s2 h2 kc => ?_) (fun a F2 G2 ps s2 z9 h2 ha hA => fin hfs s2 h2 ha hA)
    refine o_EA (List.mem_map.mp hx) fun y z9 e93 => ?_; subst e93
    walk_at "open_"
    refine cell_ok (h2.sub _ _ (s2 _ _ z1)) ?_
    refine famS.mk_ h2 fun u F3 G3 s3 z9 hu h3 => kc F3 G3 _ () s3 h3 fun y' e => ?_
    wide_open using e
    exact (i_EA u rfl (.inr (.inl (i_EEEAA q es y hu (hq.sub (s0.trans (s2.trans s3))) rfl))))
noncomputable def RuleT (F : GH) (form : Int) (x0 x1 x2 : Value) (e0 e1 e2 : List (Int × Int)) (ru : Addr) (d : RuleD) : Prop := ∃ b i a c, F ru = some (ruleO b i a (.ref c)) ∧ RowT F form b x0 (d.back.map (evalSp form e0)) ∧ RowT F form i x1 (d.inside.map (evalSp form e1)) ∧ RowT F form a x2 (d.ahead.map (evalSp form e2)) ∧ ActsAt F c d.acts
theorem RuleT.sub {F' : GH} {form x0 x1 x2 e0 e1 e2 ru d} (z : RuleT F form x0 x1 x2 e0 e1 e2 ru d) (h : Sub F F') : RuleT F' form x0 x1 x2 e0 e1 e2 ru d := by refine o_EEEEAAAA z fun b i a c h0 h1 h2 h3 h4 => ?_; try clear z; exact (i_EEEEAAAA b i a c (h _ _ h0) (h1.sub h) (h2.sub h) (h3.sub h) (h4.sub h))
noncomputable def TestsTu (F : GH) (form : Int) (e0 e1 e2 : List (Int × Int)) (tu : Addr) (d : RuleD) : Prop := ∃ bl il al c, F tu = some (.tup [.ref bl, .ref il, .ref al, .ref c]) ∧ TestsAt F bl (d.back.map (evalSp form e0)) ∧ TestsAt F il (d.inside.map (evalSp form e1)) ∧ TestsAt F al (d.ahead.map (evalSp form e2)) ∧ ActsAt F c d.acts
theorem TestsTu.sub {F' : GH} {form e0 e1 e2 tu d} (z : TestsTu F form e0 e1 e2 tu d) (h : Sub F F') : TestsTu F' form e0 e1 e2 tu d := by refine o_EEEEAAAA z fun b i a c h0 h1 h2 h3 h4 => ?_; try clear z; exact (i_EEEEAAAA b i a c (h _ _ h0) (h1.sub h) (h2.sub h) (h3.sub h) (h4.sub h))
noncomputable def ClsOf (F : GH) (form : Int) (cl x0 x1 x2 : Value) : Prop := if form = 2 then ∃ t, cl = .ref t ∧ F t = some (.tup [x0, x1, x2]) else x0 = .none ∧ x1 = .none ∧ x2 = .none
set_option tactic.hygienic true in
theorem ClsOf.sub {F' : GH} {form cl x0 x1 x2} (z : ClsOf F form cl x0 x1 x2) (h : Sub F F') : ClsOf F' form cl x0 x1 x2 := by
  unfold ClsOf at *
  split
  · rename_i e; rw [if_pos e] at z; refine o_EA z fun t e1 e2 => ?_; try clear z; exact (i_EA t e1 (h _ _ e2))
  · rename_i e; rw [if_neg e] at z; exact z
theorem rule_tests_ (Fa : Facts W) {form : Int} {tb ru sets : Addr} {ch : Bool} {cv cl x0 x1 x2 : Value} {e0 e1 e2 : List (Int × Int)} {d : RuleD} (hform : form = 1 ∨ form = 2 ∨ form = 3) (ht : G tb = some (ctxO form ch sets cv cl)) (hcl : ClsOf G form cl x0 x1 x2) (hcb : isBlt cl = false) (hr : RuleT G form x0 x1 x2 e0 e1 e2 ru d)
    (k : ∀ tu G', Sub G G' → TestsTu G' form e0 e1 e2 tu d → K (.ref tu) G') : CallC W (n + 2) (.ref a_rule_tests) [.ref tb, .ref ru] G K := by
  refine o_EEEEAAAA hr fun b i a c hr hb hi ha hc => ?_
  refine fnC Fa Fa.f_rule_tests rfl rfl fun cd => ?_
  dsimp only [sp_rule_tests, b_rule_tests]
  walk_at "open_"
  refine famE.mk_ rfl fun w F1 z9 s1 z9 hw e => ?_
  subst e
  refine attr_ (s1 _ _ ht) Fa.c_Contexts rfl rfl rfl ?_
  have hword : pickI [Value.str "" 0, .str "glyph" 0, .str "class" 0, .str "cover" 0] form = some (.str (wordOf form) 0) := by
    rcases hform with rfl | rfl | rfl <;> rfl
  refine sub_list hw hword ?_
  walk_at "open_"
  refine attr_ (s1 _ _ ht) Fa.c_Contexts rfl rfl rfl ?_
  have rest : ∀ F2 t, Sub G F2 → F2 t = some (.tup [x0, x1, x2]) → ∃ vs, itemsG (.ref t) F2 = some vs ∧ vs.length = 3 ∧ setPs [] [.loc 3, .loc 4, .loc 5] vs [some (.ref tb), some (.ref ru), some (.str (wordOf form) 0), none, none, none] F2 fun m' G2 => wpSs W (n + 1) cd [] [] (b_rule_tests.drop 2) m' G2 (bodyK K) := fun F2 t s2 ht2 => by
    refine (i_EAA _ (by unfold itemsG; dsimp only; rw [ht2]) rfl ?_)
    dsimp only [sPs_cons, sPs_nil, b_rule_tests, ndropS, ndrop0]
    walk_at "open_"
    refine attr_ (s2 _ _ hr) Fa.c_Rule rfl rfl rfl ?_
    refine ⟨keep_fn Fa.k_tests_of, (tests_ Fa (hb.sub s2) fun bl G1 q1 q2 => ?_).T⟩
    have s3 := s2.trans q1
    refine attr_ (s3 _ _ hr) Fa.c_Rule rfl rfl rfl ?_
    refine ⟨keep_fn Fa.k_tests_of, (tests_ Fa (hi.sub s3) fun il G2 p1 p2 => ?_).T⟩
    have s4 := s3.trans p1
    refine attr_ (s4 _ _ hr) Fa.c_Rule rfl rfl rfl ?_
    refine ⟨keep_fn Fa.k_tests_of, (tests_ Fa (ha.sub s4) fun al G3 r1 r2 => ?_).T⟩
    have s5 := s4.trans r1
    refine attr_ (s5 _ _ hr) Fa.c_Rule rfl rfl rfl ?_
    refine famE.mk_ rfl fun tu F6 z9 s6 z9 htu e => ?_
    subst e
    exact ret_same (k tu F6 (s5.trans s6) (i_EEEEAAAA bl il al c htu (q2.sub (p1.trans (r1.trans s6))) (p2.sub (r1.trans s6)) (r2.sub s6) (hc.sub (s5.trans s6))))
  refine cmp_if (p := form = 2) rfl (fun h2 => ?_) (fun h2 => ?_)
  · unfold ClsOf at hcl
    rw [if_pos h2] at hcl
    obtain ⟨t, rfl, hcl⟩ := hcl
    walk_at "open_"
    refine attr_ (s1 _ _ ht) Fa.c_Contexts rfl rfl rfl ?_
    exact rest F1 t s1 (s1 _ _ hcl)
  · unfold ClsOf at hcl
    rw [if_neg h2] at hcl
    refine o_AA hcl fun e91 e92 e93 => ?_; try clear hcl; subst e91; subst e92; subst e93
    walk_at "open_"
    refine famE.mk_ rfl fun t F2 z9 s2 z9 ht2 e => ?_
    subst e
    exact rest F2 t (s1.trans s2) ht2
end
section
open PySem PySem.W PySem.Calls PyProof.Rows PySem.SeqAt
variable {W : Wd} {n : Nat} {F G : GH} {K : KV} {cs : List Addr} {M : List (Addr × GO)} {pl P : Addr}
theorem refs_comp {α β : Type} {R : Addr → α → Prop} {Q : Addr → β → Prop} {g : α → β} {us : List Addr} {as : List α} (h1 : All2 R us as) : ∀ {ps : List (Value × Unit)}, All2 (fun x (p : Value × Unit) => ∀ u a, x = .ref u → R u a → ∃ c, p.1 = .ref c ∧ Q c (g a)) (refs us) ps → ∃ cs, ps.map (·.1) = refs cs ∧ All2 Q cs (as.map g) := by
  induction h1 with
  | nil => intro ps h2; obtain rfl := h2.nil_inv; exact (i_EA ([]) rfl .nil)
  | cons h t ih =>
    intro ps h2
    refine o_EEAA h2.cons_inv fun p qs e93 a1 a2 => ?_; subst e93
    refine o_EA (ih a2) fun cs e r => ?_
    refine o_EA (a1 _ _ rfl h) fun c e1 e2 => ?_
    exact (i_EA (c :: cs) (by simp [e, e1, refs]) (.cons e2 r))
theorem covers_ (Fa : Facts W) {t : Addr} {row : List Sp} (ht : RowSp G t row) (ho : OfForm 3 row) (k : ∀ u G', Sub G G' → (∀ es, CovRow G' u (row.map (evalSp 3 es))) → K (.ref u) G') :
    iterG (.ref t) G fun xs chk => small xs.length ∧ compG chk (fun x G2 k => keepG W (.ref a_coverage_of) G2 ∧ CallT W (n + 3) (.ref a_coverage_of) [x] G2 fun v G5 => k (some v) G5) xs [] G fun v G1 => keepG W (.type "tuple") G1 ∧ CallT W (n + 3) (.type "tuple") [v] G1 K := by
  refine o_EA ht fun vs h1 h2 => ?_; try clear ht
  refine o_EEAA (all_cov h2 fun e he => by wide_open with ho.2 e he; rfl) fun us nss e93 e94 hA => ?_; subst e93; subst e94
  have hl := hA.length
  have hlr := ho.1
  simp at hlr
  refine iter_tup h1 ⟨by simp [small, refs]; lia, ?_⟩
  refine comp_fam famE (fun x F v (_ : Unit) => ∀ (u : Addr) (ns : List Int), x = .ref u → G u = some (.list (ns.map vInt)) ∧ ns.length ≤ 10 → ∃ c, v = .ref c ∧ CovF F c (evalSp 3 [] (.cov ns))) (fun {x F F' v d} h s u ns e q => let ⟨c, e1, e2⟩ := h u ns e q; (i_EA c e1 (e2.sub s))) rfl (fun F' G' s e => by subst e; exact s _ _ h1) (fun x hx F2 G2 Kc s2 e kc => ?_) (fun a F2 G2 ps s2 z9 e ha hA2 => ?_)
  · subst e
    refine o_EA (List.mem_map.mp hx) fun u hu e93 => ?_; subst e93
    obtain ⟨i, hi⟩ := List.mem_iff_getElem?.mp hu
    obtain ⟨ns, hns⟩ : ∃ ns, nss[i]? = some ns := ⟨_, List.getElem?_eq_getElem (by have := (List.getElem?_eq_some_iff.mp hi).1; lia)⟩
    refine o_EAA (hA.get hns) fun u' hu' q1 q2 => ?_
    rw [hi] at hu'
    wide_open using hu'
    refine ⟨keep_fn Fa.k_coverage_of, CallC.T (coverage_of_ Fa (s2 _ _ q1) (by lia) fun c ms F3 s3 z9 hc hp hmem => kc F3 F3 _ () s3 rfl fun u' ns' e q => ?_)⟩
    wide_open using e
    have e : ns' = ns := by
      have := q1.symm.trans q.1
      exact map_vInt_inj (GO.list.inj (Option.some.inj this)).symm
    subst e
    exact (i_EAEAA c rfl ms hc hp (funext fun g => by simp [evalSp, hmem]))
  · subst e
    refine o_EA (refs_comp (g := fun ns => evalSp 3 [] (.cov ns)) hA hA2) fun cs e hC => ?_
    rw [e] at ha
    refine ⟨trivial, tup_of_list_ok ha (famE.mk_ rfl fun u F3 z9 s3 z9 hu e => ?_)⟩
    subst e
    refine k u F3 (s2.trans s3) fun es => (i_EAA cs hu ?_ ?_)
    · wide_open with List.map_map; exact hC.imp fun z9 z9 z => z.sub s3
    · have := hC.length
      simp at this; lia
theorem new_Contexts5 (Fa : Facts W) {f : Int} {c : Bool} {s v w : Addr} (k : newG (ctxO f c s (.ref v) (.ref w)) G K) : CallC W (n + 2) (.ref a_Contexts) [.int f 0, .bool c, .ref s, .ref v, .ref w] G K := by
  refine clsC Fa Fa.c_Contexts fun a ha => fnC Fa Fa.f_Contexts_full rfl rfl fun cd => ?_
  dsimp only [sp_Contexts___init__, b_Contexts___init__]
  walk_at "open_"
  iterate 5 refine seta_new Fa.c_Contexts rfl rfl ?_
  exact init_end (k a ha)
noncomputable def keyOf (d : RuleD) : Int := match d.inside with
  | .num x :: _ => x
  | _ => 0
noncomputable def SetsAt (F : GH) (R : Addr → RuleD → Prop) (es : List (Int × Value)) (rds : List RuleD) : Prop := ∀ key : Int, match es.lookup key with
  | none => rds.filter (fun d => keyOf d == key) = []
  | some v => ∃ l rus, v = .ref l ∧ F l = some (.list (refs rus)) ∧ All2 R rus (rds.filter fun d => keyOf d == key)
set_option tactic.hygienic true in
theorem SetsAt.mono {F' : GH} {R R' : Addr → RuleD → Prop} {es rds} (z : SetsAt F R es rds) (h : Sub F F') (hR : ∀ a d, d ∈ rds → R a d → R' a d) : SetsAt F' R' es rds := fun key => by
  have := z key
  split
  · rename_i e; rw [e] at this; exact this
  · rename_i v e
    rw [e] at this
    refine o_EEAA this fun l rus e1 e2 e3 => ?_; try clear this
    refine (i_EEAA l rus e1 (h _ _ e2) ?_)
    have hm : ∀ d ∈ rds.filter (fun d => keyOf d == key), d ∈ rds := fun d hd => (List.mem_filter.mp hd).1
    generalize rds.filter (fun d => keyOf d == key) = l at *
    clear e2
    induction e3 with
    | nil => exact .nil
    | cons x _ ih => exact .cons (hR _ _ (hm _ (by simp)) x) (ih fun d hd => hm d (by simp [hd]))
theorem put_lookup : ∀ (es : List (Int × Value)) (k : Int) (v : Value) (k' : Int), (put es k v).lookup k' = if k' = k then some v else es.lookup k' := by
  intro es k v k'
  unfold put
  by_cases hany : es.any (fun kv => kv.1 = k) = true
  · wide_open with if_pos hany
    induction es with
    | nil => wide_open using hany
    | cons p r ih =>
      obtain ⟨a, b⟩ := p
      (wide_line using List.map_cons; wide_open with List.lookup_cons)
      by_cases ha : a = k
      · subst ha
        wide_open with if_pos rfl
        by_cases hk : k' = a
        · subst hk; simp
        · have : (k' == a) = false := by simpa using hk
          simp only [List.lookup_cons, this, if_neg hk]
          have mp : ∀ l : List (Int × Value), (l.map fun kv => if kv.1 = a then (kv.1, v) else kv).lookup k' = l.lookup k' := fun l => by
            induction l with
            | nil => rfl
            | cons q l ih =>
              (wide_line using List.map_cons; wide_line using List.lookup_cons; wide_open with List.lookup_cons)
              by_cases hq : q.1 = a
              · wide_open with if_pos hq
                have : (k' == q.1) = false := by wide_open with hq; simpa using hk
                simp [this, ih]
              · wide_open with if_neg hq
                cases hb : k' == q.1
                · simp [ih]
                · rfl
          exact mp r
      · wide_open with if_neg ha
        have hr : r.any (fun kv => kv.1 = k) = true := by simpa [ha] using hany
        wide_open with List.lookup_cons
        by_cases hk : k' = k
        · subst hk
          have : (k' == a) = false := by simpa using (fun e => ha e.symm : ¬ k' = a)
          simp only [this]
          (wide_line using ih hr; wide_line using if_pos rfl; wide_open with if_pos trivial)
        · cases hb : k' == a
          · simp only; wide_open with ih hr
          · simp only; wide_open with if_neg hk
  · wide_open with if_neg hany
    have hno : ∀ p ∈ es, p.1 ≠ k := fun p hp e => hany (List.any_eq_true.mpr (i_EA p hp (by simpa using e)))
    induction es with
    | nil =>
      (wide_line using List.nil_append; wide_open with List.lookup_cons)
      by_cases hk : k' = k
      · subst hk; simp
      · have : (k' == k) = false := by simpa using hk
        (wide_line using this; wide_open with if_neg hk)
    | cons p r ih =>
      (wide_line using List.cons_append; wide_line using List.lookup_cons; wide_open with List.lookup_cons)
      cases hb : k' == p.1
      · simp only
        exact ih (fun e => hany (by simp [List.any_cons, e])) fun q hq => hno q (by simp [hq])
      · simp only
        wide_open with if_neg (fun e => hno p (by simp) (by ((first | refine (eq_of_beq hb) ▸ ?_ | rewrite [← eq_of_beq hb]); wide_open with e)))
end
section
open PySem PySem.W PySem.Calls PyProof.Rows PySem.SeqAt
variable {W : Wd} {n : Nat} {F G : GH} {K : KV} {cs : List Addr} {M : List (Addr × GO)} {pl P : Addr}
noncomputable def RuleObj (F : GH) (ru : Addr) (d : RuleD) : Prop := ∃ b i a c, F ru = some (ruleO b i a (.ref c)) ∧ RowSp F b d.back ∧ RowSp F i d.inside ∧ RowSp F a d.ahead ∧ ActsAt F c d.acts
theorem RuleObj.sub {F' : GH} {t d} (x : RuleObj F t d) (h : Sub F F') : RuleObj F' t d := by refine o_EEEEAAAA x fun b i a c e h1 h2 h3 h4 => ?_; try clear x; exact (i_EEEEAAAA b i a c (h _ _ e) (h1.sub h) (h2.sub h) (h3.sub h) (h4.sub h))
noncomputable def TblAt (F : GH) (tb : Addr) (form : Int) (rds : List RuleD) (e0 e1 e2 : List (Int × Int)) (cover : List Int) : Prop := ∃ ch sets cv cl x0 x1 x2, F tb = some (ctxO form ch sets cv cl) ∧ isBlt cv = false ∧ isBlt cl = false ∧ ClsOf F form cl x0 x1 x2 ∧
  ((form = 3 ∧ ∃ rl ru d ep, rds = [d] ∧ F sets = some (.dict [(0, .ref rl)] ep) ∧ F rl = some (.list [.ref ru]) ∧ RuleT F form x0 x1 x2 e0 e1 e2 ru d) ∨
   (form ≠ 3 ∧ ∃ es ep, F sets = some (.dict es ep) ∧ SetsAt F (RuleT F form x0 x1 x2 e0 e1 e2) es rds ∧ (form = 2 → ∃ c ms q, cv = .ref c ∧ CovAt F c ms ∧ ms.Pairwise (· ≤ ·) ∧ (∀ x, x ∈ ms ↔ x ∈ cover) ∧ x1 = .ref q ∧ ClsAt F q (heldOf e1))))
theorem row_tests {form : Int} {t : Addr} {row : List Sp} {es : List (Int × Int)} {b : Nat} {x : Value} {dd : Addr} {F0 : GH} (hr : RowSp F t row) (ho : OfForm form row) (hD : Dict6 F0 dd es b) (hx : form = 1 ∨ (form = 2 ∧ ∃ q, x = .ref q ∧ ClsAt F q (heldOf es))) : RowT F form t x (row.map (evalSp form es)) := by
  refine o_EA hr fun vs h1 h2 => ?_; try clear hr
  have h3 : form ≠ 3 := by rcases hx with h | ⟨h, _⟩ <;> lia
  refine o_EA (all_num h2 fun e he => by wide_open with ho.2 e he; exact decide_eq_false h3) fun ys e92 e93 => ?_; subst e92; subst e93
  have hl := ho.1
  simp at hl
  refine .inr (i_EAA ys h1 (by lia) ?_)
  rcases hx with h | ⟨h, q, e, hq⟩
  · refine .inl ⟨h, ?_⟩
    wide_open with List.map_map
    refine List.map_congr_left fun y z9 => funext fun g => ?_
    refine (?_ : (if form = 1 then _ else _) = _)
    wide_open with if_pos h
  · refine .inr (i_AEEAA h q _ e hq ?_)
    wide_open with List.map_map
    refine List.map_congr_left fun y z9 => funext fun g => ?_
    refine (?_ : (if form = 1 then _ else _) = _)
    (wide_line using if_neg (by lia); wide_open with (getI_held hD.nd fun q hq => (hD.vals q hq).1))
theorem RuleObj.tests {form : Int} {x0 x1 x2 : Value} {e0 e1 e2 : List (Int × Int)} {ru d0 d1 d2 : Addr} {d : RuleD} {F0 : GH} (z : RuleObj F ru d) (ho : RuleOK form d) (h0 : Dict6 F0 d0 e0 3) (h1 : Dict6 F0 d1 e1 3) (h2 : Dict6 F0 d2 e2 3)
    (hx : form = 1 ∨ (form = 2 ∧ (∃ q, x0 = .ref q ∧ ClsAt F q (heldOf e0)) ∧ (∃ q, x1 = .ref q ∧ ClsAt F q (heldOf e1)) ∧ ∃ q, x2 = .ref q ∧ ClsAt F q (heldOf e2))) : RuleT F form x0 x1 x2 e0 e1 e2 ru d := by
  refine o_EEEEAAAA z fun b i a c e r1 r2 r3 r4 => ?_; try clear z
  refine (i_EEEEAAAA b i a c e (row_tests r1 ho.back h0 ?_) (row_tests r2 ho.inside h1 ?_) (row_tests r3 ho.ahead h2 ?_) r4) <;> rcases hx with h | ⟨h, q0, q1, q2⟩
  · exact .inl h
  · exact .inr ⟨h, q0⟩
  · exact .inl h
  · exact .inr ⟨h, q1⟩
  · exact .inl h
  · exact .inr ⟨h, q2⟩
theorem comp3 {S : GH → GH → Prop} {chk : GH → Prop} {el : Value → GH → (Option Value → GH → Prop) → Prop} {d0 d1 d2 : Addr} {e0 e1 e2 : List (Int × Int)} {D : Addr → List (Int × Int) → Prop} {Q : GH → Addr → List (Int × Int) → Prop} (hS : Fam S) (h : S F G) (hc : ∀ F' G', Sub F F' → S F' G' → chk G')
    (he : ∀ dd ee F' G' (Kc : Option Value → GH → Prop), D dd ee → Sub F F' → S F' G' → (∀ q F'' G'', Sub F' F'' → S F'' G'' → Q F'' q ee → Kc (some (.ref q)) G'') → el (.ref dd) G' Kc) (mono : ∀ {F F' q e}, Q F q e → Sub F F' → Q F' q e) (h0 : D d0 e0) (h1 : D d1 e1) (h2 : D d2 e2)
    (k : ∀ l F' G' q0 q1 q2, Sub F F' → S F' G' → F' l = some (.list [.ref q0, .ref q1, .ref q2]) → Q F' q0 e0 → Q F' q1 e1 → Q F' q2 e2 → K (.ref l) G') : compG chk el [.ref d0, .ref d1, .ref d2] [] G K := by
  refine ⟨hc _ _ (Sub.refl _) h, he _ _ _ _ _ h0 (Sub.refl _) h fun q0 F1 G1 s1 h3 c0 => ?_⟩
  refine ⟨hc _ _ s1 h3, he _ _ _ _ _ h1 s1 h3 fun q1 F2 G2 s2 h4 c1 => ?_⟩
  have s12 := s1.trans s2
  refine ⟨hc _ _ s12 h4, he _ _ _ _ _ h2 s12 h4 fun q2 F3 G3 s3 h5 c2 => ?_⟩
  have s13 := s12.trans s3
  exact ⟨hc _ _ s13 h5, hS.mk_ h5 fun l F4 G4 s4 z9 hl h6 => k l F4 G4 q0 q1 q2 (s13.trans s4) h6 hl (mono c0 (s2.trans (s3.trans s4))) (mono c1 (s3.trans s4)) (mono c2 s4)⟩
set_option tactic.hygienic true in
theorem table_ (H2 : Facts2 W P) {form : Int} {ch : Bool} {rl ml cl : Addr} {rrs : List Addr} {rds : List RuleD} {e0 e1 e2 : List (Int × Int)} {cover : List Int} (hform : form = 1 ∨ form = 2 ∨ form = 3) (hrl : G rl = some (.list (refs rrs))) (hrr : All2 (RuleAt G) rrs rds) (ho : ∀ d ∈ rds, RuleOK form d) (hlen : rds.length ≤ 3) (h3l : form = 3 → rds.length = 1)
    (hm : MapsAt G ml e0 e1 e2) (hcl : G cl = some (.list (cover.map vInt))) (hcz : cover.length ≤ 10) (k : ∀ tb G', Sub G G' → TblAt G' tb form rds e0 e1 e2 cover → K (.ref tb) G') :
    CallC W (n + 4) (.ref a__law_table) [.int form 0, .bool ch, .ref rl, .ref ml, .ref cl] G K := by
  have Fa := H2.F
  refine fnC Fa H2.f__law_table rfl rfl fun cod => ?_
  dsimp only [sp__law_table, b__law_table]
  walk_at "open_"
  refine cmp_if (p := form = 3) rfl (fun f3 => ?_) (fun f3 => ?_)
  · subst f3
    walk_at "open_"
    obtain ⟨d, rfl⟩ : ∃ d, rds = [d] := by
      exact List.length_eq_one_iff.mp (h3l rfl)
    have ho := ho d (by simp)
    cases hrr with
    | cons hr hn =>
    cases hn
    rename_i rr
    refine o_EEEEAAAA hr fun b i a c hr r1 r2 r3 r4 => ?_
    refine sub_list hrl rfl ?_
    refine slice_tup3_ok hr ?_
    refine famE.mk_ rfl fun t3 F1 z9 s1 z9 ht3 e => ?_
    subst e
    refine iter_tup ht3 ⟨by simp [small], ?_⟩
    refine ⟨ht3, covers_ Fa (r1.sub s1) ho.back fun u0 F2 s2 c0 => ?_⟩
    refine ⟨s2 _ _ ht3, covers_ Fa (r2.sub (s1.trans s2)) ho.inside fun u1 F3 s3 c1 => ?_⟩
    have s23 := s2.trans s3
    refine ⟨s23 _ _ ht3, covers_ Fa (r3.sub (s1.trans s23)) ho.ahead fun u2 F4 s4 c2 => ?_⟩
    have s24 := s23.trans s4
    refine ⟨s24 _ _ ht3, ?_⟩
    refine famE.mk_ rfl fun l3 F5 z9 s5 z9 hl3 e => ?_
    subst e
    refine (i_EAA _ (by unfold itemsG; dsimp only; rw [hl3]) rfl ?_)
    dsimp only [sPs_cons, sPs_nil, Option.toList, List.nil_append, List.cons_append]
    have s45 := s4.trans s5
    have s15 := s1.trans (s24.trans s5)
    walk_at "open_"
    refine sub_list (s15 _ _ hrl) rfl ?_
    refine sub_tup (s15 _ _ hr) rfl ?_
    refine ⟨keep_fn Fa.k_Rule, CallC.T (new_Rule Fa (famE.mk_ rfl fun ru F6 z9 s6 z9 hru e => ?_))⟩
    subst e
    refine famE.mk_ rfl fun lr F7 z9 s7 z9 hlr e => ?_
    subst e
    intro ep
    refine famE.mk_ rfl fun sets F8 z9 s8 z9 hsets e => ?_
    subst e
    refine ⟨keep_fn Fa.k_Contexts, CallC.T (new_Contexts Fa (famE.mk_ rfl fun tb F9 z9 s9 z9 htb e => ?_))⟩
    subst e
    have s69 := s7.trans (s8.trans s9)
    have s59 := s6.trans s69
    have s19 := s15.trans s59
    refine ret_same (k tb F9 s19 (i_EEEEEEEAAAA ch sets .none .none .none .none .none htb rfl rfl ?_ (.inl (i_AEEEEAAAEEEEAAAA rfl lr ru d ep rfl (s9 _ _ hsets) ((s8.trans s9) _ _ hlr) u0 u1 u2 c (s69 _ _ hru) (.inl ⟨rfl, ?_⟩) (.inl ⟨rfl, ?_⟩) (.inl ⟨rfl, ?_⟩) (r4.sub s19)))))
    · unfold ClsOf; wide_open with if_neg (by decide); exact (i_AA rfl rfl rfl)
    · exact (c0 e0).sub (s3.trans (s45.trans s59))
    · exact (c1 e1).sub (s45.trans s59)
    · exact (c2 e2).sub (s5.trans s59)
  · walk_at "open_"
    intro ep sd hsd
    have h1 := (St.start (F := G)).newm (o := .dict ((([] : List Int).zip []).foldl (fun l p => put l p.1 p.2) []) ep) hsd
    generalize G.set sd (.dict ((([] : List Int).zip []).foldl (fun l p => put l p.1 p.2) []) ep) = G1 at *
    have h1 : St [(sd, .dict [] ep)] G G1 := h1
    walk_at "open_"
    refine iter_list (h1.sub _ _ hrl) ?_
    refine for_inv (fun ys mm G' => ∃ (dn us : List RuleD) (ps : List Addr) (F' : GH) (es : List (Int × Value)) (ep : Nat) (v5 v6 v7 v9 : Option Value), ys = refs ps ∧ rds = dn ++ us ∧ All2 (RuleAt G) ps us ∧ mm = [some (.int form 0), some (.bool ch), some (.ref rl), some (.ref ml), some (.ref cl), v5, v6, v7, some (.ref sd), v9, none] ∧
      Sub G F' ∧ St [(sd, .dict es ep)] F' G' ∧ SetsAt F' (RuleObj F') es dn ∧ es.length ≤ dn.length) ?_ ?_ ?_ _ _ _ (i_EEEEEEEEEEAAAAAAA ([]) rds rrs G ([]) ep none none none none rfl rfl hrr rfl (Sub.refl _) h1 (fun key => rfl) (Nat.le_refl _))
    · intro ys mm G' hx9; refine o_EEEEEEEEEEAAAAAA hx9 fun dn us ps F' es ep v5 v6 v7 v9 z9 z9 z9 z9 s h z9 => ?_; try clear hx9
      exact h.sub _ _ (s _ _ hrl)
    · intro mm G' hx9; refine o_EEEEEEEEEEAAAAAAA hx9 fun dn us ps F2 es ep v5 v6 v7 v9 e he hps e914 s2 h2 hS z9 => ?_; try clear hx9; subst e914
      obtain rfl : ps = [] := by simpa [refs] using e.symm
      cases hps
      rw [List.append_nil] at he
      subst he
      obtain ⟨f2, h3⟩ := h2.frz0
      have s3 := sub_set (o := .dict es ep) f2
      have hsd := GH.set_self F2 sd (.dict es ep)
      have hS := hS.mono s3 fun z9 z9 z9 z => z.sub s3
      have s23 := s2.trans s3
      generalize F2.set sd (.dict es ep) = F3 at *
      clear h2 f2 s2 s3
      refine o_EEEAAA hm fun d0 d1 d2 m1 m2 m3 m4 => ?_; try clear hm
      walk_at "open_"
      refine cmp_if (p := form = 1) rfl (fun f1 => ?_) (fun f1 => ?_)
      · walk_at "open_"
        subst f1
        refine ⟨keep_fn Fa.k_Contexts, CallC.T (new_Contexts Fa (famS.mk_ h3 fun tb F4 G4 s4 z9 htb h4 => ?_))⟩
        have s5 := s4.trans h4.sub
        refine ret_same (k tb G4 (s23.trans s5) (i_EEEEEEEAAAA ch sd .none .none .none .none .none (h4.sub _ _ htb) rfl rfl ?_ (.inr (i_AEEAA (by decide) es ep (s5 _ _ hsd) ?_ (fun h => absurd h (by decide))))))
        · unfold ClsOf; wide_open with if_neg (by decide); exact (i_AA rfl rfl rfl)
        · exact hS.mono s5 fun a d hd z => (z.sub s5).tests (ho d hd) m2 m3 m4 (.inl rfl)
      · have f2 : form = 2 := by lia
        subst f2
        walk_at "open_"
        refine iter_list (h3.sub _ _ (s23 _ _ m1)) ⟨by simp [small], ?_⟩
        intro new hnl _ hnf
        obtain ⟨c, rfl⟩ := one_cell hnl
        have h4 := h3.newm (o := .cell none) (hnf c (by simp))
        refine (?_ : compG _ _ _ [] (G'.set c (.cell none)) _)
        refine comp3 famC (D := fun dd ee => Dict6 G dd ee 3) (Q := fun F q ee => ClsAt F q (heldOf ee)) (F := F3) ⟨_, h4⟩ (fun F' G' s h => famC.sub h _ _ (s _ _ (s23 _ _ m1))) (fun dd ee F' G' Kc hD s hS kc => ?_) (fun z s => z.sub s) m2 m3 m4 fun lq F7 G7 q0 q1 q2 s37 h7 hlq c0 c1 c2 => ?_
        · obtain ⟨v, hS⟩ := hS
          walk_at "open_"
          refine (i_EEAA c _ rfl hS.hd ?_)
          have h5 := hS.upd (o' := .cell (some (.ref dd)))
          generalize G'.set c (.cell (some (.ref dd))) = G5 at *
          walk_at "open_"
          refine held_ (famS (M := [(c, .cell (some (.ref dd)))])) Fa h5 (fun F'' G'' z9 h => h.hd) (hD.sub (s23.trans s)) fun hd' F6 G6 s6 h6 hh => ?_
          obtain ⟨eph, hh⟩ := hh
          refine ⟨keep_fn Fa.k_ClassDef, CallC.T (new_ClassDef Fa (famS.mk_ h6 fun q F7 G7 s7 z9 hq h7 => kc q F7 G7 (s6.trans s7) ⟨_, h7⟩ (i_EEA hd' eph hq (s7 _ _ hh))))⟩
        obtain ⟨v, h8⟩ := h7
        refine ⟨trivial, tup_of_list_ok (h8.sub _ _ hlq) (famS.mk_ h8 fun tq F9 G9 s9 z9 htq h9 => ?_)⟩
        have htq : F9 tq = some (.tup [.ref q0, .ref q1, .ref q2]) := htq
        walk_at "open_"
        have s39 := s37.trans s9
        refine ⟨keep_fn Fa.k_coverage_of, CallT.room (CallC.T (h9.call (coverage_of_ (n := n) Fa ((s23.trans s39) _ _ hcl) (by lia) fun cv ms F10 s10 z9 hcv hp hmem G10 h10 => ?_))) (Nat.le_refl _)⟩
        refine ⟨keep_fn Fa.k_Contexts, CallC.T (new_Contexts5 Fa (famS.mk_ h10 fun tb F11 G11 s11 z9 htb h11 => ?_))⟩
        have s9e := s10.trans (s11.trans h11.sub)
        have s8e := s9.trans s9e
        have s3e := s37.trans s8e
        have hcls : ∀ {q e}, ClsAt F7 q e → ClsAt G11 q e := fun z => z.sub s8e
        refine ret_same (k tb G11 (s23.trans s3e) (i_EEEEEEEAAAA ch sd (.ref cv) (.ref tq) (.ref q0) (.ref q1) (.ref q2) (h11.sub _ _ htb) rfl rfl ?_ (.inr (i_AEEAA (by decide) es ep (s3e _ _ hsd) ?_ (fun z9 => (i_EEEAAAAA cv ms q1 rfl (hcv.sub (s11.trans h11.sub)) hp hmem rfl (hcls c1)))))))
        · unfold ClsOf; wide_open with if_pos rfl; exact (i_EA tq rfl (s9e _ _ htq))
        · exact hS.mono s3e fun a d hd z => (z.sub s3e).tests (ho d hd) m2 m3 m4 (.inr (i_AAA rfl (i_EA q0 rfl (hcls c0)) (i_EA q1 rfl (hcls c1)) (i_EA q2 rfl (hcls c2))))
    · intro xv ys mm G' Kn nxt nxc nxr hx9; refine o_EEEEEEEEEEAAAAAAA hx9 fun dn us ps F2 es ep v5 v6 v7 v9 e he hps e914 s2 h2 hS hle => ?_; try clear hx9; subst e914
      cases hps with
      | nil => simp [refs] at e
      | cons hr hps =>
      rename_i rr d ps us
      simp only [refs, List.map_cons, List.cons.injEq] at e
      obtain ⟨rfl, rfl⟩ := e
      have hd : d ∈ rds := by wide_open with he; simp
      have hod := ho d hd
      refine o_EEEEAAAA (hr.sub s2) fun b i a c hr r1 r2 r3 r4 => ?_
      refine o_EA (id r2) fun vs i1 i2 => ?_
      refine o_EA (all_num i2 fun e he => by wide_open with hod.inside.2 e he; exact decide_eq_false f3) fun yy e92 hyy => ?_; subst e92
      obtain ⟨y, yy, rfl⟩ : ∃ y t, yy = y :: t := List.exists_cons_of_ne_nil fun e => hod.ne (by (wide_line using hyy; wide_open with e); rfl)
      have hkey : keyOf d = y := by unfold keyOf; wide_open with hyy; rfl
      have hlen2 : dn.length + (us.length + 1) ≤ 3 := by have := congrArg List.length he; simp at this; lia
      walk_at "open_"
      have hr2 := h2.sub _ _ hr
      refine (i_EAA _ (by unfold itemsG; dsimp only; rw [hr2]) rfl ?_)
      dsimp only [sPs_cons, sPs_nil]
      walk_at "open_"
      refine (i_EA _ (meth_get Fa h2.hd) ?_)
      refine sub_tup (h2.sub _ _ i1) (v := .int y 0) rfl ?_
      refine famS.mk_ h2 fun nl F3 G3 s3 z9 hnl h3 => ?_
      refine ⟨trivial, dict_get_ok h3.hd ?_⟩
      obtain ⟨l, rus, hv, hl, hA⟩ : ∃ l rus, (es.lookup y).getD (.ref nl) = .ref l ∧ F3 l = some (.list (refs rus)) ∧ All2 (RuleObj F3) rus (dn.filter fun d => keyOf d == y) := by
        have := hS y
        split at this
        · rename_i e0
          (wide_line using e0; wide_open with this)
          exact (i_EEAA nl ([]) rfl hnl .nil)
        · rename_i v0 e0
          refine o_EEAA this fun l rus q1 q2 q3 => ?_; try clear this
          (wide_line using e0; wide_open with q1)
          exact (i_EEAA l rus rfl (s3 _ _ q2) (q3.imp fun z9 z9 z => z.sub s3))
      wide_open with hv
      refine ⟨keep_fn Fa.k_Rule, CallC.T (new_Rule Fa (famS.mk_ h3 fun ru F4 G4 s4 z9 hru h4 => ?_))⟩
      refine famS.mk_ h4 fun l1 F5 G5 s5 z9 hl1 h5 => ?_
      have hAl := hA.length
      have hfl := List.length_filter_le (fun d => keyOf d == y) dn
      refine concat_ok (h5.sub _ _ (s5 _ _ (s4 _ _ hl))) (h5.sub _ _ hl1) (by simp [small, refs]; lia) ?_
      refine famS.mk_ h5 fun l2 F6 G6 s6 z9 hl2 h6 => ?_
      have hl2 : F6 l2 = some (.list (refs (rus ++ [ru]))) := by wide_open with hl2; simp [refs]
      have s46 := s5.trans s6
      have s36 := s4.trans s46
      have s26 := s3.trans s36
      refine sub_tup (h6.sub _ _ (s26 _ _ i1)) (v := .int y 0) rfl ?_
      unfold setiG
      dsimp only
      wide_open with h6.hd
      refine ⟨by simp [small]; lia, fun ep2 => ?_⟩
      have h7 := h6.upd (o' := .dict (put es y (.ref l2)) ep2)
      have hpl := put_len es y (.ref l2)
      refine nxt _ _ (i_EEEEEEEEEEAAAAAAA (dn ++ [d]) us ps F6 _ ep2 _ _ _ _ rfl (by wide_open with he; simp) hps rfl (s2.trans s26) h7 (fun key => ?_) (by simp; lia))
      wide_open with put_lookup
      by_cases hk : key = y
      · subst hk
        wide_open with if_pos rfl
        refine (i_EEAA l2 (rus ++ [ru]) rfl hl2 ?_)
        (wide_line using List.filter_append; wide_line using List.filter_cons_of_pos (by simpa using hkey); wide_open with List.filter_nil)
        exact (hA.imp fun z9 z9 z => z.sub s36).snoc (i_EEEEAAAA b i a c (s46 _ _ hru) (r1.sub s26) (r2.sub s26) (r3.sub s26) (r4.sub s26))
      · wide_open with if_neg hk
        have := (hS.mono s26 fun z9 z9 z9 z => z.sub s26) key
        (wide_line using List.filter_append; wide_line using (List.filter_cons_of_neg (by simp [hkey]; exact fun e => hk e.symm)); wide_line using List.filter_nil; wide_open with List.append_nil)
        exact this
end
section
open PySem PySem.W PySem.Calls PyProof.Rows PySem.SeqAt
variable {W : Wd} {n : Nat} {F G : GH} {K : KV} {cs : List Addr} {M : List (Addr × GO)} {pl P : Addr}
set_option tactic.hygienic true in
theorem comp_refs {S : GH → GH → Prop} (hS : Fam S) {α : Type} {chk : GH → Prop} {el : Value → GH → (Option Value → GH → Prop) → Prop} {us : List Addr} {as : List α} {R : Addr → α → Prop} {Q : GH → Addr → α → Prop} (mono : ∀ {F F' c a}, Q F c a → Sub F F' → Q F' c a) (hA : All2 R us as) (h : S F G)
    (hc : ∀ F' G', Sub F F' → S F' G' → chk G') (he : ∀ u a F' G' Kc, R u a → Sub F F' → S F' G' → (∀ c F'' G'', Sub F' F'' → S F'' G'' → Q F'' c a → Kc (some (.ref c)) G'') → el (.ref u) G' Kc)
    (k : ∀ l cs F' G', Sub F F' → S F' G' → F' l = some (.list (refs cs)) → All2 (Q F') cs as → K (.ref l) G') : compG chk el (refs us) [] G K := by
  refine comp_inv (fun xs acc G' => ∃ F' us' as' cs asd, xs = refs us' ∧ All2 R us' as' ∧ as = asd ++ as' ∧ acc = refs cs ∧ Sub F F' ∧ S F' G' ∧ All2 (Q F') cs asd) ?_ ?_ ?_ _ _ _ (i_EEEEEAAAAAA F us as ([]) ([]) rfl hA rfl rfl (Sub.refl _) h .nil)
  · intro xs acc G' hx9; refine o_EEEEEAAAAAA hx9 fun F' us' as' cs asd z9 z9 z9 z9 s h' z9 => ?_; try clear hx9; exact hc _ _ s h'
  · intro acc G' hx9; refine o_EEEEEAAAAAA hx9 fun F' us' as' cs asd e hR ea e99 s h' hQ => ?_; try clear hx9; subst e99
    obtain rfl : us' = [] := by simpa [refs] using e.symm
    cases hR
    rw [List.append_nil] at ea
    subst ea
    exact hS.mk_ h' fun l F2 G2 s2 z9 hl h2 => k l cs F2 G2 (s.trans s2) h2 hl (hQ.imp fun z9 z9 z => mono z s2)
  · intro x xs acc G' Kc nxt hx9; refine o_EEEEEAAAAAA hx9 fun F' us' as' cs asd e hR ea e99 s h' hQ => ?_; try clear hx9; subst e99
    cases hR with
    | nil => simp [refs] at e
    | cons r hR =>
      rename_i u a us' as'
      simp only [refs, List.map_cons, List.cons.injEq] at e
      obtain ⟨rfl, rfl⟩ := e
      exact he u a F' G' Kc r s h' fun c F2 G2 s2 h2 q => nxt (some (.ref c)) G2 (i_EEEEEAAAAAA F2 us' as' (cs ++ [c]) (asd ++ [a]) rfl hR (by wide_open with ea; simp) (by simp [refs]) (s.trans s2) h2 ((hQ.imp fun z9 z9 z => mono z s2).snoc q))
noncomputable def headT (form : Int) (es : List (Int × Int)) (d : RuleD) (g : Int) : Bool := match d.inside with
  | sp :: _ => evalSp form es sp g
  | [] => false
noncomputable def keepR (form : Int) (e1 : List (Int × Int)) (cover : List Int) (g : Int) (d : RuleD) : Bool := (decide (form ≠ 2) || decide (g ∈ cover)) && headT form e1 d g
theorem head_num {form : Int} {e1 : List (Int × Int)} {d : RuleD} {g : Int} (ho : RuleOK form d) (h3 : form ≠ 3) : headT form e1 d g = (keyOf d == if form = 1 then g else getI e1 g) := by
  unfold headT keyOf
  cases hi : d.inside with
  | nil => exact absurd hi ho.ne
  | cons sp r =>
    have := ho.inside.2 sp (by wide_open with hi; simp)
    rw [decide_eq_false h3] at this
    cases sp with
    | cov ns => wide_open using this
    | num x =>
      refine (?_ : (if form = 1 then decide (x = g) else decide (getI e1 g = x)) = (x == if form = 1 then g else getI e1 g))
      split
      · exact (Bool.beq_eq_decide_eq x g).symm
      · wide_open with Bool.beq_eq_decide_eq
        exact decide_eq_decide.mpr eq_comm
theorem filter_mem {α : Type} {p q : α → Bool} {l : List α} (h : ∀ d ∈ l, p d = q d) : l.filter p = l.filter q := by
  induction l with
  | nil => rfl
  | cons a l ih =>
    (wide_line using List.filter_cons; wide_line using List.filter_cons; wide_line using h a (by simp); wide_open with (ih fun d hd => h d (by simp [hd])))
set_option tactic.hygienic true in
theorem rules_at_ (Fa : Facts W) {form g : Int} {tb : Addr} {rds : List RuleD} {e0 e1 e2 : List (Int × Int)} {cover : List Int} (hform : form = 1 ∨ form = 2 ∨ form = 3) (ht : TblAt G tb form rds e0 e1 e2 cover) (ho : ∀ d ∈ rds, RuleOK form d) (hz : rds.length ≤ 3) (hg : getI (heldOf e1) g = getI e1 g)
    (k : ∀ l tus G', Sub G G' → G' l = some (.list (refs tus)) → All2 (TestsTu G' form e0 e1 e2) tus (rds.filter (keepR form e1 cover g)) → K (.ref l) G') : CallC W (n + 3) (.ref a_rules_at) [.ref tb, .int g 0] G K := by
  refine fnCc Fa Fa.f_rules_at rfl (by simp [sp_rules_at]) fun cod cs hl hn hf => ?_
  refine o_EEA (two_cells hl hn) fun c0 c1 e93 hc => ?_; subst e93
  dsimp only [sp_rules_at, b_rules_at]
  refine o_EAA (famS.cells (vs := [.ref tb, .int g 0]) St.start hn hf) fun F0 s0 h0 hz0 => ?_
  have z0 := hz0 0 c0 _ rfl rfl
  have z1 := hz0 1 c1 _ rfl rfl
  clear hz0 hf
  walk_at "open_"
  replace h0 : St [] F0 (setCs G [c0, c1] [some (.ref tb), some (.int g 0)]) := h0
  generalize setCs G [c0, c1] [some (.ref tb), some (.int g 0)] = G0 at *
  refine o_EEEEEEEAAAA ht fun ch sets cv cl x0 x1 x2 t1 bcv bcl hcl hcase => ?_; try clear ht
  replace t1 := s0 _ _ t1
  replace hcl := hcl.sub s0
  -- the tests of the rules
  have rest : ∀ F1 G1 l rus rds', Sub F0 F1 → St [] F1 G1 → F1 l = some (.list (refs rus)) → All2 (RuleT F1 form x0 x1 x2 e0 e1 e2) rus rds' → rds' = rds.filter (keepR form e1 cover g) →
      wpSs W (n + 2) cod [Str.ofString "table", Str.ofString "glyph"] [c0, c1] (b_rules_at.drop 1) [some (.ref l)] G1 (bodyK K) := fun F1 G1 l rus rds' s1 h1 hl hA e => by
    subst e
    have hAl := hA.length
    have hfl := List.length_filter_le (keepR form e1 cover g) rds
    dsimp only [b_rules_at, ndropS, ndrop0]
    walk_at "open_"
    refine iter_list (h1.sub _ _ hl) ⟨by simp [small, refs]; lia, ?_⟩
    refine comp_refs famS (Q := fun F c d => TestsTu F form e0 e1 e2 c d) (fun z s => z.sub s) hA h1 (fun F' G' s h => h.sub _ _ (s _ _ hl)) (fun u d F2 G2 Kc hr s2 h2 kc => ?_) (fun a cs F2 G2 s2 h2 ha hQ => ret_same (k a cs G2 (s0.trans (s1.trans (s2.trans h2.sub))) (h2.sub _ _ ha) (hQ.imp fun z9 z9 z => z.sub h2.sub)))
    walk_at "open_"
    refine cell_ok (h2.sub _ _ (s2 _ _ (s1 _ _ z0))) ?_
    have s12 := s1.trans s2
    exact ⟨keep_fn Fa.k_rule_tests, CallC.T (h2.call (rule_tests_ Fa hform (s12 _ _ t1) (hcl.sub s12) bcl (hr.sub s2) fun tu F3 s3 htu G3 h3 => kc tu F3 G3 s3 h3 htu))⟩
  refine cell_ok (h0.sub _ _ z0) ?_
  refine attr_ (h0.sub _ _ t1) Fa.c_Contexts rfl rfl rfl ?_
  rcases hcase with ⟨rfl, rl, ru, d, ep, rfl, t2, t3, t4⟩ | ⟨h3, es, ep, t2, t3, t4⟩
  · refine cmp_f rfl (by decide) ?_
    walk_at "open_"
    refine cell_ok (h0.sub _ _ z0) ?_
    refine attr_ (h0.sub _ _ t1) Fa.c_Contexts rfl rfl rfl ?_
    refine cmp_f rfl (by decide) ?_
    walk_at "open_"
    refine cell_ok (h0.sub _ _ z0) ?_
    have t4 := t4.sub s0
    refine (i_EAA _ (meth_ (h0.sub _ _ t1) Fa.c_Contexts rfl rfl) (keep_fn Fa.k_Contexts_rules) (CallC.T (rules_ Fa (h0.sub _ _ t1) (h0.sub _ _ (s0 _ _ t2)) (h0.sub _ _ (s0 _ _ t3)) (famS.mk_ h0 fun l1 F1 G1 s1 z9 hl1 h1 => ?_))))
    refine iter_list (h1.sub _ _ hl1) (i_AA (by simp [small]) (h1.sub _ _ hl1) ?_)
    have t41 := t4.sub s1
    refine o_EEEEAAAA (id t41) fun b i a c q0 q1 q2 q3 q4 => ?_
    have ho := ho d (by simp)
    rcases q2 with ⟨_, us, u1, u2, u3⟩ | ⟨ys, _, _, ⟨hh, _⟩ | ⟨hh, _⟩⟩
    case inr.inl => exact absurd hh (by decide)
    case inr.inr => exact absurd hh (by decide)
    obtain ⟨sp, r, hin⟩ : ∃ sp r, d.inside = sp :: r := List.exists_cons_of_ne_nil ho.ne
    rw [hin, List.map_cons] at u2
    cases u2 with
    | cons hu hus =>
    rename_i u us
    refine o_EAA hu fun ns v1 v2 v3 => ?_; try clear hu
    refine o_EA (id v1) fun tt w1 w2 => ?_
    walk_at "open_"
    refine attr_ (h1.sub _ _ q0) Fa.c_Rule rfl rfl rfl ?_
    refine sub_tup (h1.sub _ _ u1) rfl ?_
    walk_at "open_"
    refine (i_EA _ (meth_ (h1.sub _ _ w1) Fa.c_Coverage rfl rfl) (cell_ok (h1.sub _ _ (s1 _ _ z1)) ⟨keep_fn Fa.k_Coverage_has, CallC.T (h1.call (cov_has_ Fa v1 v2 fun G2 h2 => ?_))⟩))
    dsimp only [truthG_b]
    have hk : keepR 3 e1 cover g d = decide (g ∈ ns) := by
      unfold keepR headT
      wide_open with hin
      refine (?_ : ((decide ((3 : Int) ≠ 2) || decide (g ∈ cover)) && evalSp 3 e1 sp g) = decide (g ∈ ns))
      wide_open with v3; rfl
    by_cases hm : g ∈ ns
    · rw [decide_eq_true hm] at hk ⊢
      walk_at "open_"
      refine ⟨h2.sub _ _ hl1, famS.mk_ h2 fun l2 F3 G3 s3 z9 hl2 h3 => ?_⟩
      exact rest F3 G3 l2 [ru] [d] (s1.trans s3) h3 hl2 (.cons (t41.sub s3) .nil) (by wide_open with List.filter_cons_of_pos hk; rfl)
    · rw [decide_eq_false hm] at hk ⊢
      walk_at "open_"
      refine ⟨h2.sub _ _ hl1, famS.mk_ h2 fun l2 F3 G3 s3 z9 hl2 h3 => ?_⟩
      exact rest F3 G3 l2 [] [] (s1.trans s3) h3 hl2 .nil (by wide_open with List.filter_cons_of_neg (by wide_open with hk; exact Bool.false_ne_true); rfl)
  have t2 := s0 _ _ t2
  have t3 := t3.mono s0 fun z9 z9 z9 z => z.sub s0
  -- the rules of a key
  have keyed : ∀ F1 G1 (key : Int) nl, Sub F0 F1 → St [] F1 G1 → F1 nl = some (.list []) → ∃ l rus, (es.lookup key).getD (.ref nl) = .ref l ∧ F1 l = some (.list (refs rus)) ∧ All2 (RuleT F1 form x0 x1 x2 e0 e1 e2) rus (rds.filter fun d => keyOf d == key) := fun F1 G1 key nl s1 h1 hnl => by
    have := (t3.mono s1 fun z9 z9 z9 z => z.sub s1) key
    split at this
    · rename_i e
      (wide_line using e; wide_open with this); exact (i_EEAA nl ([]) rfl hnl .nil)
    · rename_i v e
      refine o_EEAA this fun l rus q1 q2 q3 => ?_; try clear this
      (wide_line using e; wide_open with q1); exact (i_EEAA l rus rfl q2 q3)
  by_cases h1 : form = 1
  · subst h1
    refine cmp_t rfl rfl ?_
    walk_at "open_"
    refine cell_ok (h0.sub _ _ z0) ?_
    refine attr_ (h0.sub _ _ t1) Fa.c_Contexts rfl rfl rfl ?_
    refine (i_EA _ (meth_get Fa (h0.sub _ _ t2)) (cell_ok (h0.sub _ _ z1) ?_))
    refine famS.mk_ h0 fun nl F1 G1 s1 z9 hnl h1 => ?_
    refine ⟨trivial, dict_get_ok (h1.sub _ _ (s1 _ _ t2)) ?_⟩
    refine o_EEAA (keyed F1 G1 g nl s1 h1 hnl) fun l rus q1 q2 q3 => ?_
    wide_open with q1
    refine rest F1 G1 l rus _ s1 h1 q2 q3 (filter_mem fun d hd => ?_)
    unfold keepR
    (wide_line using head_num (ho d hd) (by decide); wide_open with if_pos rfl)
    rfl
  · have h2 : form = 2 := by lia
    subst h2
    refine o_EEEAAAAA (t4 rfl) fun c ms q e94 w1 w2 w3 e98 w4 => ?_; subst e94; subst e98
    unfold ClsOf at hcl
    rw [if_pos rfl] at hcl
    obtain ⟨tq, rfl, hcl⟩ := hcl
    refine o_EA (id (w1.sub s0)) fun tt w5 w6 => ?_
    refine o_EEA (id (w4.sub s0)) fun qd qe w7 w8 => ?_
    refine cmp_f rfl (by decide) ?_
    walk_at "open_"
    refine cell_ok (h0.sub _ _ z0) ?_
    refine attr_ (h0.sub _ _ t1) Fa.c_Contexts rfl rfl rfl ?_
    refine cmp_t rfl rfl ?_
    walk_at "open_"
    refine cell_ok (h0.sub _ _ z0) ?_
    refine attr_ (h0.sub _ _ t1) Fa.c_Contexts rfl rfl rfl ?_
    refine (i_EA _ (meth_ (h0.sub _ _ w5) Fa.c_Coverage rfl rfl) (cell_ok (h0.sub _ _ z1) ⟨keep_fn Fa.k_Coverage_has, CallC.T (h0.call (cov_has_ Fa (w1.sub s0) w2 fun G2 h2 => ?_))⟩))
    dsimp only [truthG_b]
    by_cases hm : g ∈ ms
    · wide_open with decide_eq_true hm
      walk_at "open_"
      refine cell_ok (h2.sub _ _ z0) ?_
      refine attr_ (h2.sub _ _ t1) Fa.c_Contexts rfl rfl rfl ?_
      refine (i_EA _ (meth_get Fa (h2.sub _ _ t2)) ?_)
      refine cell_ok (h2.sub _ _ z0) ?_
      refine attr_ (h2.sub _ _ t1) Fa.c_Contexts rfl rfl rfl ?_
      refine sub_tup (h2.sub _ _ hcl) rfl ?_
      refine (i_EA _ (meth_ (h2.sub _ _ w7) Fa.c_ClassDef rfl rfl) (cell_ok (h2.sub _ _ z1) ⟨keep_fn Fa.k_ClassDef_class_of, CallC.T (h2.call (class_of_ Fa (w4.sub s0) fun G3 h3 => ?_))⟩))
      wide_open with hg
      refine famS.mk_ h3 fun nl F4 G4 s4 z9 hnl h4 => ?_
      refine ⟨trivial, dict_get_ok (h4.sub _ _ (s4 _ _ t2)) ?_⟩
      refine o_EEAA (keyed F4 G4 (getI e1 g) nl s4 h4 hnl) fun l rus q1 q2 q3 => ?_
      wide_open with q1
      refine rest F4 G4 l rus _ s4 h4 q2 q3 (filter_mem fun d hd => ?_)
      unfold keepR
      (wide_line using head_num (ho d hd) (by decide); wide_line using if_neg (by decide); wide_open with decide_eq_true ((w3 g).mp hm))
      rfl
    · wide_open with decide_eq_false hm
      walk_at "open_"
      refine famS.mk_ h2 fun nl F4 G4 s4 z9 hnl h4 => ?_
      refine rest F4 G4 nl [] [] s4 h4 hnl .nil (List.filter_eq_nil_iff.mpr fun d hd => ?_).symm
      unfold keepR
      wide_open with decide_eq_false (fun h => hm ((w3 g).mpr h))
      exact Bool.false_ne_true
end
section
open PySem PySem.W PySem.Calls PyProof.Rows PySem.SeqAt
variable {W : Wd} {n : Nat} {F G : GH} {K : KV} {cs : List Addr} {M : List (Addr × GO)} {pl P : Addr}
theorem nested_scene_ (Fa : Facts W) {s b gd ls l st : Addr} {mask dp num : Int} {lks : List Addr} (hs : G s = some (sceneO b gd ls l mask dp st)) (hl : G ls = some (.list (refs lks)))
    (k1 : ¬ (0 ≤ num ∧ num < lks.length) → K .none G) (k2 : ∀ (i : Nat) lk a, num = i → lks[i]? = some lk → G a = none → K (.ref a) (G.set a (sceneO b gd ls lk mask (dp + 1) st))) :
    CallC W (n + 3) (.ref a_nested_scene) [.ref s, .int num 0] G K := by
  refine fnC Fa Fa.f_nested_scene rfl rfl fun cd => ?_
  dsimp only [sp_nested_scene, b_nested_scene]
  walk_at "open_"
  refine cmp_if (p := 0 ≤ num) rfl (fun a1 => ?_) (fun a1 => ?_)
  · walk_at "open_"
    refine attr_ hs Fa.c_Scene rfl rfl rfl ?_
    refine ⟨trivial, len_list_ok hl ?_⟩
    refine cmp_if (p := num < lks.length) (by wide_open with refs_length; rfl) (fun a2 => ?_) (fun a2 => ?_)
    · walk_at "open_"
      obtain ⟨i, rfl⟩ := Int.eq_ofNat_of_zero_le a1
      obtain ⟨lk, hlk⟩ : ∃ lk, lks[i]? = some lk := ⟨_, List.getElem?_eq_getElem (by simpa using a2)⟩
      walk_at "open_"
      try simp only [Bool.not_true]
      refine attr_ hs Fa.c_Scene rfl rfl rfl ?_
      refine attr_ hs Fa.c_Scene rfl rfl rfl ?_
      refine attr_ hs Fa.c_Scene rfl rfl rfl ?_
      refine attr_ hs Fa.c_Scene rfl rfl rfl ?_
      refine sub_list hl (pick_ref hlk) ?_
      refine attr_ hs Fa.c_Scene rfl rfl rfl ?_
      refine attr_ hs Fa.c_Scene rfl rfl rfl ?_
      refine add_ok ?_
      refine ⟨keep_fn Fa.k_Scene, (new_Scene Fa fun a st' ha hst' hne => ?_).T⟩
      have h1 : Sub G ((G.set a (sceneO b gd ls lk mask (dp + 1) st')).set st' (.list [.int 0 0])) := sub_set_new (sub_set ha) hst'
      walk_at "open_"
      refine attr_ (h1 _ _ hs) Fa.c_Scene rfl rfl rfl ?_
      refine seta_ (by rw [GH.set_ne _ _ hne, GH.set_self]; rfl) Fa.c_Scene rfl (Nat.le_of_ble_eq_true rfl) ?_
      exact (i_EA (G.set a (sceneO b gd ls lk mask (dp + 1) st)) (sub_of_set (sub_set_new h1 ha) (GH.set_self _ _ _)) (k2 i lk a rfl hlk ha))
    · walk_at "open_"
      exact ret_same (k1 fun x => a2 x.2)
  · walk_at "open_"
    exact ret_same (k1 fun x => a1 x.1)
theorem inner_scene_ (Fa : Facts W) {s b gd ls l st : Addr} {mask dp num : Int} {lks : List Addr} (hs : G s = some (sceneO b gd ls l mask dp st)) (hl : G ls = some (.list (refs lks)))
    (k1 : ¬ (dp < 6 ∧ 0 ≤ num ∧ num < lks.length) → K .none G) (k2 : ∀ (i : Nat) lk a, dp < 6 → num = i → lks[i]? = some lk → G a = none → K (.ref a) (G.set a (sceneO b gd ls lk mask (dp + 1) st))) :
    CallC W (n + 4) (.ref a_inner_scene) [.ref s, .int num 0] G K := by
  refine fnC Fa Fa.f_inner_scene rfl rfl fun cd => ?_
  dsimp only [sp_inner_scene, b_inner_scene]
  walk_at "open_"
  refine attr_ hs Fa.c_Scene rfl rfl rfl ?_
  refine cmp_if (p := 6 ≤ dp) rfl (fun h6 => ?_) (fun h6 => ?_)
  · walk_at "open_"
    exact ret_same (k1 fun x => by omega)
  · walk_at "open_"
    refine ⟨keep_fn Fa.k_nested_scene, (nested_scene_ Fa hs hl (fun x => ret_same (k1 fun y => x y.2)) fun i lk a e h1 h2 => ret_same (k2 i lk a (by omega) e h1 h2)).T⟩
noncomputable def placO (r : Addr) (e : Int) : GO := .inst a_Places [(16, .ref r), (42, .int e 0)]
theorem cloC (Fa : Facts W) {f : Addr} {sp : FnSpec} {k : Nat} {args : List Value} (h : CloAt W G f sp cs k) (hk : args.length = k) (w : ∀ cd, wpSs W n cd sp.cels cs sp.body (srcM sp.lsrc args) G (bodyK K)) : CallC W (n + 1) (.ref f) args G K := by
  refine o_EE Fa.O fun mg mb O => ?_
  exact callT_clo O h hk w
theorem CloAt.kept {G' : GH} {f : Addr} {sp : FnSpec} {k : Nat} (x : CloAt W G f sp cs k) (h : ∀ a o, G a = some (.raw o) → G' a = some (.raw o)) : CloAt W G' f sp cs k := by
  obtain ⟨fd, oc, c', vs, t, h1, h2, h3, r⟩ := x
  exact ⟨fd, oc, c', vs, t, h _ _ h1, h2, h _ _ h3, r⟩
theorem apply_at_ (Fa : Facts W) {ap c5 inner lg b gd ls lk st : Addr} {mask dp : Int} {num x : Nat} {tb : Value} {ts : List Addr} {kd : Str} {p : Addr × GO} (hc : CloAt W F ap sp_law_apply_at [c5] 2) (h5 : F c5 = some (.cell (some (.ref lg)))) (hi : F inner = some (sceneO b gd ls lk mask dp st)) (hlk : F lk = some (lookO kd 0 num tb)) (hts : ts.length ≤ 1000)
    (h : St (p :: (lg, .list (refs ts)) :: M) F G) (k : ∀ t F' G', Sub F F' → F' t = some (.tup [.int num 0, .int x 0]) → St (p :: (lg, .list (refs (ts ++ [t]))) :: M) F' G' → K (.int (-1) 0) G') : CallC W (n + 1) (.ref ap) [.ref inner, .int x 0] G K := by
  refine cloC Fa (hc.sub h.sub) rfl fun cd => ?_
  dsimp only [sp_law_apply_at, b_law_apply_at]
  walk_at "open_"
  refine cell_ok (h.sub _ _ h5) ?_
  refine (i_EA _ (meth_append Fa h.hd2) ?_)
  refine attr_ (h.sub _ _ hi) Fa.c_Scene rfl rfl rfl ?_
  refine attr_ (h.sub _ _ hlk) Fa.c_Lookup rfl rfl rfl ?_
  refine famS.mk_ h fun t F1 G1 s1 z9 ht h1 => ?_
  refine ⟨trivial, append_ok h1.hd2 (by simp [small, refs]; lia) ?_⟩
  have h2 := (h1.swap.upd (o' := .list (refs ts ++ [.ref t]))).swap
  walk_at "open_"
  refine neg_ (ret_same (k t F1 _ s1 ht ?_))
  wide_open with (show refs (ts ++ [t]) = refs ts ++ [.ref t] by simp [refs])
  exact h2
structure Stage (W : Wd) (F : GH) (s b gd ls l st lg ap c5 p pr : Addr) (mask : Int) (as lks : List Addr) (ps : List Nat) (e : Int) : Prop where
  sc : F s = some (sceneO b gd ls l mask 0 st)
  row : ∃ r, F b = some (bufO r) ∧ F r = some (.list (refs as))
  lksA : F ls = some (.list (refs lks))
  l3 : lks.length = 3
  lkA : ∀ (i : Nat) lk, lks[i]? = some lk → ∃ tb, F lk = some (lookO "single" 0 (i : Int) tb)
  clo : CloAt W F ap sp_law_apply_at [c5] 2
  c5A : F c5 = some (.cell (some (.ref lg)))
  plA : F p = some (placO pr e)
  psA : F pr = some (.list (natsV ps))
  lt : ∀ x ∈ ps, x < as.length
theorem Stage.sub {F' : GH} {s b gd ls l st lg ap c5 p pr : Addr} {mask : Int} {as lks : List Addr} {ps : List Nat} {e : Int} (x : Stage W F s b gd ls l st lg ap c5 p pr mask as lks ps e) (h : Sub F F') : Stage W F' s b gd ls l st lg ap c5 p pr mask as lks ps e :=
  ⟨h _ _ x.sc, let ⟨r, e1, e2⟩ := x.row; (i_EA r (h _ _ e1) (h _ _ e2)), h _ _ x.lksA, x.l3, fun i lk hl => let ⟨tb, e⟩ := x.lkA i lk hl; ⟨tb, h _ _ e⟩, x.clo.sub h, h _ _ x.c5A, h _ _ x.plA, h _ _ x.psA, x.lt⟩
theorem act_ (Fa : Facts W) {s b gd ls l st lg ap c5 p pr at_ : Addr} {mask : Int} {as lks ts : List Addr} {ps : List Nat} {e : Int} {q : Nat × Nat} {k₀ x : Nat} (S : Stage W F s b gd ls l st lg ap c5 p pr mask as lks ps e) (hat : F at_ = some (.tup [.int q.1 0, .int q.2 0])) (hx : ps[q.1]? = some x) (hq : q.2 < 3) (hk : k₀ < 256) (hts : ts.length ≤ 1000)
    (h : St ((st, .list [.int k₀ 0]) :: (lg, .list (refs ts)) :: M) F G) (k : ∀ t F' G', Sub F F' → F' t = some (.tup [.int q.2 0, .int x 0]) → St ((st, .list [.int ((k₀ + 1 : Nat) : Int) 0]) :: (lg, .list (refs (ts ++ [t]))) :: M) F' G' → K (.bool true) G') :
    CallC W (n + 5) (.ref a_do_action) [.ref s, .ref p, .ref at_, .ref ap] G K := by
  refine fnC Fa Fa.f_do_action rfl rfl fun cd => ?_
  dsimp only [sp_do_action, b_do_action]
  refine o_EA S.row fun r r1 r2 => ?_
  have hxl := S.lt x (List.mem_of_getElem? hx)
  have hql := (List.getElem?_eq_some_iff.mp hx).1
  walk_at "open_"
  have hat' := h.sub _ _ hat
  refine (i_EAA _ (by unfold itemsG; dsimp only; rw [hat']) rfl ?_)
  dsimp only [sPs_cons, sPs_nil]
  walk_at "open_"
  refine attr_ (h.sub _ _ S.plA) Fa.c_Places rfl rfl rfl ?_
  refine ⟨trivial, len_list_ok (h.sub _ _ S.psA) ?_⟩
  wide_open with nats_len
  refine cmp_f (p := (ps.length : Int) ≤ q.1) rfl (by lia) ?_
  walk_at "open_"
  refine attr_ (h.sub _ _ S.plA) Fa.c_Places rfl rfl rfl ?_
  have hpick : pickI (natsV ps) (q.1 : Int) = some (.int (x : Int) 0) := pick_nat (by unfold natsV; (wide_line using List.getElem?_map; wide_open with hx); rfl)
  refine sub_list (h.sub _ _ S.psA) hpick ?_
  refine attr_ (h.sub _ _ S.sc) Fa.c_Scene rfl rfl rfl ?_
  refine attr_ (h.sub _ _ r1) Fa.c_Buffer rfl rfl rfl ?_
  refine ⟨trivial, len_list_ok (h.sub _ _ r2) ?_⟩
  wide_open with refs_length
  refine cmp_f (p := (as.length : Int) ≤ x) rfl (by lia) ?_
  walk_at "open_"
  refine ⟨keep_fn Fa.k_inner_scene, CallC.T (inner_scene_ Fa (h.sub _ _ S.sc) (h.sub _ _ S.lksA) (fun hno => absurd (i_AA (by decide) (by lia) (by wide_open with S.l3; lia)) hno) fun i lk inner z9 hi hlk hin => ?_)⟩
  have hi : q.2 = i := by lia
  subst hi
  obtain ⟨f1, h1⟩ := h.new (o := sceneO b gd ls lk mask (0 + 1) st) hin
  have s1 := sub_set (o := sceneO b gd ls lk mask (0 + 1) st) f1
  have hin := GH.set_self F inner (sceneO b gd ls lk mask (0 + 1) st)
  have S := S.sub s1
  obtain ⟨tb, hlk⟩ := S.lkA _ _ hlk
  generalize F.set inner (sceneO b gd ls lk mask (0 + 1) st) = F1 at *
  generalize G.set inner (sceneO b gd ls lk mask (0 + 1) st) = G1 at *
  have r1 := s1 _ _ r1
  have r2 := s1 _ _ r2
  refine is_none_ok rfl ?_
  simp only [isN]
  walk_at "open_"
  refine attr_ (h1.sub _ _ S.sc) Fa.c_Scene rfl rfl rfl ?_
  refine sub_list h1.hd rfl ?_
  refine cmp_f (p := (256 : Int) ≤ k₀) rfl (by lia) ?_
  walk_at "open_"
  refine attr_ (h1.sub _ _ S.sc) Fa.c_Scene rfl rfl rfl ?_
  refine sub_list h1.hd rfl ?_
  refine add_ok ?_
  refine attr_ (h1.sub _ _ S.sc) Fa.c_Scene rfl rfl rfl ?_
  unfold setiG
  dsimp only
  wide_open with h1.hd
  refine (i_EA _ rfl ?_)
  have h2 := h1.upd (o' := .list [.int ((k₀ : Int) + 1) 0])
  have e0 : List.set [Value.int (k₀ : Int) 0] (Int.toNat 0) (.int ((k₀ : Int) + 1) 0) = [.int ((k₀ : Int) + 1) 0] := rfl
  wide_open with e0
  generalize G1.set st (.list [.int ((k₀ : Int) + 1) 0]) = G2 at *
  walk_at "open_"
  refine attr_ (h2.sub _ _ S.sc) Fa.c_Scene rfl rfl rfl ?_
  refine attr_ (h2.sub _ _ r1) Fa.c_Buffer rfl rfl rfl ?_
  refine ⟨trivial, len_list_ok (h2.sub _ _ r2) ?_⟩
  walk_at "open_"
  refine attr_ (h2.sub _ _ S.plA) Fa.c_Places rfl rfl rfl ?_
  refine sub_list (h2.sub _ _ S.psA) hpick ?_
  refine ⟨(S.clo.sub h2.sub).keep, CallC.T (apply_at_ Fa S.clo S.c5A hin hlk hts h2 fun t F3 G3 s3 ht h3 => ?_)⟩
  refine cmp_t rfl (by decide) ?_
  walk_at "open_"
  refine ret_same (k t F3 G3 (s1.trans s3) ht ?_)
  wide_open with (show ((k₀ + 1 : Nat) : Int) = (k₀ : Int) + 1 by push_cast; rfl)
  exact h3
noncomputable def LogAt (F : GH) (ts : List Addr) (lg : List (Nat × Nat)) : Prop := All2 (fun t (q : Nat × Nat) => F t = some (.tup [.int q.1 0, .int q.2 0])) ts lg
theorem LogAt.sub {F' : GH} {ts lg} (x : LogAt F ts lg) (h : Sub F F') : LogAt F' ts lg := x.imp fun z9 z9 e => h _ _ e
noncomputable def dueL (ps : List Nat) (acts : List (Nat × Nat)) : List (Nat × Nat) := acts.map fun q => (q.2, ps[q.1]?.getD 0)
set_option tactic.hygienic true in
theorem acts_ (Fa : Facts W) {s b gd ls l st lg ap c5 p pr ac : Addr} {mask : Int} {as lks : List Addr} {ps : List Nat} {e : Int} {acts : List (Nat × Nat)} (S : Stage W F s b gd ls l st lg ap c5 p pr mask as lks ps e) (ha : ActsAt F ac acts) (hq : ∀ q ∈ acts, q.1 < ps.length ∧ q.2 < 3) (hal : acts.length ≤ 10)
    (h : St ((st, .list [.int ((0 : Nat) : Int) 0]) :: (lg, .list (refs [])) :: M) F G) (k : ∀ ts F' G' sv, Sub F F' → LogAt F' ts (dueL ps acts) → St ((st, .list sv) :: (lg, .list (refs ts)) :: M) F' G' → K (.int e 0) G') :
    CallC W (n + 6) (.ref a_do_actions) [.ref s, .ref p, .ref ac, .ref ap] G K := by
  refine o_EA ha fun us a1 a2 => ?_; try clear ha
  refine fnC Fa Fa.f_do_actions rfl rfl fun cd => ?_
  dsimp only [sp_do_actions, b_do_actions]
  walk_at "open_"
  refine iter_tup (h.sub _ _ a1) ?_
  refine for_inv (fun ys m G' => ∃ (dn rs : List (Nat × Nat)) (vs ts : List Addr) (F' : GH) (x : Option Value), ys = refs vs ∧ acts = dn ++ rs ∧ All2 (fun t (q : Nat × Nat) => F' t = some (.tup [.int q.1 0, .int q.2 0])) vs rs ∧ m = [some (.ref s), some (.ref p), some (.ref ac), some (.ref ap), x] ∧
    Sub F F' ∧ LogAt F' ts (dueL ps dn) ∧ St ((st, .list [.int ((dn.length : Nat) : Int) 0]) :: (lg, .list (refs ts)) :: M) F' G') ?_ ?_ ?_ _ _ _ (i_EEEEEEAAAAAA ([]) acts us ([]) F none rfl rfl a2 rfl (Sub.refl _) .nil h)
  · intro ys m G' hx9; refine o_EEEEEEAAAAAA hx9 fun dn rs vs ts F' x z9 z9 z9 z9 s1 z9 h1 => ?_; try clear hx9; exact h1.sub _ _ (s1 _ _ a1)
  · intro m G' hx9; refine o_EEEEEEAAAAAA hx9 fun dn rs vs ts F' x ev er hA e910 s1 hL h1 => ?_; try clear hx9; subst e910
    obtain rfl : vs = [] := by simpa [refs] using ev.symm
    cases hA
    rw [List.append_nil] at er
    subst er
    walk_at "open_"
    refine attr_ (h1.sub _ _ (s1 _ _ S.plA)) Fa.c_Places rfl rfl rfl ?_
    exact ret_same (k ts F' G' _ s1 hL h1)
  · intro y ys m G' Kn nxt nxc nxr hx9; refine o_EEEEEEAAAAAA hx9 fun dn rs vs ts F' x ev er hA e910 s1 hL h1 => ?_; try clear hx9; subst e910
    cases hA with
    | nil => simp [refs] at ev
    | cons ht hA =>
    rename_i u q vs rs
    simp only [refs, List.map_cons, List.cons.injEq] at ev
    obtain ⟨rfl, rfl⟩ := ev
    obtain ⟨q1, q2⟩ := hq q (by wide_open with er; simp)
    have hdl : dn.length + (rs.length + 1) ≤ 10 := by have := congrArg List.length er; simp at this; lia
    have hll := hL.length
    unfold dueL at hll
    simp at hll
    walk_at "open_"
    refine ⟨keep_fn Fa.k_do_action, CallC.T (act_ Fa (S.sub s1) ht (List.getElem?_eq_getElem q1) q2 (by lia) (by lia) h1 fun t F2 G2 s2 ht2 h2 => ?_)⟩
    dsimp only [truthG_b, bnot_true]
    refine nxt _ _ (i_EEEEEEAAAAAA (dn ++ [q]) rs vs (ts ++ [t]) F2 _ rfl (by wide_open with er; simp) (hA.imp fun z9 z9 e => s2 _ _ e) rfl (s1.trans s2) ?_ (by wide_open with List.length_append; exact h2))
    unfold dueL
    wide_open with List.map_append
    refine (hL.sub s2).snoc ?_
    refine (?_ : F2 t = some (.tup [.int q.2 0, .int ((ps[q.1]?.getD 0 : Nat) : Int) 0]))
    wide_open with List.getElem?_eq_getElem q1
    exact ht2
end
section
open PySem PySem.W PySem.Calls PyProof.Rows PySem.SeqAt
variable {W : Wd} {n : Nat} {F G : GH} {K : KV} {cs : List Addr} {M : List (Addr × GO)} {pl P : Addr}
theorem stepW_in {g k : Nat → Bool} : ∀ {L : List Nat} {r : Nat × List Nat}, stepW g k L = some r → r.1 ∈ L ∧ r.2.Sublist L
  | p :: L, r, h => by
    have h : (bif g p then some (p, L) else bif k p then stepW g k L else none) = some r := h
    cases hg : g p with
    | true => wide_line with hg using h; exact ⟨by simp, List.sublist_cons_self _ _⟩
    | false =>
      rw [hg] at h
      cases hk : k p with
      | true => rw [hk] at h; have := stepW_in h; exact ⟨by simp [this.1], this.2.trans (List.sublist_cons_self _ _)⟩
      | false => wide_line with hk using h
theorem way1_in {ds : List Inf} {kinds : List Str} {mask : Int} : ∀ {fs : List (Int → Bool)} {L ps : List Nat}, way1 ds kinds mask fs L = some ps → ∀ p ∈ ps, p ∈ L
  | [], _, _, h => by wide_open using h; intro p hp; cases hp
  | f :: fs, L, ps, h => by
    unfold way1 at h
    refine o_EA (Option.bind_eq_some_iff.mp h) fun r hr h => ?_
    refine o_EA (Option.map_eq_some_iff.mp h) fun qs h2 e93 => ?_; subst e93
    obtain ⟨h3, h4⟩ := stepW_in hr
    intro p hp
    rcases List.mem_cons.mp hp with rfl | hp
    · exact h3
    · exact h4.subset (way1_in h2 p hp)
theorem lastN_in {l : List Nat} {d : Nat} : lastN l d = d ∨ lastN l d ∈ l := by
  unfold lastN
  cases h : l.getLast? with
  | none => exact .inl rfl
  | some p => exact .inr (List.mem_of_getLast? h)
theorem found_range {ds : List Inf} {es : List (Int × Int)} {fl i : Nat} {g mask : Int} {fb fi fa : List (Int → Bool)} {q : List Nat × Nat × Nat} (hi : i < ds.length) (h : foundW ds (seenL ds es fl) i g mask fb fi fa = some q) :
    q.1.length = fi.length ∧ (∀ p ∈ q.1, p < ds.length) ∧ q.2.1 ≤ q.2.2 ∧ q.2.2 < ds.length ∧ q.1.getLast? = some (lastN q.1 0) := by
  have hs : ∀ p ∈ seenL ds es fl, p < ds.length := fun p hp => List.mem_range.mp (List.mem_filter.mp hp).1
  unfold foundW at h
  cases fi with
  | nil => wide_open using h
  | cons f fs =>
    have h : (bif f g then _ else _) = some q := h
    cases hf : f g with
    | false => wide_line with hf using h
    | true =>
      rw [hf, cond_true] at h
      refine o_EA (Option.bind_eq_some_iff.mp h) fun ws h1 h => ?_
      refine o_EA (Option.bind_eq_some_iff.mp h) fun bs h2 h => ?_
      refine o_EA (Option.map_eq_some_iff.mp h) fun as h3 e93 => ?_; subst e93
      have w1 := way1_in h1
      have w2 := way1_in h2
      have w3 := way1_in h3
      have e1 : lastN ws i < ds.length ∧ i ≤ lastN ws i := by
        rcases lastN_in (l := ws) (d := i) with e | e
        · wide_open with e; exact ⟨hi, Nat.le_refl _⟩
        · have := List.mem_filter.mp (w1 _ e)
          exact ⟨hs _ this.1, by have := of_decide_eq_true this.2; lia⟩
      have e2 : lastN bs i ≤ i := by
        rcases lastN_in (l := bs) (d := i) with e | e
        · wide_open with e; exact Nat.le_refl _
        · have := List.mem_filter.mp (List.mem_reverse.mp (w2 _ e))
          have := of_decide_eq_true this.2; lia
      have e3 : lastN ws i ≤ lastN as (lastN ws i) ∧ lastN as (lastN ws i) < ds.length := by
        rcases lastN_in (l := as) (d := lastN ws i) with e | e
        · wide_open with e; exact ⟨Nat.le_refl _, e1.1⟩
        · have := List.mem_filter.mp (w3 _ e)
          exact ⟨by have := of_decide_eq_true this.2; lia, hs _ this.1⟩
      refine (i_AAAA (by simp [way1_len h1]) (fun p hp => ?_) (by refine (?_ : lastN bs i ≤ lastN as (lastN ws i)); lia) e3.2 ?_)
      · rcases List.mem_cons.mp hp with rfl | hp
        · exact hi
        · exact hs _ (List.mem_filter.mp (w1 _ hp)).1
      · refine (?_ : (i :: ws).getLast? = some (lastN (i :: ws) 0))
        unfold lastN
        wide_open with last_cons; rfl
set_option tactic.hygienic true in
theorem St.hang {st : List Addr} {m : Int} {I : Addr → Inf} (h : St M F G) (hs : ∀ a ∈ st, F a = some (infoO (I a))) : St M (hangH st m I F) (hangH st m I G) := by
  have hn : ∀ p ∈ M, p.1 ∉ st := fun p hp hm => by have := h.fr p hp; wide_line with hs _ hm using this
  refine ⟨h.nd, fun p hp => by unfold hangH; wide_open with if_neg (hn p hp); exact h.fr p hp, fun a => ?_⟩
  unfold hangH
  split
  · rename_i hm
    cases q : M.lookup a with
    | none => rfl
    | some o => exact absurd hm (hn _ (lookup_in q))
  · exact h.at' a
noncomputable def rowInf (as : List Addr) (ds : List Inf) (a : Addr) : Inf := (ds[as.idxOf a]?).getD ⟨0, 0, 0, 0, false, ""⟩
theorem rowInf_at {as : List Addr} {ds : List Inf} (hn : as.Nodup) {i : Nat} {a : Addr} {d : Inf} (ha : as[i]? = some a) (hd : ds[i]? = some d) : rowInf as ds a = d := by
  obtain ⟨h1, rfl⟩ := List.getElem?_eq_some_iff.mp ha
  unfold rowInf
  (wide_line using hn.idxOf_getElem i h1; wide_open with hd); rfl
theorem mem_cutA {as : List Addr} (hn : as.Nodup) {b e j : Nat} {a : Addr} (ha : as[j]? = some a) (he : e ≤ as.length) : a ∈ cutA as b e ↔ b ≤ j ∧ j < e := by
  unfold cutA
  constructor
  · intro hm
    obtain ⟨k, hk⟩ := List.mem_iff_getElem?.mp hm
    have hkl := (List.getElem?_eq_some_iff.mp hk).1
    rw [List.length_drop, List.length_take] at hkl
    rw [List.getElem?_drop, List.getElem?_take_of_lt (by lia)] at hk
    obtain ⟨q1, q2⟩ := List.getElem?_eq_some_iff.mp hk
    obtain ⟨q3, q4⟩ := List.getElem?_eq_some_iff.mp ha
    have : b + k = j := (List.getElem_inj hn).mp (q2.trans q4.symm)
    lia
  · intro hx9; obtain ⟨h1, h2⟩ := hx9
    refine List.mem_iff_getElem?.mpr ⟨j - b, ?_⟩
    (wide_line using List.getElem?_drop; wide_line using (show b + (j - b) = j by lia); wide_open with List.getElem?_take_of_lt h2)
    exact ha
theorem hung_at {as : List Addr} {ds : List Inf} (hn : as.Nodup) (hl : as.length = ds.length) (hok : ∀ i d, ds[i]? = some d → InfOK i d) {b e : Nat} (hbe : b ≤ e) (he : e < as.length) {m : Int} (h3 : ∃ a ∈ cutA as b (e + 1), (rowInf as ds a).cluster = m) (h4 : ∀ a ∈ cutA as b (e + 1), m ≤ (rowInf as ds a).cluster)
    {j : Nat} {a : Addr} {d : Inf} (ha : as[j]? = some a) (hd : ds[j]? = some d) (hin : a ∈ cutA as b (e + 1)) : hangI (cutA as b (e + 1)) m (rowInf as ds) a = { d with uns := decide (b < j ∧ j ≤ e) } := by
  have cl : ∀ {j : Nat} {a : Addr} {d : Inf}, as[j]? = some a → ds[j]? = some d → (rowInf as ds a).cluster = j := fun ha hd => by wide_open with rowInf_at hn ha hd; exact (hok _ _ hd).cl
  have hm : m = b := by
    obtain ⟨a0, ha0⟩ : ∃ a0, as[b]? = some a0 := ⟨_, List.getElem?_eq_getElem (by lia)⟩
    obtain ⟨d0, hd0⟩ : ∃ d0, ds[b]? = some d0 := ⟨_, List.getElem?_eq_getElem (by lia)⟩
    have m1 := h4 a0 ((mem_cutA hn ha0 (by lia)).mpr ⟨Nat.le_refl _, by lia⟩)
    rw [cl ha0 hd0] at m1
    refine o_EA h3 fun a1 ha1 m2 => ?_; try clear h3
    obtain ⟨j1, hj1⟩ := List.mem_iff_getElem?.mp (List.mem_of_mem_take (List.mem_of_mem_drop ha1))
    obtain ⟨d1, hd1⟩ : ∃ d1, ds[j1]? = some d1 := ⟨_, List.getElem?_eq_getElem (by have := (List.getElem?_eq_some_iff.mp hj1).1; lia)⟩
    rw [cl hj1 hd1] at m2
    have := ((mem_cutA hn hj1 (by lia)).mp ha1).1
    lia
  have hj := (mem_cutA hn ha (by lia)).mp hin
  have hc := cl ha hd
  have hr := rowInf_at hn ha hd
  have hu := (hok _ _ hd).un
  unfold hangI
  by_cases h0 : j = b
  · (wide_line using if_neg (by (wide_line using hc; wide_line using hm; wide_open with h0); simp); wide_line using hr; wide_open with decide_eq_false (by lia))
    cases d; simp at hu; simp [hu]
  · rw [if_pos ⟨hin, by rw [hc, hm]; lia⟩, hr, decide_eq_true (by lia)]
end
section
open PySem PySem.W PySem.Calls PyProof.Rows PySem.SeqAt
variable {W : Wd} {n : Nat} {F G : GH} {K : KV} {cs : List Addr} {M : List (Addr × GO)} {pl P : Addr}
noncomputable def dueR (ds : List Inf) (L : List Nat) (i : Nat) (g mask form : Int) (e0 e1 e2 : List (Int × Int)) (rds : List RuleD) : Option (RuleD × List Nat × Nat × Nat) :=
  rds.findSome? fun d => (foundW ds L i g mask (d.back.map (evalSp form e0)) (d.inside.map (evalSp form e1)) (d.ahead.map (evalSp form e2))).map fun q => (d, q)
noncomputable def SubI (F F' : GH) : Prop := ∀ a g, F a = some g → (∀ d, g ≠ infoO d) → F' a = some g
set_option tactic.hygienic true in
theorem context_ (Fa : Facts W) {s b gd ls l st lg ap c5 tb : Addr} {mask form : Int} {as lks : List Addr} {ds : List Inf} {es e0 e1 e2 : List (Int × Int)} {fl i k₀ : Nat} {kd : Str} {ms : Int} {rds : List RuleD} {cover : List Int} {di : Inf} (hform : form = 1 ∨ form = 2 ∨ form = 3)
    (h : St ((st, .list [.int k₀ 0]) :: (lg, .list (refs [])) :: M) F G) (hs : F s = some (sceneO b gd ls l mask 0 st)) (hb : BufAt F b as ds) (hok : ∀ i d, ds[i]? = some d → InfOK i d) (hz : ds.length ≤ 100) (hgd : GdefAt F gd es) (hl : LookAt F l kd fl ms) (hfl : fl < 16)
    (hls : F ls = some (.list (refs lks))) (hl3 : lks.length = 3) (hlk : ∀ (i : Nat) lk, lks[i]? = some lk → ∃ tb, F lk = some (lookO "single" 0 (i : Int) tb)) (hclo : CloAt W F ap sp_law_apply_at [c5] 2) (h5 : F c5 = some (.cell (some (.ref lg))))
    (ht : TblAt F tb form rds e0 e1 e2 cover) (ho : ∀ d ∈ rds, RuleOK form d) (hrz : rds.length ≤ 3) (hg : ∀ g, getI (heldOf e1) g = getI e1 g) (hi : ds[i]? = some di)
    (k0 : dueR ds (seenL ds es fl) i di.glyph mask form e0 e1 e2 (rds.filter (keepR form e1 cover di.glyph)) = none → ∀ F' G' sv, Sub F F' → St ((st, .list sv) :: (lg, .list (refs [])) :: M) F' G' → K (.int (-1) 0) G')
    (k1 : ∀ d q, dueR ds (seenL ds es fl) i di.glyph mask form e0 e1 e2 (rds.filter (keepR form e1 cover di.glyph)) = some (d, q) → ∀ F' G' ts sv, SubI F F' → (∀ (j : Nat) a dj, as[j]? = some a → ds[j]? = some dj → F' a = some (infoO { dj with uns := decide (q.2.1 < j ∧ j ≤ q.2.2) })) →
      LogAt F' ts (dueL q.1 d.acts) → St ((st, .list sv) :: (lg, .list (refs ts)) :: M) F' G' → K (.int ((lastN q.1 0 : Nat) + 1) 0) G') :
    CallC W (n + 20) (.ref a_apply_context) [.ref s, .ref tb, .int i 0, .ref ap] G K := by
  have hil : i < ds.length := (List.getElem?_eq_some_iff.mp hi).1
  have hlen := hb.len
  refine o_EA hb.ex fun r b1 b2 => ?_
  refine o_EA (hb.at' hi) fun ia hia hid => ?_
  have hinf : ∀ a ∈ as, F a = some (infoO (rowInf as ds a)) := fun a ha => by
    obtain ⟨j, hj⟩ := List.mem_iff_getElem?.mp ha
    obtain ⟨d, hd⟩ : ∃ d, ds[j]? = some d := ⟨_, List.getElem?_eq_getElem (by have := (List.getElem?_eq_some_iff.mp hj).1; lia)⟩
    refine o_EA (hb.at' hd) fun a' ha' e => ?_
    rw [hj] at ha'
    wide_open using ha'
    wide_open with rowInf_at hb.nd hj hd; exact e
  have hrow : RowAt F b as (rowInf as ds) := ⟨(i_EA r b1 b2), hinf⟩
  have hsc : SceneAt F s ⟨as, rowInf as ds, es, fl, mask⟩ := ⟨(i_EEEEEEEEAAAA b gd ls l 0 st kd ms hs hrow hgd hl hfl)⟩
  have hv : ViewOf ⟨as, rowInf as ds, es, fl, mask⟩ ds := ⟨hlen, fun j a d ha hd => rowInf_at hb.nd ha hd⟩
  refine fnC Fa Fa.f_apply_context rfl rfl fun cd => ?_
  dsimp only [sp_apply_context, b_apply_context]
  walk_at "open_"
  refine attr_ (h.sub _ _ hs) Fa.c_Scene rfl rfl rfl ?_
  refine cmp_t rfl rfl ?_
  walk_at "open_"
  refine attr_ (h.sub _ _ hs) Fa.c_Scene rfl rfl rfl ?_
  unfold setiG
  dsimp only
  wide_open with h.hd
  refine (i_EA _ rfl ?_)
  have h0 := h.upd (o' := .list [.int ((0 : Nat) : Int) 0])
  refine (?_ : wpSs W _ _ _ _ _ _ (G.set st (.list [.int ((0 : Nat) : Int) 0])) _)
  generalize G.set st (.list [.int ((0 : Nat) : Int) 0]) = G0 at *
  clear h
  walk_at "open_"
  refine attr_ (h0.sub _ _ hs) Fa.c_Scene rfl rfl rfl ?_
  refine attr_ (h0.sub _ _ b1) Fa.c_Buffer rfl rfl rfl ?_
  refine sub_list (h0.sub _ _ b2) (pick_ref hia) ?_
  refine attr_ (h0.sub _ _ hid) Fa.c_Info rfl rfl rfl ?_
  refine ⟨keep_fn Fa.k_rules_at, CallT.room (CallC.T (h0.call (rules_at_ (n := n) Fa hform ht ho hrz (hg _) fun lt tus F1 s1 hlt hT G1 h1 => ?_))) (by lia)⟩
  refine iter_list (h1.sub _ _ hlt) ?_
  generalize hkd : rds.filter (keepR form e1 cover di.glyph) = kds at *
  have hok2 : ∀ d ∈ kds, RuleOK form d := fun d hd => by rw [← hkd] at hd; exact ho d (List.mem_filter.mp hd).1
  refine for_inv (fun ys m G' => ∃ (us : List Addr) (rs : List RuleD) (F' : GH) (x y : Option Value), ys = refs us ∧ All2 (TestsTu F1 form e0 e1 e2) us rs ∧ (∀ d ∈ rs, RuleOK form d) ∧ dueR ds (seenL ds es fl) i di.glyph mask form e0 e1 e2 kds = dueR ds (seenL ds es fl) i di.glyph mask form e0 e1 e2 rs ∧
    m = [some (.ref s), some (.ref tb), some (.int i 0), some (.ref ap), x, y] ∧ Sub F1 F' ∧ St ((st, .list [.int ((0 : Nat) : Int) 0]) :: (lg, .list (refs [])) :: M) F' G') ?_ ?_ ?_ _ _ _ (i_EEEEEAAAAAA tus kds F1 none none rfl hT hok2 rfl rfl (Sub.refl _) h1)
  · intro ys m G' hx9; refine o_EEEEEAAAAAA hx9 fun us rs F' x y z9 z9 z9 z9 z9 s2 h2 => ?_; try clear hx9; exact h2.sub _ _ (s2 _ _ hlt)
  · intro m G' hx9; refine o_EEEEEAAAAAA hx9 fun us rs F' x y e hA z9 hd e910 s2 h2 => ?_; try clear hx9; subst e910
    obtain rfl : us = [] := by simpa [refs] using e.symm
    cases hA
    walk_at "open_"
    refine neg_ (ret_same (k0 (hd.trans rfl) F' G' _ (s1.trans s2) h2))
  · intro yv ys m G' Kn nxt nxc nxr hx9; refine o_EEEEEAAAAAA hx9 fun us rs F2 x y e hA hor hd e910 s2 h2 => ?_; try clear hx9; subst e910
    cases hA with
    | nil => simp [refs] at e
    | cons hu hA =>
    rename_i u d us rs
    simp only [refs, List.map_cons, List.cons.injEq] at e
    obtain ⟨rfl, rfl⟩ := e
    have hod := hor d (by simp)
    refine o_EEEEAAAA (hu.sub s2) fun bl il al c t1 t2 t3 t4 t5 => ?_
    obtain ⟨sp, rr, hin⟩ : ∃ sp r, d.inside = sp :: r := List.exists_cons_of_ne_nil hod.ne
    rw [hin, List.map_cons] at t3
    have s12 := s1.trans s2
    have hmf := match_found hv hok (i := i) (a := ia) hia hi (d.back.map (evalSp form e0)) (evalSp form e1 sp) (rr.map (evalSp form e1)) (d.ahead.map (evalSp form e2))
    have ed : dueR ds (seenL ds es fl) i di.glyph mask form e0 e1 e2 (d :: rs) = ((foundW ds (seenL ds es fl) i di.glyph mask (d.back.map (evalSp form e0)) (evalSp form e1 sp :: rr.map (evalSp form e1)) (d.ahead.map (evalSp form e2))).map fun q => (d, q)).or (dueR ds (seenL ds es fl) i di.glyph mask form e0 e1 e2 rs) := by
      unfold dueR
      (wide_line using List.findSome?_cons; wide_line using hin; wide_open with List.map_cons)
      cases foundW ds (seenL ds es fl) i di.glyph mask (d.back.map (evalSp form e0)) (evalSp form e1 sp :: rr.map (evalSp form e1)) (d.ahead.map (evalSp form e2)) <;> rfl
    walk_at "open_"
    refine ⟨keep_fn Fa.k_match_rule, CallT.room (CallC.T (h2.call (match_rule_ (n := n) Fa (hsc.sub s12) hia t1 t2 t3 t4 (fun hno G3 h3 => ?_) fun ps bb ee hm pl tp F3 s3 z9 z9 z9 hpl htp G3 h3 => ?_))) (by lia)⟩
    · refine isNot_none_ok rfl ?_
      walk_at "open_"
      rw [hmf] at hno
      have hno := Option.map_eq_none_iff.mp hno
      exact nxt _ _ (i_EEEEEAAAAAA us rs F2 _ _ rfl hA (fun d hd => hor d (by simp [hd])) (by (wide_line using hd; wide_line using ed; wide_open with hno); rfl) rfl s2 h3)
    · refine isNot_none_ok rfl ?_
      simp only [isN, Bool.not_false]
      rw [hmf] at hm
      refine o_EA (Option.map_eq_some_iff.mp hm) fun q hq eq => ?_
      simp only [Prod.mk.injEq] at eq
      refine o_AA eq fun e91 e92 e93 => ?_; try clear eq; subst e91; subst e92; subst e93
      refine o_AAAA (found_range hil hq) fun q1 q2 q3 q4 q5 => ?_
      have k1 := k1 d q (by (wide_line using hd; wide_line using ed; wide_open with hq); rfl)
      have hpl : F3 pl = some (.list (natsV q.1)) := by (wide_line using hpl; wide_open with nats_ints)
      have s13 := s12.trans s3
      clear hmf ed hq hd hm hA hor nxt nxc hT
      walk_at "open_"
      refine attr_ (h3.sub _ _ (s13 _ _ hs)) Fa.c_Scene rfl rfl rfl ?_
      refine sub_tup (h3.sub _ _ htp) rfl ?_
      refine sub_tup (h3.sub _ _ htp) rfl ?_
      refine add_ok ?_
      wide_open with (show (((q.2.2 : Nat) : Int) + 1) = ((q.2.2 + 1 : Nat) : Int) by push_cast; rfl)
      have t1 := s3 _ _ t1
      have t5 := t5.sub s3
      -- behind the hanging
      have tail : ∀ F4 G4, St ((st, .list [.int ((0 : Nat) : Int) 0]) :: (lg, .list (refs [])) :: M) F4 G4 → SubI F3 F4 → (∀ (j : Nat) a dj, as[j]? = some a → ds[j]? = some dj → F4 a = some (infoO { dj with uns := decide (q.2.1 < j ∧ j ≤ q.2.2) })) →
          wpSs W (n + 19) cd [] [] [.ret (.call (.val (.ref a_do_actions)) [(.var (.loc 0)), (.call (.val (.ref a_Places)) [(.sub (.var (.loc 5)) (.val (.int (0) 0))), (.bin .Add (.sub (.sub (.var (.loc 5)) (.val (.int (0) 0))) (.neg (.val (.int (1) 0)))) (.val (.int (1) 0)))]), (.sub (.var (.loc 4)) (.val (.int (3) 0))), (.var (.loc 3))])]
          [some (.ref s), some (.ref tb), some (.int i 0), some (.ref ap), some (.ref u), some (.ref tp)] G4 (seqK W (n + 19) cd [] [] [] Kn) := fun F4 G4 h4 s4 inf4 => by
        have no : ∀ {a g}, F a = some g → (∀ d, g ≠ infoO d) → F4 a = some g := fun e hk => s4 _ _ (s13 _ _ e) hk
        have htp := s4 _ _ htp fun d => by unfold infoO; intro h; wide_open using h
        have hpl := s4 _ _ hpl fun d => by unfold infoO; intro h; wide_open using h
        have t1 := s4 _ _ t1 fun d => by unfold infoO; intro h; wide_open using h
        have t5 : ActsAt F4 c d.acts := by
          refine o_EA t5 fun vs v1 v2 => ?_; try clear t5
          exact (i_EA vs (s4 _ _ v1 fun d => (by unfold infoO; intro h; wide_open using h)) (v2.imp fun z9 z9 e => s4 _ _ e fun d => (by unfold infoO; intro h; wide_open using h)))
        walk_at "open_"
        refine sub_tup (h4.sub _ _ htp) rfl ?_
        refine sub_tup (h4.sub _ _ htp) rfl ?_
        refine neg_ ?_
        refine sub_list (h4.sub _ _ hpl) (pick_lastN q5) ?_
        refine add_ok ?_
        refine ⟨keep_fn Fa.k_Places, CallC.T (new_Places Fa (famS.mk_ h4 fun p F5 G5 s5 z9 hp h5' => ?_))⟩
        refine sub_tup (h5'.sub _ _ (s5 _ _ t1)) rfl ?_
        have no5 : ∀ {a g}, F a = some g → (∀ d, g ≠ infoO d) → F5 a = some g := fun e hk => s5 _ _ (no e hk)
        have S : Stage W F5 s b gd ls l st lg ap c5 p pl mask as lks q.1 ((lastN q.1 0 : Nat) + 1) :=
          ⟨no5 hs fun d => (by unfold infoO sceneO; intro h; wide_open using h), (i_EA r (no5 b1 fun d => (by unfold infoO bufO; intro h; wide_open using h)) (no5 b2 fun d => (by unfold infoO; intro h; wide_open using h))), no5 hls fun d => (by unfold infoO; intro h; wide_open using h), hl3, fun j lk hj => let ⟨tb, e⟩ := hlk j lk hj; ⟨tb, no5 e fun d => (by unfold infoO lookO; intro h; wide_open using h)⟩,
            hclo.kept fun a o e => no5 e fun d => (by unfold infoO; intro h; wide_open using h), no5 h5 fun d => (by unfold infoO; intro h; wide_open using h), hp, s5 _ _ hpl, fun x hx => by wide_open with hlen; exact q2 x hx⟩
        refine ⟨keep_fn Fa.k_do_actions, CallT.room (CallC.T (acts_ (n := n) Fa S (t5.sub s5) (fun a ha => ⟨by have := (hod.acts a ha).1; rw [hin] at this; wide_open with q1; simpa using this, (hod.acts a ha).2⟩) (by have := hod.al; lia) h5' fun ts F6 G6 sv s6 hL h6 => nxr _ _ _ (ret_same ?_))) (by lia)⟩
        exact k1 F6 G6 ts sv (fun a g e hk => s6 _ _ (no5 e hk)) (fun j a dj ha hd => (s5.trans s6) _ _ (inf4 j a dj ha hd)) hL h6
      have hrow3 := hrow.sub (s13.trans h3.sub)
      have hel : q.2.2 < as.length := by lia
      refine ⟨keep_fn Fa.k_hang, CallT.room (CallC.T (hang_ (n := n) Fa hrow3 (fun hlt => ?_) (fun m m2 m3 m4 => ?_) (by lia))) (by lia)⟩
      · refine tail F3 G3 h3 (fun a g e z9 => e) fun j a dj ha hd => ?_
        have hc : (cutA as q.2.1 (q.2.2 + 1)).length = q.2.2 + 1 - q.2.1 := by unfold cutA; (wide_line using List.length_drop; wide_open with List.length_take); lia
        wide_open with decide_eq_false (by lia)
        have e := s13 _ _ (hinf a (List.mem_of_getElem? ha))
        rw [rowInf_at hb.nd ha hd] at e
        have hu := (hok _ _ hd).un
        wide_open with e
        cases dj; simp at hu; simp [hu]
      · have h4 := h3.hang (st := cutA as q.2.1 (q.2.2 + 1)) (m := m) (I := rowInf as ds) fun a ha => s13 _ _ (hinf a (List.mem_of_mem_take (List.mem_of_mem_drop ha)))
        refine tail _ _ h4 (fun a g e hk => ?_) fun j a dj ha hd => ?_
        · unfold hangH
          split
          · rename_i hm
            have := s13 _ _ (hinf a (List.mem_of_mem_take (List.mem_of_mem_drop hm)))
            rw [e] at this
            exact absurd (Option.some.inj this) (hk _)
          · exact e
        · unfold hangH
          split
          · rename_i hm
            wide_open with hung_at hb.nd hlen hok q3 hel m3 m4 ha hd hm
          · rename_i hm
            wide_open with (decide_eq_false (fun h => hm ((mem_cutA hb.nd ha (by lia)).mpr ⟨by lia, by lia⟩)))
            have e := s13 _ _ (hinf a (List.mem_of_getElem? ha))
            rw [rowInf_at hb.nd ha hd] at e
            have hu := (hok _ _ hd).un
            wide_open with e
            cases dj; simp at hu; simp [hu]
end
section
open PySem PySem.W PySem.Calls PyProof.Rows PySem.SeqAt
variable {W : Wd} {n : Nat} {F G : GH} {K : KV} {cs : List Addr} {M : List (Addr × GO)} {pl P : Addr}
theorem St.unfrz {a : Addr} {o : GO} (hF : F a = none) (h : St M (F.set a o) G) : St ((a, o) :: M) F G := by
  have hne : ∀ p ∈ M, p.1 ≠ a := fun p hp e => by have := h.fr p hp; rw [e, GH.set_self] at this; wide_open using this
  refine ⟨?_, fun p hp => ?_, fun b => ?_⟩
  · (wide_line using List.map_cons; wide_open with List.nodup_cons)
    exact ⟨fun hm => by refine o_EA (List.mem_map.mp hm) fun p hp e => ?_; exact hne p hp e, h.nd⟩
  · rcases List.mem_cons.mp hp with rfl | hp
    · exact hF
    · have := h.fr p hp; rwa [GH.set_ne _ _ (hne p hp)] at this
  · by_cases e : b = a
    · subst e
      (wide_line using lookup_hd; wide_line using h.at' b; wide_line using lookup_none hne; wide_open with GH.set_self); rfl
    · (wide_line using lookup_tl e; wide_line using h.at' b; wide_open with GH.set_ne _ _ e)
theorem St.under {A B : List (Addr × GO)} {p : Addr × GO} (f : ∀ F G, St A F G → St B F G) (h : St (p :: A) F G) : St (p :: B) F G := St.unfrz (h.fr p (by simp)) (f _ _ (St.frz0 (a := p.1) (o := p.2) h).2)
theorem St.third {p q r : Addr × GO} (h : St (p :: q :: r :: M) F G) : St (r :: p :: q :: M) F G := (h.under fun z9 z9 h => h.swap).swap
noncomputable abbrev cl2 : List Str := [Str.ofString "pool", Str.ofString "form", Str.ofString "is_chained", Str.ofString "rows", Str.ofString "places", Str.ofString "log"]
theorem danger_ (Fa : Facts W) {c0 c1 c2 c3 c4 c5 b : Addr} {as : List Addr} {ds : List Inf} {u : Nat → Bool} {m : Mm} {r : Addr} (h : St M F G) (hz : ds.length ≤ 100) (z3 : F c3 = some (.cell (some (.ref b)))) (hb : F b = some (bufO r)) (hr : F r = some (.list (refs as))) (hl : as.length = ds.length)
    (hi : ∀ (j : Nat) a dj, as[j]? = some a → ds[j]? = some dj → F a = some (infoO { dj with uns := u j })) (k : ∀ a F' G', Sub F F' → St M F' G' → F' a = some (.list (natsV ((List.range ds.length).filter u))) → K (.ref a) G') :
    wpE W n [c0, c1, c2, c3, c4, c5] m (.comp (.var (.loc 1)) (.one (.loc 1)) (.call (.val (.type "range")) [(.call (.val (.builtin "len")) [(.attr (.var (.cel 3)) 16)])]) (.tr (.attr (.sub (.attr (.var (.cel 0)) 16) (.var (.loc 1))) 4)) 2 [3]) G K := by
  walk_at "open_"
  refine cell_ok (h.sub _ _ z3) ?_
  refine attr_ (h.sub _ _ hb) Fa.c_Buffer rfl rfl rfl ?_
  refine ⟨trivial, len_list_ok (h.sub _ _ hr) ?_⟩
  (wide_line using refs_length; wide_open with hl)
  refine ⟨trivial, range1_ok (famS.mk_ h fun rg F1 G1 s1 z9 hrg h1 => ?_)⟩
  refine iter_range (h1.sub _ _ hrg) (by lia) ⟨by simp [small]; lia, ?_⟩
  refine nats_comp famS u h1 (fun z9 z9 z9 z9 => trivial) (fun j F2 G2 Kc hj s2 h2 yes no => ?_) fun a F2 G2 s2 h2 ha => k a F2 G2 (s1.trans s2) h2 ha
  obtain ⟨d, hd⟩ : ∃ d, ds[j]? = some d := ⟨_, List.getElem?_eq_getElem (List.mem_range.mp hj)⟩
  obtain ⟨a, ha⟩ : ∃ a, as[j]? = some a := ⟨_, List.getElem?_eq_getElem (by wide_open with hl; exact List.mem_range.mp hj)⟩
  have s12 := s1.trans s2
  walk_at "open_"
  refine cell_ok (h2.sub _ _ (s12 _ _ z3)) ?_
  refine attr_ (h2.sub _ _ (s12 _ _ hb)) Fa.c_Buffer rfl rfl rfl ?_
  refine sub_list (h2.sub _ _ (s12 _ _ hr)) (pick_ref ha) ?_
  refine attr_ (h2.sub _ _ (s12 _ _ (hi j a d ha hd))) Fa.c_Info rfl rfl rfl ?_
  walk_at "open_"
  cases hu : u j with
  | true => exact yes hu
  | false => exact no hu
theorem end_none (Fa : Facts W) {c0 c1 c2 c3 c4 c5 b lg r : Addr} {as : List Addr} {ds : List Inf} {x0 x1 x2 x3 x4 x5 x6 x7 x8 x9 x10 x11 x13 x14 x16 x17 x18 : Option Value} {p q : Addr × GO} {cd : Value} (h : St (p :: (lg, .list (refs [])) :: q :: []) F G) (hz : ds.length ≤ 100) (z3 : F c3 = some (.cell (some (.ref b)))) (z5 : F c5 = some (.cell (some (.ref lg)))) (hb : F b = some (bufO r)) (hr : F r = some (.list (refs as)))
    (hi : All2 (fun a d => F a = some (infoO d)) as ds) (hu : ∀ i d, ds[i]? = some d → InfOK i d) (ht : Tab F P) (k : ∀ G', Tab G' P → K (.bool true) G') :
    wpSs W n cd cl2 [c0, c1, c2, c3, c4, c5] (b_law.drop 20) [x0, x1, x2, x3, x4, x5, x6, x7, x8, x9, x10, x11, some .none, x13, x14, some (.int (-1) 0), x16, x17, x18] G (bodyK K) := by
  have hl := hi.length
  dsimp only [b_law, ndropS, ndrop0]
  refine ss_cons (danger_ Fa (u := fun z9 => false) h hz z3 hb hr hl (fun j a dj ha hd => ?_) fun ua F1 G1 s1 h1 hua => ?_)
  · refine o_EA (hi.get hd) fun a' ha' e => ?_
    rw [ha] at ha'
    wide_open using ha'
    have := (hu _ _ hd).un
    wide_open with e
    cases dj; simp at this; simp [this]
  have hua : F1 ua = some (.list (([] : List Int).map vInt)) := by (wide_line using hua; wide_open with List.filter_eq_nil_iff.mpr (fun z9 z9 => Bool.false_ne_true)); rfl
  walk_at "open_"
  refine is_none_ok rfl ?_
  simp only [isN]
  walk_at "open_"
  refine neg_ ?_
  refine cmp_t rfl rfl ?_
  walk_at "open_"
  try dsimp only [truthG_b]
  refine cell_ok (h1.sub _ _ (s1 _ _ z5)) ?_
  refine famS.mk_ h1 fun e1 F2 G2 s2 z9 he1 h2 => ?_
  refine eq_ints_ok (a := []) (b := []) h2.hd2 (h2.sub _ _ he1) ?_
  wide_open with decide_eq_true rfl
  walk_at "open_"
  try dsimp only [truthG_b]
  refine famS.mk_ h2 fun e2 F3 G3 s3 z9 he2 h3 => ?_
  refine eq_ints_ok (a := []) (b := []) (h3.sub _ _ (s3 _ _ (s2 _ _ hua))) (h3.sub _ _ he2) ?_
  wide_open with decide_eq_true rfl
  obtain ⟨pt, ht⟩ := ht
  exact ret_same (k G3 ⟨pt, h3.sub _ _ (s3 _ _ (s2 _ _ (s1 _ _ ht)))⟩)
noncomputable def DueAt (F : GH) (v : Value) (o : Option (RuleD × List Nat × Nat × Nat)) : Prop := match o with
  | none => v = .none
  | some dq => ∃ t tf ac pl, v = .ref t ∧ F t = some (.tup [.ref tf, .ref ac]) ∧ F tf = some (.tup [.ref pl, .int (dq.2.2.1 : Nat) 0, .int (dq.2.2.2 : Nat) 0]) ∧ F pl = some (.list (natsV dq.2.1)) ∧ ActsAt F ac dq.1.acts
noncomputable def pairsN (lg : List (Nat × Nat)) : PyData := .list (lg.map fun q => .tuple [.int q.1, .int q.2])
theorem rd_pairs {a : Addr} {ts : List Addr} {lg : List (Nat × Nat)} (h1 : G a = some (.list (refs ts))) (h2 : LogAt G ts lg) : GRd G (.ref a) (pairsN lg) := by
  refine .list h1 ?_
  clear h1
  unfold LogAt at h2
  induction h2 with
  | nil => exact .nil
  | cons x _ ih => exact .cons (.tup x (.cons (.int _) (.cons (.int _) .nil))) ih
theorem ne_pairs {x y : Addr} {ts us : List Addr} {lg : List (Nat × Nat)} {C : Bool → GH → Prop} (h1 : G x = some (.list (refs ts))) (h2 : LogAt G ts lg) (h3 : G y = some (.list (refs us))) (h4 : LogAt G us lg) (k : C false G) : cmpG W n .NotEq (.ref x) (.ref y) G C := by
  have hs : shaped (pairsN lg) = true := shaped_all (m := 1) (by decide) (fun x => by simp [PyData.canLay0, PyData.canLayAll0, PyData.depth, PyData.depthAll]) lg
  refine ne_data_ok (rd_pairs h1 h2) (rd_pairs h3 h4) hs hs (by unfold pairsN; wide_open with noMix; exact noMix_all (fun x y => by simp [noMix, noMixAll]) lg lg) ?_
  wide_open with PySem.Spec.same_self
  exact k
theorem filter_between {N b e : Nat} (he : e < N) : (List.range N).filter (fun j => decide (b < j ∧ j ≤ e)) = List.range' (b + 1) (e - b) := by
  have h1 : (List.range N).filter (fun j => decide (b < j ∧ j ≤ e)) = ((List.range N).filter fun j => decide (j < e + 1)).filter fun j => decide (b + 1 ≤ j) := by
    wide_open with List.filter_filter
    congr 1
    funext j
    ((first | refine Bool.decide_and ▸ ?_ | rewrite [← Bool.decide_and]); try with_reducible rfl)
    exact decide_eq_decide.mpr (by lia)
  (wide_line using h1; wide_line using range_upto N (e + 1) (by lia); wide_open with range_from)
  congr 1
  lia
theorem end_some (Fa : Facts W) {c0 c1 c2 c3 c4 c5 b lg r t tf ac pl : Addr} {as ts : List Addr} {ds : List Inf} {ps : List Nat} {bb ee : Nat} {acts : List (Nat × Nat)} {x0 x1 x2 x3 x4 x5 x6 x7 x8 x9 x10 x11 x13 x14 x16 x17 x18 : Option Value} {p : Addr × GO} {cd : Value}
    (h : St (p :: (lg, .list (refs ts)) :: (c4, .cell none) :: []) F G) (hz : ds.length ≤ 100) (z3 : F c3 = some (.cell (some (.ref b)))) (z5 : F c5 = some (.cell (some (.ref lg)))) (hb : F b = some (bufO r)) (hr : F r = some (.list (refs as))) (hl : as.length = ds.length)
    (hi : ∀ (j : Nat) a dj, as[j]? = some a → ds[j]? = some dj → F a = some (infoO { dj with uns := decide (bb < j ∧ j ≤ ee) })) (hee : ee < ds.length) (hbe : bb ≤ ee) (d1 : F t = some (.tup [.ref tf, .ref ac])) (d2 : F tf = some (.tup [.ref pl, .int (bb : Nat) 0, .int (ee : Nat) 0])) (d3 : F pl = some (.list (natsV ps))) (d4 : ActsAt F ac acts)
    (hq : ∀ q ∈ acts, q.1 < ps.length) (hal : acts.length ≤ 10) (hlast : ps.getLast? = some (lastN ps 0)) (hL : LogAt F ts (dueL ps acts)) (ht : Tab F P) (k : ∀ G', Tab G' P → K (.bool true) G') :
    wpSs W n cd cl2 [c0, c1, c2, c3, c4, c5] (b_law.drop 20) [x0, x1, x2, x3, x4, x5, x6, x7, x8, x9, x10, x11, some (.ref t), x13, x14, some (.int ((lastN ps 0 : Nat) + 1) 0), x16, x17, x18] G (bodyK K) := by
  dsimp only [b_law, ndropS, ndrop0]
  refine ss_cons (danger_ Fa (u := fun j => decide (bb < j ∧ j ≤ ee)) h hz z3 hb hr hl hi fun ua F1 G1 s1 h1 hua => ?_)
  rw [filter_between hee] at hua
  walk_at "open_"
  refine is_none_ok rfl ?_
  simp only [isN]
  walk_at "open_"
  refine sub_tup (h1.sub _ _ (s1 _ _ d1)) rfl ?_
  have d2' := h1.sub _ _ (s1 _ _ d2)
  refine (i_EAA _ (by unfold itemsG; dsimp only; rw [d2']) rfl ?_)
  dsimp only [sPs_cons, sPs_nil]
  have h1 := h1.third
  refine (i_EEAA c4 _ rfl h1.hd ?_)
  obtain ⟨f4, h2⟩ := h1.frz (o' := .cell (some (.ref pl)))
  have s2 := sub_set (o := .cell (some (.ref pl))) f4
  have z4 := GH.set_self F1 c4 (.cell (some (.ref pl)))
  have s02 := s1.trans s2
  have hua := s2 _ _ hua
  generalize F1.set c4 (.cell (some (.ref pl))) = F2 at *
  generalize G1.set c4 (.cell (some (.ref pl))) = G2 at *
  clear h h1 d2' f4 s1 s2
  walk_at "open_"
  have d1 := s02 _ _ d1
  refine o_EA (d4.sub s02) fun us a1 a2 => ?_
  have hAl := a2.length
  refine cell_ok (h2.sub _ _ (s02 _ _ z5)) ?_
  refine sub_tup (h2.sub _ _ d1) rfl ?_
  refine iter_tup (h2.sub _ _ a1) ⟨by simp [small, refs]; lia, ?_⟩
  refine comp_refs famS (R := fun u (a : Nat × Nat) => F2 u = some (.tup [.int a.1 0, .int a.2 0]) ∧ a.1 < ps.length) (Q := fun F c (a : Nat × Nat) => F c = some (.tup [.int (a.2 : Nat) 0, .int ((ps[a.1]?.getD 0 : Nat) : Int) 0])) (as := acts) (fun z s => s _ _ z) ?_ h2 (fun F' G' s h => h.sub _ _ (s _ _ a1)) (fun u a F3 G3 Kc hr s3 h3 kc => ?_) fun la us2 F3 G3 s3 h3 hla hQ => ?_
  · clear hAl a1
    have : ∀ {us : List Addr} {acts : List (Nat × Nat)}, All2 (fun t (q : Nat × Nat) => F2 t = some (.tup [.int q.1 0, .int q.2 0])) us acts → (∀ q ∈ acts, q.1 < ps.length) → All2 (fun u (a : Nat × Nat) => F2 u = some (.tup [.int a.1 0, .int a.2 0]) ∧ a.1 < ps.length) us acts := fun h => by
      induction h with
      | nil => intro _; exact .nil
      | cons x _ ih => intro hq; exact .cons ⟨x, hq _ (by simp)⟩ (ih fun q h => hq q (by simp [h]))
    exact this a2 hq
  · obtain ⟨hr1, hr2⟩ := hr
    have hu' := h3.sub _ _ (s3 _ _ hr1)
    refine (i_EAA _ (by unfold itemsG; dsimp only; rw [hu']) rfl ?_)
    dsimp only [sPs_cons, sPs_nil]
    walk_at "open_"
    refine cell_ok (h3.sub _ _ (s3 _ _ z4)) ?_
    refine sub_list (h3.sub _ _ (s3 _ _ (s02 _ _ d3))) (pick_nat (i := a.1) (v := .int ((ps[a.1]?.getD 0 : Nat) : Int) 0) (by unfold natsV; (wide_line using List.getElem?_map; wide_open with List.getElem?_eq_getElem hr2); rfl)) ?_
    exact famS.mk_ h3 fun c F4 G4 s4 z9 hc h4 => kc c F4 G4 s4 h4 hc
  have hL2 : LogAt G3 us2 (dueL ps acts) := LogAt.sub (F := F3) (All2.mapR (f := fun q : Nat × Nat => (q.2, ps[q.1]?.getD 0)) (fun z9 z9 z => z) hQ) h3.sub
  have s03 := s02.trans s3
  refine ne_pairs h3.hd2 (hL.sub (s03.trans h3.sub)) (h3.sub _ _ hla) hL2 ?_
  walk_at "open_"
  refine cell_ok (h3.sub _ _ (s3 _ _ z4)) ?_
  refine neg_ ?_
  refine sub_list (h3.sub _ _ (s03 _ _ d3)) (pick_lastN hlast) ?_
  refine add_ok ?_
  refine cmp_t rfl rfl ?_
  walk_at "open_"
  try dsimp only [truthG_b]
  refine add_ok ?_
  refine add_ok ?_
  refine ⟨trivial, range2_ok (famS.mk_ h3 fun rg F4 G4 s4 z9 hrg h4 => ?_)⟩
  refine ⟨trivial, list_of_range_ok (h4.sub _ _ hrg) (by lia) (famS.mk_ h4 fun lr F5 G5 s5 z9 hlr h5 => ?_)⟩
  have s35 := s4.trans s5
  have elr : ((List.range ((((ee : Nat) : Int) + 1) - (((bb : Nat) : Int) + 1)).toNat).map fun (j : Nat) => Value.int ((((bb : Nat) : Int) + 1) + (j : Int)) 0) = ((List.range' (bb + 1) (ee - bb)).map fun (j : Nat) => (j : Int)).map vInt := by
    (wide_line using (show ((((ee : Nat) : Int) + 1) - (((bb : Nat) : Int) + 1)).toNat = ee - bb by lia); wide_line using List.range'_eq_map_range; wide_line using List.map_map; wide_open with List.map_map)
    refine List.map_congr_left fun j z9 => ?_
    refine (?_ : Value.int _ 0 = Value.int _ 0)
    congr 1
  rw [elr] at hlr
  refine eq_ints_ok (by rw [← nats_ints]; exact h5.sub _ _ (s35 _ _ (s3 _ _ hua))) (h5.sub _ _ hlr) ?_
  wide_open with decide_eq_true rfl
  obtain ⟨pt, ht⟩ := ht
  exact ret_same (k G5 ⟨pt, h5.sub _ _ (s35 _ _ (s03 _ _ ht))⟩)
end
section
open PySem PySem.W PySem.Calls PyProof.Rows PySem.SeqAt
variable {W : Wd} {n : Nat} {F G : GH} {K : KV} {cs : List Addr} {M : List (Addr × GO)} {pl P : Addr}
theorem lookup_of {a : Addr} {o : GO} : ∀ {M : List (Addr × GO)}, (M.map (·.1)).Nodup → (a, o) ∈ M → M.lookup a = some o
  | [], _, h => by cases h
  | (b, p) :: M, hn, h => by
    rw [List.map_cons, List.nodup_cons] at hn
    rcases List.mem_cons.mp h with e | h
    · wide_open using e; exact lookup_hd
    · wide_open with lookup_tl (fun e => hn.1 (List.mem_map.mpr (i_EA _ h e)))
      exact lookup_of hn.2 h
theorem St.mem {a : Addr} {o : GO} (h : St M F G) (hm : (a, o) ∈ M) : G a = some o := by (wide_line using h.at' a; wide_open with lookup_of h.nd hm); rfl
noncomputable def GH.minus (G : GH) (M : List (Addr × GO)) : GH := fun a => match M.lookup a with
  | some _ => none
  | none => G a
theorem minus_get {a : Addr} {g : GO} (hM : ∀ p ∈ M, p.1 ≠ a) (h : G a = some g) : (G.minus M) a = some g := by unfold GH.minus; wide_open with lookup_none hM; exact h
theorem St.of (hn : (M.map (·.1)).Nodup) (hM : ∀ p ∈ M, G p.1 = some p.2) : St M (G.minus M) G := by
  refine ⟨hn, fun p hp => ?_, fun a => ?_⟩
  · unfold GH.minus
    wide_open with lookup_of hn (show (p.1, p.2) ∈ M from hp)
  · unfold GH.minus
    cases q : M.lookup a with
    | none => rfl
    | some o => exact (hM _ (lookup_in q))
theorem new_Scene6 (Fa : Facts W) {b gd ls l : Addr} {m : Int} (k : ∀ a st, G a = none → G st = none → a ≠ st → K (.ref a) ((G.set a (sceneO b gd ls l m 0 st)).set st (.list [.int 0 0]))) :
    CallC W (n + 2) (.ref a_Scene) [.ref b, .ref gd, .ref ls, .ref l, .int m 0] G K := by
  refine clsC Fa Fa.c_Scene fun a ha => fnC Fa Fa.f_Scene___init__ rfl rfl fun cd => ?_
  dsimp only [sp_Scene___init__, b_Scene___init__]
  walk_at "open_"
  iterate 6 refine seta_new Fa.c_Scene rfl rfl ?_
  intro st hst
  have n1 : st ≠ a := by rintro rfl; wide_line with GH.set_self using hst
  refine seta_ (by rw [GH.set_ne _ _ n1.symm, GH.set_self]) Fa.c_Scene rfl (Nat.le_of_ble_eq_true rfl) ?_
  wide_open with set_swap n1.symm
  rw [GH.set_ne _ _ n1] at hst
  exact init_end (k a st ha hst n1.symm)
/-! the law's search and the rules looked at -/
set_option tactic.hygienic true in
theorem due_eq {ds : List Inf} {L : List Nat} {i : Nat} {g mask form : Int} {e0 e1 e2 : List (Int × Int)} {cover : List Int} : ∀ rds : List RuleD,
    (if form ≠ 2 ∨ g ∈ cover then dueR ds L i g mask form e0 e1 e2 rds else none) = dueR ds L i g mask form e0 e1 e2 (rds.filter (keepR form e1 cover g)) := by
  intro rds
  split
  · rename_i hc
    have hk : ∀ d, keepR form e1 cover g d = headT form e1 d g := fun d => by
      unfold keepR
      rcases hc with h | h
      · wide_open with decide_eq_true h; rfl
      · (wide_line using decide_eq_true h; wide_open with Bool.or_true); rfl
    induction rds with
    | nil => rfl
    | cons d rds ih =>
      have e1' : dueR ds L i g mask form e0 e1 e2 (d :: rds) = ((foundW ds L i g mask (d.back.map (evalSp form e0)) (d.inside.map (evalSp form e1)) (d.ahead.map (evalSp form e2))).map fun q => (d, q)).or (dueR ds L i g mask form e0 e1 e2 rds) := by
        unfold dueR
        wide_open with List.findSome?_cons
        cases foundW ds L i g mask (d.back.map (evalSp form e0)) (d.inside.map (evalSp form e1)) (d.ahead.map (evalSp form e2)) <;> rfl
      (wide_line using e1'; wide_line using ih; wide_line using List.filter_cons; wide_open with hk)
      cases hh : headT form e1 d g with
      | true =>
        wide_open with if_pos rfl
        unfold dueR
        wide_open with List.findSome?_cons
        cases foundW ds L i g mask (d.back.map (evalSp form e0)) (d.inside.map (evalSp form e1)) (d.ahead.map (evalSp form e2)) <;> rfl
      | false =>
        have : foundW ds L i g mask (d.back.map (evalSp form e0)) (d.inside.map (evalSp form e1)) (d.ahead.map (evalSp form e2)) = none := by
          unfold headT at hh
          cases hi : d.inside with
          | nil => rfl
          | cons sp r =>
            rw [hi] at hh
            have hh : evalSp form e1 sp g = false := hh
            refine (?_ : (bif evalSp form e1 sp g then _ else _) = _)
            wide_open with hh; rfl
        rw [this]
        rfl
  · rename_i hc
    have : rds.filter (keepR form e1 cover g) = [] := List.filter_eq_nil_iff.mpr fun d z9 => by
      unfold keepR
      (wide_line using decide_eq_false (fun h => hc (.inl h)); wide_open with decide_eq_false (fun h => hc (.inr h)))
      exact Bool.false_ne_true
    wide_open with this; rfl
theorem dueR_snoc {ds : List Inf} {L : List Nat} {i : Nat} {g mask form : Int} {e0 e1 e2 : List (Int × Int)} {dn : List RuleD} {d : RuleD} : dueR ds L i g mask form e0 e1 e2 (dn ++ [d]) = (dueR ds L i g mask form e0 e1 e2 dn).or ((foundW ds L i g mask (d.back.map (evalSp form e0)) (d.inside.map (evalSp form e1)) (d.ahead.map (evalSp form e2))).map fun q => (d, q)) := by
  unfold dueR
  (wide_line using List.findSome?_append; wide_open with List.findSome?_cons)
  cases foundW ds L i g mask (d.back.map (evalSp form e0)) (d.inside.map (evalSp form e1)) (d.ahead.map (evalSp form e2)) <;> rfl
theorem DueAt.sub {F' : GH} {v : Value} {o : Option (RuleD × List Nat × Nat × Nat)} (x : DueAt F v o) (h : Sub F F') : DueAt F' v o := by
  cases o with
  | none => exact x
  | some dq => refine o_EEEEAAAA x fun t tf ac pl e h1 h2 h3 h4 => ?_; try clear x; exact (i_EEEEAAAA t tf ac pl e (h _ _ h1) (h _ _ h2) (h _ _ h3) (h4.sub h))
theorem seen_lt {ds : List Inf} {es : List (Int × Int)} {fl p : Nat} (h : p ∈ seenL ds es fl) : p < ds.length := List.mem_range.mp (List.mem_filter.mp h).1
structure Drawn1 (F : GH) (c1 c2 c3 b rl l cd ml cvl : Addr) (form mask : Int) (ch : Bool) (as rrs : List Addr) (ds : List Inf) (i : Nat) (rds : List RuleD) (fl : Nat) (es e0 e1 e2 : List (Int × Int)) (cover : List Int) : Prop where
  fm : form = 1 ∨ form = 2 ∨ form = 3
  z1 : F c1 = some (.cell (some (.int form 0)))
  z2 : F c2 = some (.cell (some (.bool ch)))
  z3 : F c3 = some (.cell (some (.ref b)))
  buf : BufAt F b as ds
  bz : ds.length ≤ 7
  ok : ∀ i d, ds[i]? = some d → InfOK i d
  il : i < ds.length
  rlA : F rl = some (.list (refs rrs))
  rr : All2 (RuleAt F) rrs rds
  ro : ∀ d ∈ rds, RuleOK form d
  rz : rds.length ≤ 3
  r3 : form = 3 → rds.length = 1
  look : LookAt F l "context" fl 0
  fl16 : fl < 16
  cls : Dict6 F cd es 4
  maps : MapsAt F ml e0 e1 e2
  cov : F cvl = some (.list (cover.map vInt))
  cz : cover.length ≤ 6
theorem Drawn1.sub {F' : GH} {c1 c2 c3 b rl l cd ml cvl : Addr} {form mask : Int} {ch : Bool} {as rrs : List Addr} {ds : List Inf} {i : Nat} {rds : List RuleD} {fl : Nat} {es e0 e1 e2 : List (Int × Int)} {cover : List Int} (x : Drawn1 F c1 c2 c3 b rl l cd ml cvl form mask ch as rrs ds i rds fl es e0 e1 e2 cover) (h : Sub F F') :
    Drawn1 F' c1 c2 c3 b rl l cd ml cvl form mask ch as rrs ds i rds fl es e0 e1 e2 cover :=
  ⟨x.fm, h _ _ x.z1, h _ _ x.z2, h _ _ x.z3, x.buf.sub h, x.bz, x.ok, x.il, h _ _ x.rlA, x.rr.imp fun z9 z9 z => z.sub h, x.ro, x.rz, x.r3, x.look.sub h, x.fl16, x.cls.sub h, x.maps.sub h, h _ _ x.cov, x.cz⟩
end
section
open PySem PySem.W PySem.Calls PyProof.Rows PySem.SeqAt
variable {W : Wd} {n : Nat} {F G : GH} {K : KV} {cs : List Addr} {M : List (Addr × GO)} {pl P : Addr}
theorem single_ (Fa : Facts W) (h : St M F G) (k : ∀ l lks F' G', Sub F F' → St M F' G' → F' l = some (.list (refs lks)) → lks.length = 3 → (∀ (i : Nat) lk, lks[i]? = some lk → ∃ tb, F' lk = some (lookO "single" 0 (i : Int) tb)) → K (.ref l) G') :
    keepG W (.type "range") G ∧ CallT W (n + 2) (.type "range") [.int 3 0] G fun iv G1 => iterG iv G1 fun xs chk => small xs.length ∧ compG chk (fun x G2 k => newG (.list []) G2 fun v G1 => keepG W (.ref a_Lookup) G1 ∧ CallT W (n + 2) (.ref a_Lookup) [.str "single" 0, .int 0 0, x, v] G1 fun v G5 => k (some v) G5) xs [] G1 K := by
  refine ⟨trivial, range1_ok (famS.mk_ h fun rg F1 G1 s1 z9 hrg h1 => ?_)⟩
  refine iter_range (m := 3) (h1.sub _ _ hrg) (by decide) ⟨by simp [small], ?_⟩
  refine comp_fam famS (fun x F v (_ : Unit) => ∀ j : Nat, x = .int (j : Int) 0 → ∃ u tb, v = .ref u ∧ F u = some (lookO "single" 0 (j : Int) tb)) (fun {x F F' v d} h s j e => let ⟨u, tb, e1, e2⟩ := h j e; (i_EEA u tb e1 (s _ _ e2))) h1 (fun z9 z9 z9 z9 => trivial) (fun x hx F2 G2 Kc s2 h2 kc => ?_) (fun a F2 G2 ps s2 z9 h2 ha hA => ?_)
  · refine o_EA (List.mem_map.mp hx) fun j hj e93 => ?_; subst e93
    refine famS.mk_ h2 fun t F3 G3 s3 z9 z9 h3 => ?_
    refine ⟨keep_fn Fa.k_Lookup, CallC.T (new_Lookup Fa (famS.mk_ h3 fun u F4 G4 s4 z9 hu h4 => kc F4 G4 _ () (s3.trans s4) h4 fun j' e => ?_))⟩
    wide_open using e
    exact (i_EEA u _ rfl hu)
  · cases hA with
    | cons a0 hB =>
    cases hB with
    | cons a1 hC =>
    cases hC with
    | cons a2 hD =>
    cases hD
    refine o_EEA (a0 0 rfl) fun u0 t0 x0 y0 => ?_
    refine o_EEA (a1 1 rfl) fun u1 t1 x1 y1 => ?_
    refine o_EEA (a2 2 rfl) fun u2 t2 x2 y2 => ?_
    refine k a [u0, u1, u2] F2 G2 (s1.trans s2) h2 (by wide_open with ha; simp [x0, x1, x2, refs]) rfl fun i lk e => ?_
    match i, e with
    | 0, e => wide_open using e; exact ⟨_, y0⟩
    | 1, e => wide_open using e; exact ⟨_, y1⟩
    | 2, e => wide_open using e; exact ⟨_, y2⟩
    | i + 3, e => simp at e
set_option tactic.hygienic true in
theorem law_rest (H2 : Facts2 W P) {c0 c1 c2 c3 c4 c5 b rl l cdd ml cvl : Addr} {form mask : Int} {ch : Bool} {as rrs : List Addr} {ds : List Inf} {i : Nat} {rds : List RuleD} {fl : Nat} {es e0 e1 e2 : List (Int × Int)} {cover : List Int} {x0 x6 x9 x10 x11 x12 x13 x14 x15 x16 x17 x18 : Option Value}
    (h : St [(c5, .cell none), (c4, .cell none), (P, .raw (tabObj #[]))] F G) (D : Drawn1 F c1 c2 c3 b rl l cdd ml cvl form mask ch as rrs ds i rds fl es e0 e1 e2 cover) (k : ∀ G', Tab G' P → K (.bool true) G') :
    wpSs W (n + 99) (.ref 633) cl2 [c0, c1, c2, c3, c4, c5] (b_law.drop 11) [x0, some (.int i 0), some (.ref rl), some (.int mask 0), some (.ref l), some (.ref cdd), x6, some (.ref ml), some (.ref cvl), x9, x10, x11, x12, x13, x14, x15, x16, x17, x18] G (bodyK K) := by
  have Fa := H2.F
  dsimp only [b_law, ndropS, ndrop0]
  walk_at "open_"
  refine cell_ok (h.sub _ _ D.z3) ?_
  refine ⟨keep_fn H2.k__law_scene, CallT.room (CallC.T (h.call (scene_ (n := n) H2 D.cls fun s0 b0 gd ls0 l0 m0 dp0 st0 F1 s1 hs0 hgd G1 h1 => ?_))) (by lia)⟩
  have D := D.sub s1
  clear h s1
  refine cell_ok (h1.sub _ _ D.z3) ?_
  refine attr_ (h1.sub _ _ hs0) Fa.c_Scene rfl rfl rfl ?_
  walk_at "open_"
  refine single_ Fa h1 fun ls lks F2 G2 s2 h2 hls hl3 hlk => ?_
  have D := D.sub s2
  have hgd := hgd.sub s2
  walk_at "open_"
  refine ⟨keep_fn Fa.k_Scene, CallC.T (new_Scene6 Fa fun sc st hsc hst hne => ?_)⟩
  obtain ⟨f2, h3⟩ := h2.new (o := sceneO b gd ls l mask 0 st) hsc
  have s3 := sub_set (o := sceneO b gd ls l mask 0 st) f2
  have hscn := GH.set_self F2 sc (sceneO b gd ls l mask 0 st)
  have h3 := (h3.newm (o := .list [.int ((0 : Nat) : Int) 0]) (by rw [GH.set_ne _ _ hne.symm]; exact hst)).swap
  have D := D.sub s3
  have hgd := hgd.sub s3
  have hls := s3 _ _ hls
  have hlk : ∀ (i : Nat) lk, lks[i]? = some lk → ∃ tb, (F2.set sc (sceneO b gd ls l mask 0 st)) lk = some (lookO "single" 0 (i : Int) tb) := fun i lk e => let ⟨tb, q⟩ := hlk i lk e; ⟨tb, s3 _ _ q⟩
  refine (?_ : wpSs W _ _ _ _ _ _ ((G2.set sc (sceneO b gd ls l mask 0 st)).set st (.list [.int ((0 : Nat) : Int) 0])) _)
  generalize (G2.set sc (sceneO b gd ls l mask 0 st)).set st (.list [.int ((0 : Nat) : Int) 0]) = G3 at *
  generalize F2.set sc (sceneO b gd ls l mask 0 st) = F3 at *
  clear h1 h2 s2 s3 f2 hsc hst hs0
  walk_at "open_"
  refine cell_ok (h3.sub _ _ D.z3) ?_
  obtain ⟨tbl, hlook⟩ := id D.look
  refine attr_ (h3.sub _ _ hlook) Fa.c_Lookup rfl rfl rfl ?_
  have hbz := D.bz
  refine ⟨keep_fn H2.k__law_seen, CallT.room (CallC.T (h3.call (seen_ (n := n) H2 D.buf (by lia) D.ok D.cls fun sn F4 s4 hsn G4 h4 => ?_))) (by lia)⟩
  have D := D.sub s4
  have hgd := hgd.sub s4
  have hls := s4 _ _ hls
  have hscn := s4 _ _ hscn
  have hlk : ∀ (i : Nat) lk, lks[i]? = some lk → ∃ tb, F4 lk = some (lookO "single" 0 (i : Int) tb) := fun i lk e => let ⟨tb, q⟩ := hlk i lk e; ⟨tb, s4 _ _ q⟩
  clear h3 s4 hlook tbl
  walk_at "open_"
  intro lg hlg
  have h5 := (h4.newm (o := .list (refs [])) hlg).swap
  refine (?_ : ∃ c x, _)
  have h5 : St ((c5, .cell none) :: (lg, .list (refs [])) :: (st, .list [.int ((0 : Nat) : Int) 0]) :: (c4, .cell none) :: (P, .raw (tabObj #[])) :: []) F4 (G4.set lg (.list [])) := h5
  refine (i_EEAA c5 _ rfl h5.hd ?_)
  obtain ⟨f5, h6⟩ := h5.frz (o' := .cell (some (.ref lg)))
  have s6 := sub_set (o := .cell (some (.ref lg))) f5
  have z5 := GH.set_self F4 c5 (.cell (some (.ref lg)))
  have D := D.sub s6
  have hgd := hgd.sub s6
  have hls := s6 _ _ hls
  have hscn := s6 _ _ hscn
  have hsn := s6 _ _ hsn
  have hlk : ∀ (i : Nat) lk, lks[i]? = some lk → ∃ tb, (F4.set c5 (.cell (some (.ref lg)))) lk = some (lookO "single" 0 (i : Int) tb) := fun i lk e => let ⟨tb, q⟩ := hlk i lk e; ⟨tb, s6 _ _ q⟩
  generalize F4.set c5 (.cell (some (.ref lg))) = F5 at *
  generalize (G4.set lg (.list [])).set c5 (.cell (some (.ref lg))) = G5 at *
  clear h4 h5 s6 f5 hlg
  walk_at "open_"
  refine H2.mk_law (n + 99) c0 c1 c2 c3 c4 c5 G5 _ (h6.mem (by simp)) fun ff c' G6 z9 hf0 hc0 hoth htab hclo => ?_
  have hP0 := h6.fr (P, .raw (tabObj #[])) (by simp)
  have h7 := h6.swap
  have hnd := h7.nd
  have hM : ∀ p ∈ [(st, GO.list [.int ((0 : Nat) : Int) 0]), (lg, .list (refs [])), (c4, .cell none)], G6 p.1 = some p.2 := fun p hp => by
    have hp4 : p ∈ [(st, GO.list [.int ((0 : Nat) : Int) 0]), (lg, .list (refs [])), (c4, .cell none), (P, .raw (tabObj #[]))] := by
      simp only [List.mem_cons, List.not_mem_nil, or_false] at hp ⊢
      rcases hp with h | h | h
      · exact .inl h
      · exact .inr (.inl h)
      · exact .inr (.inr (.inl h))
    have hg := h7.mem (show (p.1, p.2) ∈ _ from hp4)
    rw [hoth p.1 (by intro e; rw [e, hf0] at hg; wide_open using hg) (by intro e; rw [e, hc0] at hg; wide_open using hg) ?_]
    · exact hg
    · intro e
      have hPm := h7.mem (a := P) (o := .raw (tabObj #[])) (by simp)
      rw [e, hPm] at hg
      have hg := Option.some.inj hg
      simp only [List.mem_cons, List.not_mem_nil, or_false] at hp
      rcases hp with h | h | h <;> rw [h] at hg <;> wide_open using hg
  have h8 := St.of (G := G6) (M := [(st, GO.list [.int ((0 : Nat) : Int) 0]), (lg, .list (refs [])), (c4, .cell none)]) (hnd.sublist (by simp)) hM
  have s8 : Sub F5 (G6.minus [(st, GO.list [.int ((0 : Nat) : Int) 0]), (lg, .list (refs [])), (c4, .cell none)]) := fun a g e => by
    have hg := h7.sub _ _ e
    refine minus_get (fun p hp ep => ?_) ?_
    · have := h7.fr p (by simp only [List.mem_cons, List.not_mem_nil, or_false] at hp ⊢; rcases hp with h | h | h <;> simp [h])
      rw [ep, e] at this; wide_open using this
    · wide_open with hoth a (by rintro rfl; wide_line with hf0 using hg) (by rintro rfl; wide_line with hc0 using hg) (by rintro rfl; wide_line with hP0 using e)
      exact hg
  have raw8 : ∀ a o, G6 a = some (.raw o) → (G6.minus [(st, GO.list [.int ((0 : Nat) : Int) 0]), (lg, .list (refs [])), (c4, .cell none)]) a = some (.raw o) := fun a o e => minus_get (fun p hp ep => by
    have := hM p hp
    rw [ep, e] at this
    simp only [List.mem_cons, List.not_mem_nil, or_false] at hp
    have this := Option.some.inj this
    rcases hp with h | h | h <;> rw [h] at this <;> wide_open using this) e
  have hclo := hclo.kept raw8
  have htab : Tab _ P := let ⟨pt, e⟩ := htab; ⟨pt, raw8 _ _ e⟩
  generalize G6.minus [(st, GO.list [.int ((0 : Nat) : Int) 0]), (lg, .list (refs [])), (c4, .cell none)] = F8 at *
  have D := D.sub s8
  have hgd := hgd.sub s8
  have hls := s8 _ _ hls
  have hscn := s8 _ _ hscn
  have hsn := s8 _ _ hsn
  have z5 := s8 _ _ z5
  have hlk : ∀ (i : Nat) lk, lks[i]? = some lk → ∃ tb, F8 lk = some (lookO "single" 0 (i : Int) tb) := fun i lk e => let ⟨tb, q⟩ := hlk i lk e; ⟨tb, s8 _ _ q⟩
  clear h6 h7 hnd hM hP0 raw8 s8 hf0 hc0 hoth
  walk_at "open_"
  obtain ⟨di, hi⟩ : ∃ di, ds[i]? = some di := ⟨_, List.getElem?_eq_getElem D.il⟩
  refine o_EA (D.buf.at' hi) fun ia hia hid => ?_
  refine o_EA D.buf.ex fun r b1 b2 => ?_
  refine cell_ok (h8.sub _ _ D.z3) ?_
  refine attr_ (h8.sub _ _ b1) Fa.c_Buffer rfl rfl rfl ?_
  refine sub_list (h8.sub _ _ b2) (pick_ref hia) ?_
  refine attr_ (h8.sub _ _ hid) Fa.c_Info rfl rfl rfl ?_
  walk_at "open_"
  have hbz := D.bz
  have hLnd : (seenL ds (heldOf es) fl).Nodup := List.nodup_range.sublist List.filter_sublist
  have hLl : (seenL ds (heldOf es) fl).length ≤ 100 := Nat.le_trans (List.length_filter_le _ _) (by simp; lia)
  refine iter_list (h8.sub _ _ D.rlA) ?_
  refine for_inv (fun ys mm G' => ∃ (dn us : List RuleD) (ps : List Addr) (F' : GH) (dv : Value) (v13 v14 : Option Value), ys = refs ps ∧ rds = dn ++ us ∧ All2 (RuleAt F8) ps us ∧ Sub F8 F' ∧ St [(st, GO.list [.int ((0 : Nat) : Int) 0]), (lg, .list (refs [])), (c4, .cell none)] F' G' ∧ isBlt dv = false ∧
    DueAt F' dv (if form ≠ 2 ∨ di.glyph ∈ cover then dueR ds (seenL ds (heldOf es) fl) i di.glyph mask form e0 e1 e2 dn else none) ∧
    mm = [x0, some (.int i 0), some (.ref rl), some (.int mask 0), some (.ref l), some (.ref cdd), some (.int di.glyph 0), some (.ref ml), some (.ref cvl), some (.ref sc), some (.ref sn), some (.ref ff), some dv, v13, v14, x15, x16, x17, x18]) ?_ ?_ ?_ _ _ _
    (i_EEEEEEEAAAAAAA ([]) rds rrs F8 .none x13 x14 rfl rfl D.rr (Sub.refl _) h8 rfl (by split <;> rfl) rfl)
  · intro ys mm G' hx9; refine o_EEEEEEEAAAAA hx9 fun dn us ps F' dv v13 v14 z9 z9 z9 s h z9 => ?_; try clear hx9; exact h.sub _ _ (s _ _ D.rlA)
  · intro mm G' hx9; refine o_EEEEEEEAAAAAAA hx9 fun dn us ps F9 dv v13 v14 e he hps s9 h9 hdb hdue e915 => ?_; try clear hx9; subst e915
    obtain rfl : ps = [] := by simpa [refs] using e.symm
    cases hps
    rw [List.append_nil] at he
    subst he
    have D9 := D.sub s9
    rw [due_eq] at hdue
    walk_at "open_"
    refine cell_ok (h9.sub _ _ D9.z1) ?_
    refine cell_ok (h9.sub _ _ D9.z2) ?_
    refine ⟨keep_fn H2.k__law_table, CallT.room (CallC.T (h9.call (table_ (n := n) H2 D.fm D9.rlA D9.rr D.ro D.rz D.r3 D9.maps D9.cov (by have := D.cz; lia) fun tb F10 s10 htb G10 h10 => ?_))) (by lia)⟩
    have D10 := D9.sub s10
    have s810 := s9.trans s10
    have hdue := hdue.sub s10
    refine o_EEEAAA D.maps fun d0 d1 d2 z9 z9 m3 z9 => ?_
    refine o_EA D10.buf.ex fun r' b1' b2' => ?_
    refine ⟨keep_fn Fa.k_apply_context, CallT.room (CallC.T (context_ (n := n) Fa D.fm (k₀ := 0) h10 (s810 _ _ hscn) D10.buf D.ok (by lia) (hgd.sub s810) D10.look D.fl16 (s810 _ _ hls) hl3 (fun i lk e => let ⟨tb, q⟩ := hlk i lk e; ⟨tb, s810 _ _ q⟩) (hclo.sub s810) (s810 _ _ z5) htb D.ro D.rz (getI_held m3.nd fun q hq => (m3.vals q hq).1) hi (fun hn F11 G11 sv s11 h11 => ?_) fun d q hd F11 G11 ts sv sI inf hL h11 => ?_)) (by lia)⟩
    · rw [hn] at hdue
      have hdue : dv = .none := hdue
      subst hdue
      have D11 := D10.sub s11
      exact end_none (x0 := x0) (x1 := some (.int i 0)) (x13 := v13) (x14 := v14) (x16 := x16) (x17 := x17) (x18 := x18) Fa h11 (by lia) D11.z3 ((s810.trans s11) _ _ z5) (s11 _ _ b1') (s11 _ _ b2') D11.buf.infos D.ok (let ⟨pt, e⟩ := htab; ⟨pt, (s810.trans s11) _ _ e⟩) k
    · rw [hd] at hdue
      refine o_EEEEAAAAEA hdue fun t tf ac pl e95 t1 t2 t3 us t4 t5 => ?_; try clear hdue; subst e95
      refine o_EA (List.exists_of_findSome?_eq_some hd) fun d' hd' hfw => ?_
      refine o_EA (Option.map_eq_some_iff.mp hfw) fun q' hq' e => ?_
      wide_open using e
      refine o_AAAA (found_range D.il hq') fun q1 q2 q3 q4 q5 => ?_
      have hod := D.ro d (List.mem_filter.mp hd').1
      have ni : ∀ {a g}, F10 a = some g → (∀ d, g ≠ infoO d) → F11 a = some g := fun e hk => sI _ _ e hk
      exact end_some (x0 := x0) (x1 := some (.int i 0)) (x13 := v13) (x14 := v14) (x16 := x16) (x17 := x17) (x18 := x18) Fa h11 (by lia) (ni D10.z3 fun d => by unfold infoO; intro h; wide_open using h) (ni (s810 _ _ z5) fun d => by unfold infoO; intro h; wide_open using h) (ni b1' fun d => by unfold infoO bufO; intro h; wide_open using h) (ni b2' fun d => by unfold infoO; intro h; wide_open using h) D10.buf.len inf q4 q3
        (ni t1 fun d => by unfold infoO; intro h; wide_open using h) (ni t2 fun d => by unfold infoO; intro h; wide_open using h) (ni t3 fun d => by unfold infoO; intro h; wide_open using h) (i_EA us (ni t4 fun d => (by unfold infoO; intro h; wide_open using h)) (t5.imp fun z9 z9 e => ni e fun d => (by unfold infoO; intro h; wide_open using h)))
        (fun a ha => by wide_open with q1; simpa using (hod.acts a ha).1) (by have := hod.al; lia) q5 hL (let ⟨pt, e⟩ := htab; ⟨pt, ni (s810 _ _ e) fun d => (by unfold infoO; intro h; wide_open using h)⟩) k
  · intro xv ys mm G' Kn nxt nxc nxr hx9; refine o_EEEEEEEAAAAAAA hx9 fun dn us ps F9 dv v13 v14 e he hps s9 h9 hdb hdue e915 => ?_; try clear hx9; subst e915
    cases hps with
    | nil => simp [refs] at e
    | cons hr hps =>
    rename_i rr d ps us
    simp only [refs, List.map_cons, List.cons.injEq] at e
    obtain ⟨rfl, rfl⟩ := e
    have D9 := D.sub s9
    have hod := D.ro d (by wide_open with he; simp)
    have stay : ∀ F' G' y, Sub F9 F' → St [(st, GO.list [.int ((0 : Nat) : Int) 0]), (lg, .list (refs [])), (c4, .cell none)] F' G' → DueAt F' dv (if form ≠ 2 ∨ di.glyph ∈ cover then dueR ds (seenL ds (heldOf es) fl) i di.glyph mask form e0 e1 e2 (dn ++ [d]) else none) →
        Kn .next [x0, some (.int i 0), some (.ref rl), some (.int mask 0), some (.ref l), some (.ref cdd), some (.int di.glyph 0), some (.ref ml), some (.ref cvl), some (.ref sc), some (.ref sn), some (.ref ff), some dv, some (.ref rr), y, x15, x16, x17, x18] G' :=
      fun F' G' y s h hd => nxt _ _ (i_EEEEEEEAAAAAAA (dn ++ [d]) us ps F' dv _ y rfl (by wide_open with he; simp) hps (s9.trans s) h hdb hd rfl)
    walk_at "open_"
    refine is_none_ok hdb ?_
    cases ho : (if form ≠ 2 ∨ di.glyph ∈ cover then dueR ds (seenL ds (heldOf es) fl) i di.glyph mask form e0 e1 e2 dn else none) with
    | some dq =>
      rw [ho] at hdue
      have hc : form ≠ 2 ∨ di.glyph ∈ cover := by
        by_cases hc : form ≠ 2 ∨ di.glyph ∈ cover
        · exact hc
        · rw [if_neg hc] at ho; wide_open using ho
      rw [if_pos hc] at ho
      have hN : isN dv = false := by refine o_EEEEA hdue fun t z9 z9 z9 e95 z9 => ?_; try clear hdue; subst e95; rfl
      wide_open with hN
      walk_at "open_"
      exact stay F9 G' _ (Sub.refl _) h9 (by (wide_line using if_pos hc; wide_line using dueR_snoc; wide_open with ho); exact hdue)
    | none =>
      rw [ho] at hdue
      have hdue : dv = .none := hdue
      subst hdue
      simp only [isN]
      refine cell_ok (h9.sub _ _ D9.z1) ?_
      -- the law's search
      have look : (form ≠ 2 ∨ di.glyph ∈ cover) → wpSs W (n + 99) (.ref 633) cl2 [c0, c1, c2, c3, c4, c5] [.set (.one (.loc 14)) (.call (.val (.ref a__law_found)) [(.var (.cel 3)), (.var (.loc 10)), (.var (.loc 1)), (.var (.loc 13)), (.var (.cel 1)), (.var (.loc 7)), (.var (.loc 3))]),
          .ite (.cmp .IsNot (.var (.loc 14)) (.val .none)) [.set (.one (.loc 12)) (.tup [(.var (.loc 14)), (.sub (.var (.loc 13)) (.val (.int (3) 0)))])] []]
          [x0, some (.int i 0), some (.ref rl), some (.int mask 0), some (.ref l), some (.ref cdd), some (.int di.glyph 0), some (.ref ml), some (.ref cvl), some (.ref sc), some (.ref sn), some (.ref ff), some .none, some (.ref rr), v14, x15, x16, x17, x18] G'
          (seqK W (n + 99) (.ref 633) cl2 [c0, c1, c2, c3, c4, c5] [] Kn) := fun hc => by
        rw [if_pos hc] at ho
        walk_at "open_"
        refine cell_ok (h9.sub _ _ D9.z3) ?_
        refine cell_ok (h9.sub _ _ D9.z1) ?_
        refine ⟨keep_fn H2.k__law_found, CallT.room (CallC.T (h9.call (lfound_ (n := n) H2 D.ok D9.buf (s9 _ _ hsn) hLnd (fun p hp => seen_lt hp) hLl hi (hr.sub s9) hod D9.maps fun v F10 s10 hv hvb G10 h10 => ?_))) (by lia)⟩
        have fin := dueR_snoc (ds := ds) (L := seenL ds (heldOf es) fl) (i := i) (g := di.glyph) (mask := mask) (form := form) (e0 := e0) (e1 := e1) (e2 := e2) (dn := dn) (d := d)
        rw [ho] at fin
        walk_at "open_"
        refine isNot_none_ok hvb ?_
        cases hq : foundW ds (seenL ds (heldOf es) fl) i di.glyph mask (d.back.map (evalSp form e0)) (d.inside.map (evalSp form e1)) (d.ahead.map (evalSp form e2)) with
        | none =>
          rw [hq] at hv fin
          have hv : v = .none := hv
          subst hv
          simp only [isN, Bool.not_true]
          walk_at "open_"
          exact stay F10 G10 _ s10 h10 (by (wide_line using if_pos hc; wide_open with fin); rfl)
        | some q =>
          rw [hq] at hv fin
          refine o_EEAA hv fun t pl e93 t1 t2 => ?_; try clear hv; subst e93
          simp only [isN, Bool.not_false]
          walk_at "open_"
          refine o_EEEEAAAA (hr.sub (s9.trans s10)) fun tb ti ta tc r1 z9 z9 z9 r5 => ?_
          refine sub_tup (h10.sub _ _ r1) rfl ?_
          refine famS.mk_ h10 fun tt F11 G11 s11 z9 htt h11 => ?_
          exact nxt _ _ (i_EEEEEEEAAAAAAA (dn ++ [d]) us ps F11 (.ref tt) _ _ rfl (by wide_open with he; simp) hps (s9.trans (s10.trans s11)) h11 rfl (by (wide_line using if_pos hc; wide_open with fin); exact (i_EEEEAAAA tt t tc pl rfl htt (s11 _ _ t1) (s11 _ _ t2) (r5.sub s11))) rfl)
      refine cmp_ne (fun h2 => ?_) (fun h2 => ?_)
      · exact look (.inl h2)
      · walk_at "open_"
        refine in_list_ok (h9.sub _ _ D9.cov) ?_
        by_cases hm : di.glyph ∈ cover
        · wide_open with (show cover.any (· == di.glyph) = true by simpa using hm)
          exact look (.inr hm)
        · wide_open with (show cover.any (· == di.glyph) = false by wide_open with List.any_eq_false; intro x hx e; rw [eq_of_beq e] at hx; exact hm hx)
          walk_at "open_"
          have hc : ¬ (form ≠ 2 ∨ di.glyph ∈ cover) := fun h => h.elim (fun h => h h2) hm
          exact stay F9 G' _ (Sub.refl _) h9 (by wide_open with if_neg hc; rfl)
end
section
open PySem PySem.W PySem.Calls PyProof.Rows PySem.SeqAt
variable {W : Wd} {n : Nat} {F G : GH} {K : KV} {cs : List Addr} {M : List (Addr × GO)} {pl P : Addr}
theorem ten80 : ((10 : Int) ^ (Int.toNat 80)) ≠ 0 := by decide +kernel
theorem ten80pos : 0 < ((10 : Int) ^ (Int.toNat 80)) := by decide +kernel
noncomputable def poolF (x : Int) : Int := (if x < 0 then -x else x).fmod ((10 : Int) ^ (Int.toNat 80))
theorem poolF_pos (x : Int) : 0 ≤ poolF x := by
  unfold poolF
  exact Int.fmod_nonneg_of_pos _ ten80pos
theorem cut_ints (ps : List Int) (lo hi : Option Nat) : cut (ps.map vInt) lo hi = ((ps.take (hi.getD ps.length)).drop (lo.getD 0)).map vInt := by simp [cut, List.map_drop, List.map_take]
theorem rules_comp (H2 : Facts2 W P) {c0 c1 c2 : Addr} {form : Int} {ch : Bool} {cnt : Nat} (hc : cnt ≤ 10) (h : PSt pl M F G) (z0 : F c0 = some (.cell (some (.ref pl)))) (z1 : F c1 = some (.cell (some (.int form 0)))) (z2 : F c2 = some (.cell (some (.bool ch))))
    (k : ∀ l rrs rds F' G', Sub F F' → PSt pl M F' G' → F' l = some (.list (refs rrs)) → All2 (RuleAt F') rrs rds → (∀ d ∈ rds, RuleOK form d) → rds.length = cnt → K (.ref l) G') :
    keepG W (.type "range") G ∧ CallT W (n + 3) (.type "range") [.int (cnt : Int) 0] G fun iv G1 => iterG iv G1 fun xs chk => small xs.length ∧ compG chk (fun x G2 k => optG (getP [c0] [] (.cel 0) G2) fun v => optG (getP [c1] [] (.cel 0) G2) fun v1 => optG (getP [c2] [] (.cel 0) G2) fun v2 =>
      keepG W (.ref a__law_rule) G2 ∧ CallT W (n + 3) (.ref a__law_rule) [v, v1, v2] G2 fun v G5 => k (some v) G5) xs [] G1 K := by
  refine ⟨trivial, range1_ok (famP.mk_ h fun rg F1 G1 s1 z9 hrg h1 => ?_)⟩
  refine iter_range (h1.sub _ _ hrg) (by lia) ⟨by simp [small]; lia, ?_⟩
  refine comp_fam famP (fun x F v (d : RuleD) => ∃ r, v = .ref r ∧ RuleAt F r d ∧ RuleOK form d) (fun {x F F' v d} h s => let ⟨r, e, h1, h2⟩ := h; (i_EAA r e (h1.sub s) h2)) h1 (fun z9 z9 z9 z9 => trivial) (fun x hx F2 G2 Kc s2 h2 kc => ?_) (fun a F2 G2 ps s2 z9 h2 ha hA => ?_)
  · have s12 := s1.trans s2
    refine cell_ok (h2.sub _ _ (s12 _ _ z0)) ?_
    refine cell_ok (h2.sub _ _ (s12 _ _ z1)) ?_
    refine cell_ok (h2.sub _ _ (s12 _ _ z2)) ?_
    exact ⟨keep_fn H2.k__law_rule, CallC.T (rule_ H2 h2 fun r d F3 G3 s3 h3 hr ho => kc F3 G3 _ d s3 h3 (i_EAA r rfl hr ho))⟩
  · have hl := hA.length
    simp at hl
    have : ∀ {xs : List Value} {ps : List (Value × RuleD)}, All2 (fun (_ : Value) (p : Value × RuleD) => ∃ r, p.1 = .ref r ∧ RuleAt F2 r p.2 ∧ RuleOK form p.2) xs ps → ∃ rrs, ps.map (·.1) = refs rrs ∧ All2 (RuleAt F2) rrs (ps.map (·.2)) ∧ ∀ d ∈ ps.map (·.2), RuleOK form d := fun h => by
      induction h with
      | nil => exact (i_EAA ([]) rfl .nil (fun d hd => by cases hd))
      | cons x _ ih =>
        refine o_EAA ih fun rrs e a o => ?_; try clear ih
        refine o_EAA x fun r e1 e2 e3 => ?_; try clear x
        refine (i_EAA (r :: rrs) (by simp [e, e1, refs]) (.cons e2 a) (fun d hd => ?_))
        rcases List.mem_cons.mp hd with rfl | hd
        · exact e3
        · exact o d hd
    refine o_EAA (this hA) fun rrs e a2 o => ?_
    rw [e] at ha
    exact k a rrs _ F2 G2 (s1.trans s2) h2 ha a2 o (by simp [← hl])
theorem law_mid (H2 : Facts2 W P) {c0 c1 c2 c3 c4 c5 b rl : Addr} {form : Int} {ch : Bool} {as rrs : List Addr} {ds : List Inf} {i : Nat} {rds : List RuleD} {x0 x3 x4 x5 x6 x7 x8 x9 x10 x11 x12 x13 x14 x15 x16 x17 x18 : Option Value} (hform : form = 1 ∨ form = 2 ∨ form = 3)
    (h : PSt pl [(c5, .cell none), (c4, .cell none), (P, .raw (tabObj #[]))] F G) (z0 : F c0 = some (.cell (some (.ref pl)))) (z1 : F c1 = some (.cell (some (.int form 0)))) (z2 : F c2 = some (.cell (some (.bool ch)))) (z3 : F c3 = some (.cell (some (.ref b)))) (hb : BufAt F b as ds) (hz : ds.length ≤ 7) (hok : ∀ i d, ds[i]? = some d → InfOK i d) (hi : i < ds.length)
    (hrl : F rl = some (.list (refs rrs))) (hrr : All2 (RuleAt F) rrs rds) (hro : ∀ d ∈ rds, RuleOK form d) (hrz : rds.length ≤ 3) (hr3 : form = 3 → rds.length = 1) (k : ∀ G', Tab G' P → K (.bool true) G') :
    wpSs W (n + 99) (.ref 633) cl2 [c0, c1, c2, c3, c4, c5] (b_law.drop 6) [x0, some (.int i 0), some (.ref rl), x3, x4, x5, x6, x7, x8, x9, x10, x11, x12, x13, x14, x15, x16, x17, x18] G (bodyK K) := by
  have Fa := H2.F
  dsimp only [b_law, ndropS, ndrop0]
  walk_at "open_"
  refine cell_ok (h.sub _ _ z0) ?_
  refine ⟨keep_fn Fa.k__law_take, CallC.T (takeS Fa 3 h fun d1 G1 hd1 h1 => ?_)⟩
  refine add_ok ?_
  generalize (1 + (d1 : Int)) = mask
  walk_at "open_"
  refine cell_ok (h1.sub _ _ z0) ?_
  refine ⟨keep_fn H2.k__law_lookup, CallT.room (CallC.T (lookup_ (n := n) H2 h1 fun l fl F2 G2 s2 h2 hfl hlook => ?_)) (by lia)⟩
  walk_at "open_"
  refine cell_ok (h2.sub _ _ (s2 _ _ z0)) ?_
  refine ⟨keep_fn H2.k__law_gdef, CallT.room (CallC.T (gdef_ (n := n) H2 h2 fun cdd es F3 G3 s3 h3 hcls => ?_)) (by lia)⟩
  have s23 := s2.trans s3
  walk_at "open_"
  refine ⟨trivial, range1_ok (famP.mk_ h3 fun rg F4 G4 s4 z9 hrg h4 => ?_)⟩
  refine iter_range (m := 3) (h4.sub _ _ hrg) (by decide) ⟨by simp [small], ?_⟩
  have s24 := s23.trans s4
  refine comp_fam famP (fun (_ : Value) F v (e : List (Int × Int)) => ∃ d, v = .ref d ∧ Dict6 F d e 3) (fun {x F F' v d} h s => let ⟨d, e, q⟩ := h; (i_EA d e (q.sub s))) h4 (fun z9 z9 z9 z9 => trivial) (fun x hx F5 G5 Kc s5 h5 kc => ?_) (fun ml F5 G5 ps s5 z9 h5 hml hA => ?_)
  · exact dict6_ (b := 3) Fa (by decide) h5 (s5 _ _ (s24 _ _ z0)) fun d e F6 G6 s6 h6 hd => kc F6 G6 _ e s6 h6 (i_EA d rfl hd)
  have s25 := s24.trans s5
  obtain ⟨e0, e1, e2, hmaps⟩ : ∃ e0 e1 e2, MapsAt F5 ml e0 e1 e2 := by
    cases hA with
    | cons a0 hB =>
    cases hB with
    | cons a1 hC =>
    cases hC with
    | cons a2 hD =>
    cases hD
    refine o_EA a0 fun d0 x0 y0 => ?_; try clear a0
    refine o_EA a1 fun d1 x1 y1 => ?_; try clear a1
    refine o_EA a2 fun d2 x2 y2 => ?_; try clear a2
    exact (i_EEEEEEAAA _ _ _ d0 d1 d2 (by wide_open with hml; simp [x0, x1, x2]) y0 y1 y2)
  clear hA hml
  walk_at "open_"
  refine ⟨trivial, range1_ok (famP.mk_ h5 fun rg2 F6 G6 s6 z9 hrg2 h6 => ?_)⟩
  refine iter_range (m := 6) (h6.sub _ _ hrg2) (by decide) ⟨by simp [small], ?_⟩
  have z6 := s6 _ _ (s25 _ _ z0)
  refine comp_inv (fun xs acc G' => ∃ (j : Nat) (ys : List Int), xs = ((List.range 6).map fun (j : Nat) => Value.int (j : Int) 0).drop j ∧ j ≤ 6 ∧ acc = ys.map vInt ∧ ys.length ≤ j ∧ PSt pl [(c5, .cell none), (c4, .cell none), (P, .raw (tabObj #[]))] F6 G') (fun z9 z9 z9 z9 => trivial) ?_ ?_ _ _ _ (i_EEAAAA 0 ([]) rfl (by decide) rfl (Nat.le_refl _) h6)
  rotate_left
  · intro x xs acc G' Kc nxt hx9; refine o_EEAAAA hx9 fun j ys e hj e95 hl h7 => ?_; try clear hx9; subst e95
    refine o_AA (drop_range e) fun hj6 e92 e93 => ?_; subst e92; subst e93
    walk_at "open_"
    refine cell_ok (h7.sub _ _ z6) ?_
    refine ⟨keep_fn Fa.k__law_take, CallC.T (takeS Fa 4 h7 fun d G8 hd h8 => ?_)⟩
    refine cmp_if (p := (d : Int) < 3) rfl (fun z9 => ?_) (fun z9 => ?_)
    · exact nxt (some (.int (j : Int) 0)) G8 (i_EEAAAA (j + 1) (ys ++ [(j : Int)]) rfl hj6 (by simp [vInt]) (by simp; lia) h8)
    · exact nxt none G8 (i_EEAAAA (j + 1) ys rfl hj6 (by simp) (by lia) h8)
  intro acc G' hx9; refine o_EEAAAA hx9 fun j cover e hj e95 hl h7 => ?_; try clear hx9; subst e95
  refine famP.mk_ h7 fun cvl F8 G8 s8 z9 hcvl h8 => ?_
  have s68 := s6.trans s8
  have s28 := s25.trans s68
  refine o_EA h8 fun ys z9 h9 => ?_; try clear h8
  have hnd := h9.nd
  have h10 := St.of (G := G8) (M := [(c5, .cell none), (c4, .cell none), (P, .raw (tabObj #[]))]) (hnd.sublist (by simp)) fun p hp => h9.mem (show (p.1, p.2) ∈ _ from List.mem_cons_of_mem _ hp)
  have s9 : Sub F8 (G8.minus [(c5, .cell none), (c4, .cell none), (P, .raw (tabObj #[]))]) := fun a g e => minus_get (fun p hp ep => by
    have := h9.fr p (List.mem_cons_of_mem _ hp)
    rw [ep, e] at this; wide_open using this) (h9.sub _ _ e)
  generalize G8.minus [(c5, .cell none), (c4, .cell none), (P, .raw (tabObj #[]))] = F9 at *
  have s29 := s28.trans s9
  have s59 := s68.trans s9
  have s39 := (s4.trans s5).trans s59
  exact law_rest H2 h10 ⟨hform, s29 _ _ z1, s29 _ _ z2, s29 _ _ z3, hb.sub s29, hz, hok, hi, s29 _ _ hrl, hrr.imp fun z9 z9 z => z.sub s29, hro, hrz, hr3, hlook.sub (s3.trans s39), hfl, hcls.sub s39, hmaps.sub s59, s9 _ _ hcvl, by lia⟩ k
theorem law_ (H2 : Facts2 W P) {sc : Addr} {us : Array Value} {ns : List Int} (hus : W.B.IsList sc us) (hns : us.toList.map er = ns.map vInt) (hz : us.size ≤ sizeLine) (hP : G P = some (.raw (tabObj #[]))) (k : ∀ G', Tab G' P → K (.bool true) G') : CallC W (n + 100) (.ref a_law) [.ref sc] G K := by
  have Fa := H2.F
  refine o_EE Fa.O fun mg mb O => ?_
  refine callT_cel (n := n + 99) O H2.f_law rfl (by simp [sp_law]) fun cs hl hn hf => ?_
  refine o_EE (List.exists_cons_of_length_eq_add_one hl) fun c0 t e93 => ?_; subst e93
  refine o_EE (List.exists_cons_of_length_eq_add_one (Nat.succ.inj hl)) fun c1 t e93 => ?_; subst e93
  refine o_EE (List.exists_cons_of_length_eq_add_one (Nat.succ.inj (Nat.succ.inj hl))) fun c2 t e93 => ?_; subst e93
  refine o_EEE (len3 (Nat.succ.inj (Nat.succ.inj (Nat.succ.inj hl)))) fun c3 c4 c5 e94 => ?_; subst e94
  have hfr : ∀ c ∈ [c0, c1, c2, c3, c4, c5], G c = none := hf
  simp only [List.nodup_cons, List.mem_cons, List.not_mem_nil, or_false, not_or] at hn
  refine o_AAAAA hn fun n91 n92 n93 n94 n45 z9 => ?_; try clear hn; obtain ⟨n01, n02, n03, n04, n05⟩ := n91; obtain ⟨n12, n13, n14, n15⟩ := n92; obtain ⟨n23, n24, n25⟩ := n93; obtain ⟨n34, n35⟩ := n94
  have hS : St [(P, .raw (tabObj #[]))] (G.minus [(P, .raw (tabObj #[]))]) G := St.of (by simp) fun p hp => by wide_open with List.mem_singleton.mp hp; exact hP
  have h5 := hS.newm (o := .cell none) (hfr c5 (by simp))
  have h4 := (h5.newm (o := .cell none) (a := c4) (by wide_open with GH.set_ne _ _ n45; exact hfr c4 (by simp))).swap
  have h3 := h4.newm (o := .cell none) (a := c3) (by (wide_line using GH.set_ne _ _ n34; wide_open with GH.set_ne _ _ n35); exact hfr c3 (by simp))
  have h2 := h3.newm (o := .cell none) (a := c2) (by (wide_line using GH.set_ne _ _ n23; wide_line using GH.set_ne _ _ n24; wide_open with GH.set_ne _ _ n25); exact hfr c2 (by simp))
  have h1 := h2.newm (o := .cell none) (a := c1) (by (wide_line using GH.set_ne _ _ n12; wide_line using GH.set_ne _ _ n13; wide_line using GH.set_ne _ _ n14; wide_open with GH.set_ne _ _ n15); exact hfr c1 (by simp))
  have h0 := h1.newm (o := .cell none) (a := c0) (by (wide_line using GH.set_ne _ _ n01; wide_line using GH.set_ne _ _ n02; wide_line using GH.set_ne _ _ n03; wide_line using GH.set_ne _ _ n04; wide_open with GH.set_ne _ _ n05); exact hfr c0 (by simp))
  clear h1 h2 h3 h4 h5 hS n01 n02 n03 n04 n05 n12 n13 n14 n15 n23 n24 n25 n34 n35 n45 hfr hf
  generalize hF0 : G.minus [(P, .raw (tabObj #[]))] = F0 at *
  refine (?_ : wpSs W (n + 99) (.ref 633) cl2 [c0, c1, c2, c3, c4, c5] b_law _ (setCs G [c0, c1, c2, c3, c4, c5] [none, none, none, none, none, none]) (bodyK K))
  have h0 : St [(c0, .cell none), (c1, .cell none), (c2, .cell none), (c3, .cell none), (c5, .cell none), (c4, .cell none), (P, .raw (tabObj #[]))] F0 (setCs G [c0, c1, c2, c3, c4, c5] [none, none, none, none, none, none]) := h0
  generalize setCs G [c0, c1, c2, c3, c4, c5] [none, none, none, none, none, none] = G0 at *
  -- the pool
  refine ss_cons ?_
  dsimp only [sp_law]
  walk_at "open_"
  refine slice_base_ok (lo := none) (hi := some 24) hus hz rfl rfl ?_
  (wide_line using hns; wide_open with cut_ints)
  refine famS.mk_ h0 fun sl F1 G1 s1 z9 hsl h1 => ?_
  simp only [Option.getD_some, Option.getD_none, List.drop_zero] at hsl
  refine iter_list (h1.sub _ _ hsl) ⟨by simp [small]; (first | exact lqA (by lia) (by lia) | exact lqB (by lia) | exact lqD (by lia) | lia), ?_⟩
  refine comp_map (fun v => match v with | .int j _ => vInt (poolF j) | v => v) (h1.sub _ _ hsl) _ [] (fun y hy kk => ?_) ?_
  · refine o_EA (List.mem_map.mp hy) fun j hj e93 => ?_; subst e93
    intro kq
    refine ⟨trivial, abs_ok ?_⟩
    refine pow_ok (by decide) (by decide) (by decide) ?_
    refine mod_ok ten80 ?_
    exact kq
  intro pl hpl
  have e1 : ([] ++ ((ns.take 24).map vInt).map fun v => match v with | .int j _ => vInt (poolF j) | v => v) = ((ns.take 24).map poolF).map vInt := by simp only [List.nil_append, List.map_map]; rfl
  rw [e1] at *
  have h2 := (h1.newm (o := .list (((ns.take 24).map poolF).map vInt)) hpl).swap
  refine (i_EEAA c0 _ rfl h2.hd ?_)
  obtain ⟨f0, h3⟩ := h2.frz (o' := .cell (some (.ref pl)))
  have z0 := GH.set_self F1 c0 (.cell (some (.ref pl)))
  have h : PSt pl [(c1, .cell none), (c2, .cell none), (c3, .cell none), (c5, .cell none), (c4, .cell none), (P, .raw (tabObj #[]))] (F1.set c0 (.cell (some (.ref pl)))) ((G1.set pl (.list (((ns.take 24).map poolF).map vInt))).set c0 (.cell (some (.ref pl)))) :=
    (i_EA ((ns.take 24).map poolF) (fun y hy => by obtain ⟨x, _, rfl⟩ := List.mem_map.mp hy; exact poolF_pos x) h3)
  generalize F1.set c0 (.cell (some (.ref pl))) = F2 at *
  generalize (G1.set pl (.list (((ns.take 24).map poolF).map vInt))).set c0 (.cell (some (.ref pl))) = G2 at *
  clear h0 h1 h2 h3 f0 e1 hpl hsl s1
  -- the form
  refine cell_ok (h.sub _ _ z0) ?_
  refine ⟨keep_fn Fa.k__law_take, CallC.T (takeS Fa 3 h fun d0 G3 hd0 h => ?_)⟩
  refine add_ok ?_
  refine (i_EEAA c1 _ rfl h.hd ?_)
  obtain ⟨f1, h4⟩ := h.frz (o' := .cell (some (.int (1 + (d0 : Int)) 0)))
  have s1 := sub_set (o := .cell (some (.int (1 + (d0 : Int)) 0))) f1
  have z1 := GH.set_self F2 c1 (.cell (some (.int (1 + (d0 : Int)) 0)))
  have z0 := s1 _ _ z0
  have hform : (1 + (d0 : Int)) = 1 ∨ (1 + (d0 : Int)) = 2 ∨ (1 + (d0 : Int)) = 3 := by lia
  generalize F2.set c1 (.cell (some (.int (1 + (d0 : Int)) 0))) = F3 at *
  generalize G3.set c1 (.cell (some (.int (1 + (d0 : Int)) 0))) = G4 at *
  generalize (1 + (d0 : Int)) = form at *
  clear h f1 s1
  walk_at "open_"
  -- chained or not
  refine cell_ok (h4.sub _ _ z0) ?_
  refine ⟨keep_fn Fa.k__law_take, CallC.T (takeS Fa 4 h4 fun d1 G5 hd1 h5 => ?_)⟩
  refine cmpI_ok rfl ?_
  generalize (decide ((0 : Int) < (d1 : Int))) = ch
  refine (i_EEAA c2 _ rfl h5.hd ?_)
  obtain ⟨f2, h6⟩ := h5.frz (o' := .cell (some (.bool ch)))
  have s2 := sub_set (o := .cell (some (.bool ch))) f2
  have z2 := GH.set_self F3 c2 (.cell (some (.bool ch)))
  have z0 := s2 _ _ z0
  have z1 := s2 _ _ z1
  generalize F3.set c2 (.cell (some (.bool ch))) = F4 at *
  generalize G5.set c2 (.cell (some (.bool ch))) = G6 at *
  clear h4 h5 f2 s2
  walk_at "open_"
  -- the row
  refine cell_ok (h6.sub _ _ z0) ?_
  refine cell_ok (h6.sub _ _ z0) ?_
  refine ⟨keep_fn Fa.k__law_take, CallC.T (takeS Fa 7 h6 fun d2 G7 hd2 h7 => ?_)⟩
  refine add_ok ?_
  wide_open with (show (1 : Int) + (d2 : Int) = ((1 + d2 : Nat) : Int) by push_cast; rfl)
  refine ⟨keep_fn H2.k__law_buffer, CallT.room (CallC.T (buffer_ (n := n) H2 (by lia) h7 fun b as ds F5 G8 s5 h8 hbuf hdl hok => ?_)) (by lia)⟩
  refine (i_EEAA c3 _ rfl h8.hd ?_)
  obtain ⟨f3, h9⟩ := h8.frz (o' := .cell (some (.ref b)))
  have s3 := sub_set (o := .cell (some (.ref b))) f3
  have z3 := GH.set_self F5 c3 (.cell (some (.ref b)))
  have z0 := s3 _ _ (s5 _ _ z0)
  have z1 := s3 _ _ (s5 _ _ z1)
  have z2 := s3 _ _ (s5 _ _ z2)
  have hbuf := hbuf.sub s3
  generalize F5.set c3 (.cell (some (.ref b))) = F6 at *
  generalize G8.set c3 (.cell (some (.ref b))) = G9 at *
  clear h6 h7 h8 f3 s3 s5
  walk_at "open_"
  -- the place
  refine cell_ok (h9.sub _ _ z0) ?_
  refine ⟨keep_fn Fa.k__law_take, CallC.T (takeS Fa 7 h9 fun d3 G10 hd3 h10 => ?_)⟩
  refine o_EA hbuf.ex fun r b1 b2 => ?_
  refine cell_ok (h10.sub _ _ z3) ?_
  refine attr_ (h10.sub _ _ b1) Fa.c_Buffer rfl rfl rfl ?_
  refine ⟨trivial, len_list_ok (h10.sub _ _ b2) ?_⟩
  (wide_line using refs_length; wide_open with hbuf.len)
  refine mod_ok (by lia) ?_
  have hil : d3 % ds.length < ds.length := Nat.mod_lt _ (by lia)
  wide_open with (show ((d3 : Int)).fmod (ds.length : Int) = ((d3 % ds.length : Nat) : Int) from by wide_open with Int.fmod_eq_emod_of_nonneg _ (by lia); rfl)
  generalize d3 % ds.length = i at *
  clear h9 b1 b2 r
  walk_at "open_"
  -- the rules
  have fin : ∀ l rrs rds F' G', Sub F6 F' → PSt pl [(c5, .cell none), (c4, .cell none), (P, .raw (tabObj #[]))] F' G' → F' l = some (.list (refs rrs)) → All2 (RuleAt F') rrs rds → (∀ d ∈ rds, RuleOK form d) → rds.length ≤ 3 → (form = 3 → rds.length = 1) →
      wpSs W (n + 99) (.ref 633) cl2 [c0, c1, c2, c3, c4, c5] (b_law.drop 6) [some (.ref sc), some (.int i 0), some (.ref l), none, none, none, none, none, none, none, none, none, none, none, none, none, none, none, none] G' (bodyK K) := fun l rrs rds F' G' s h q1 q2 q3 q4 q5 =>
    law_mid H2 hform h (s _ _ z0) (s _ _ z1) (s _ _ z2) (s _ _ z3) (hbuf.sub s) (by lia) hok hil q1 q2 q3 q4 q5 k
  refine cell_ok (h10.sub _ _ z1) ?_
  refine cmp_if (p := form = 3) rfl (fun f3 => ?_) (fun f3 => ?_)
  · exact rules_comp (cnt := 1) H2 (by decide) h10 z0 z1 z2 fun l rrs rds F' G' s h q1 q2 q3 q4 => fin l rrs rds F' G' s h q1 q2 q3 (by lia) fun z9 => q4
  · walk_at "open_"
    refine cell_ok (h10.sub _ _ z0) ?_
    refine ⟨keep_fn Fa.k__law_take, CallC.T (takeS Fa 3 h10 fun d4 G11 hd4 h11 => ?_)⟩
    refine add_ok ?_
    wide_open with (show (1 : Int) + (d4 : Int) = ((1 + d4 : Nat) : Int) by push_cast; rfl)
    exact rules_comp (cnt := 1 + d4) H2 (by lia) h11 z0 z1 z2 fun l rrs rds F' G' s h q1 q2 q3 q4 => fin l rrs rds F' G' s h q1 q2 q3 (by lia) fun e => absurd e f3
end
section
open PySem PySem.W PySem.Calls PyProof.Rows
variable {W : Wd}
/-! the facts of a world, read off its objects by small checks -/
noncomputable def stmtsOf : FuncBody → Option (List Stmt)
  | .stmts b => some b
  | _ => none
noncomputable def okChk (fd : FuncData) (sp : FnSpec) : Bool :=
  fd.scope.kind == .function && !fd.scope.isCoroutine && !fd.scope.isGenerator && fd.globals == mainGlobals && fd.builtins == builtinsNs && decide sp.params.Nodup && decide sp.cels.Nodup &&
  (List.range sp.locs.length).all (fun i => match sp.locs[i]?, (sp.lsrc[i]?).join with | some x, some j => sp.params[j]? == some x && fd.scope.names.lookup x == some .local | _, _ => true) &&
  (List.range sp.csrc.length).all (fun i => match (sp.csrc[i]?).join with | some j => (match sp.cels[i]? with | some x => sp.params[j]? == some x | none => false) | none => true) &&
  (List.range sp.cels.length).all (fun i => match sp.cels[i]?, (sp.csrc[i]?).join with | some x, none => !sp.params.contains x | _, _ => true) &&
  sp.csrc.length == sp.cels.length && sp.params.all (fun x => fd.scope.names.lookup x == some .local || fd.scope.names.lookup x == some .cell)
set_option tactic.hygienic true in
theorem fnOK_of {fd : FuncData} {sp : FnSpec} (h : okChk fd sp = true) (hb : (stmtsOf fd.body).bind (trL (trS W.AT W.globs fnFuel fnFuel ⟨fd.scope.names, sp.locs, sp.cels⟩)) = some sp.body) : FnOK W fd sp := by
  unfold okChk at h
  simp only [Bool.and_eq_true] at h
  obtain ⟨⟨⟨⟨⟨⟨⟨⟨⟨⟨⟨h1, h2⟩, h3⟩, h4⟩, h5⟩, h6⟩, h7⟩, h8⟩, h9⟩, h10⟩, h11⟩, h12⟩ := h
  refine ⟨eq_of_beq h1, by simpa using h2, by simpa using h3, ?_, eq_of_beq h4, eq_of_beq h5, of_decide_eq_true h6, of_decide_eq_true h7, fun x i j hx hj => ?_, fun i j hj => ?_, fun x i hx hj => ?_, eq_of_beq h11, fun x hx => ?_⟩
  · refine o_EA (Option.bind_eq_some_iff.mp hb) fun b e r => ?_
    refine (i_EA b ?_ r)
    cases hq : fd.body with
    | stmts b' => wide_line with hq using e; rfl
    | _ => wide_line with hq using e
  · have hi := idxOf?_get hx
    have := List.all_eq_true.mp h8 i (List.mem_range.mpr (List.getElem?_eq_some_iff.mp hi).1)
    rw [hi, hj] at this
    simp only [Bool.and_eq_true] at this
    exact ⟨eq_of_beq this.1, eq_of_beq this.2⟩
  · have hil : i < sp.csrc.length := by
      rcases Nat.lt_or_ge i sp.csrc.length with z | z
      · exact z
      · wide_line with List.getElem?_eq_none z using hj
    have := List.all_eq_true.mp h9 i (List.mem_range.mpr hil)
    rw [hj] at this
    dsimp only at this
    split at this
    · rename_i x hx; exact (i_EA x hx (eq_of_beq this))
    · wide_open using this
  · have hi := idxOf?_get hx
    have := List.all_eq_true.mp h10 i (List.mem_range.mpr (List.getElem?_eq_some_iff.mp hi).1)
    rw [hi, hj] at this
    simpa using this
  · have := List.all_eq_true.mp h12 x hx
    rcases Bool.or_eq_true_iff.mp this with q | q
    · exact .inl (eq_of_beq q)
    · exact .inr (eq_of_beq q)
noncomputable def fdOf (K : Frag) (f : Addr) : Option FuncData := match K.lookup f with
  | some ⟨_, _, .func fd, _⟩ => some fd
  | _ => none
noncomputable def codeChk (K : Frag) (fd : FuncData) : Bool := match fd.code with
  | .ref c => (match K.lookup c with
    | some ⟨_, _, .fields vs, _⟩ => (match (vs[1]? : Option Value) with
      | some (.str q _) => q == fd.qualname
      | _ => false)
    | _ => false)
  | _ => false
noncomputable def dflOf (K : Frag) (fd : FuncData) (m : Nat) : List Value := match fd.defaults with
  | .ref t => (match K.lookup t with
    | some ⟨_, _, .seq vs _, _⟩ => vs.toList.drop (vs.size - m)
    | _ => [])
  | _ => []
noncomputable def fnChk (K : Frag) (f : Addr) (sp : FnSpec) (k : Nat) (raw : List Value) (cd : Option Value) : Bool := match fdOf K f with
  | some fd => okChk fd sp && codeChk K fd && fd.closure.isEmpty && ((sp.cels.isEmpty && fd.scope.names.all fun x => x.2 != .cell) || sp.cels.all fun x => fd.scope.names.lookup x == some .cell) &&
      k + raw.length == sp.params.length && (match cd with | some c => fd.code == c | none => true)
  | none => false
noncomputable def fnTr (K : Frag) (AT : Names) (gl : List (Str × Value)) (f : Addr) (sp : FnSpec) : Option (List CS) :=
  (fdOf K f).bind fun fd => (stmtsOf fd.body).bind (trL (trS AT gl fnFuel fnFuel ⟨fd.scope.names, sp.locs, sp.cels⟩))
noncomputable def fnBind (K : Frag) (S : Setting) (f : Addr) (args : List Value) : Option (List (Str × Value)) := (fdOf K f).bind fun fd => peek K S (bindArgs fd ⟨args, []⟩)
set_option tactic.hygienic true in
theorem fnAt_of (X : W.K.In W.B) {f : Addr} {sp : FnSpec} {k : Nat} {raw : List Value} {cd : Option Value} (h : fnChk W.K f sp k raw cd = true) (hb : fnTr W.K W.AT W.globs f sp = some sp.body)
    (ha : ∀ args : List Value, args.length = k → fnBind W.K ⟨W.prog, W.w.params⟩ f args = some (sp.params.zip (args ++ raw))) : ∃ code, (∀ c, cd = some c → code = c) ∧ FnAt W f sp code k (raw.map er) := by
  unfold fnChk at h
  cases hfd : fdOf W.K f with
  | none => wide_line with hfd using h
  | some fd =>
    rw [hfd] at h
    obtain ⟨h, h6⟩ := Bool.and_eq_true_iff.mp h
    obtain ⟨h, h5⟩ := Bool.and_eq_true_iff.mp h
    obtain ⟨h, h4⟩ := Bool.and_eq_true_iff.mp h
    obtain ⟨h, h3⟩ := Bool.and_eq_true_iff.mp h
    obtain ⟨h1, h2⟩ := Bool.and_eq_true_iff.mp h
    have hfo : ∃ fo, W.K.lookup f = some fo ∧ fo.data = .func fd := by
      unfold fdOf at hfd
      split at hfd
      · rename_i hq
        wide_open using hfd; exact (i_EA _ hq rfl)
      · wide_open using hfd
    refine o_EA hfo fun fo hk hd => ?_; try clear hfo
    have hrec : W.B.CodeRec fd.code fd.qualname := by
      unfold codeChk at h2
      split at h2
      · rename_i c hc
        split at h2
        · rename_i vs _ hq
          split at h2
          · rename_i q t hv
            rw [eq_of_beq h2] at hv
            exact (i_EEEEAAA c _ vs t hc (X _ _ hq) rfl hv)
          · wide_open using h2
        · wide_open using h2
      · wide_open using h2
    refine (i_EA fd.code (fun c hc => by subst hc; exact eq_of_beq h6) ⟨fo, fd, X _ _ hk, hd, rfl, hrec, fnOK_of h1 ?_, by simpa using h3, ?_, by wide_open with List.length_map; exact eq_of_beq h5, fun args hl => (i_EA raw rfl ?_)⟩)
    · unfold fnTr at hb
      rw [hfd] at hb; exact hb
    · rcases Bool.or_eq_true_iff.mp h4 with q | q
      · obtain ⟨q1, q2⟩ := Bool.and_eq_true_iff.mp q
        refine .inl ⟨by simpa using q1, fun x hx => ?_⟩
        have := List.all_eq_true.mp q2 x hx
        simpa using this
      · refine .inr fun x i hx => ?_
        have hi := idxOf?_get hx
        exact eq_of_beq (List.all_eq_true.mp q x (List.mem_of_getElem? hi))
    · have := ha args hl
      unfold fnBind at this
      rw [hfd] at this
      exact Looks.of_peek X this
theorem all_lookup {α β : Type} [BEq α] [LawfulBEq α] {p : α × β → Bool} : ∀ {l : List (α × β)} {a : α} {b : β}, l.all p = true → l.lookup a = some b → p (a, b) = true
  | [], _, _, _, h => by wide_open using h
  | (x, y) :: l, a, b, ha, h => by
    simp only [List.all_cons, Bool.and_eq_true] at ha
    rw [List.lookup_cons] at h
    cases hb : a == x with
    | true => wide_line with hb using h; wide_open with eq_of_beq hb; exact ha.1
    | false => rw [hb] at h; exact all_lookup ha.2 h
noncomputable def globChk (K : Frag) (p : Str × Value) : Bool := match nsIn K mainGlobals p.1 with
  | some (some v) => er v == p.2
  | some none => p.1 != "__name__" && (bootBuiltins p.1).map er == some p.2
  | none => false
noncomputable def worldChk (K : Frag) (AT : Names) (cls : List (Addr × ClsSpec)) (fns : List Addr) (gl : List (Str × Value)) : Bool :=
  cls.all (fun p => clsOK K AT p.1 p.2) && fns.all (fun f => keepIn K (.ref f)) && gl.all (globChk K)
set_option tactic.hygienic true in
theorem wdOK_of {mg mb : Str → Option Value} (X : W.K.In W.B) (hl : W.B.NoLimit) (hg : W.B.Ns mainGlobals mg) (hb : W.B.Ns builtinsNs mb) (hbb : ∀ x : Str, x ≠ "__name__" → mb x = bootBuiltins x)
    (h : worldChk W.K W.AT W.cls W.fns W.globs = true) : WdOK W mg mb := by
  unfold worldChk at h
  simp only [Bool.and_eq_true] at h
  obtain ⟨⟨h1, h2⟩, h3⟩ := h
  refine ⟨X, fun C sp e => all_lookup h1 e, fun f e => List.all_eq_true.mp h2 f (by simpa using e), hl, hg, hb, fun x v e => ?_⟩
  have := all_lookup h3 e
  unfold globChk at this
  dsimp only at this
  split at this
  · rename_i v' hq
    exact .inl (i_EA v' (mg_of X hg hq) (eq_of_beq this))
  · rename_i hq
    simp only [Bool.and_eq_true, bne_iff_ne, ne_eq] at this
    have e2 := eq_of_beq this.2
    refine o_EA (Option.map_eq_some_iff.mp e2) fun v' hv' hev => ?_
    exact .inr (i_AEA (mg_none_of X hg hq) v' (by wide_open with hbb x this.1; exact hv') hev)
  · wide_open using this
noncomputable def strsChk (K : Frag) (a : Addr) (ns : List Str) : Bool := match K.lookup a with
  | some ⟨c, _, .seq us _, _⟩ => c == .type "tuple" && us.toList.map er == ns.map vStr
  | _ => false
set_option tactic.hygienic true in
theorem strs_at (X : W.K.In W.B) {a : Addr} {ns : List Str} (h : strsChk W.K a ns = true) : BStrs W a ns := by
  unfold strsChk at h
  split at h
  · rename_i c _ us m _ hq
    simp only [Bool.and_eq_true] at h
    exact (i_EA us (i_EAAE _ (X _ _ hq) (eq_of_beq h.1) m rfl) (strs_of (eq_of_beq h.2)))
  · wide_open using h
/-! the nested functions -/
noncomputable def isDef : Stmt → Bool
  | .FunctionDef .. => true
  | _ => false
theorem isDef_of {st : Stmt} (h : isDef st = true) : ∃ decs ret typs isA bind, st = .FunctionDef (fName st) (fArgs st) (fBody st) decs ret typs (fScope st) isA bind (fPos st) := by
  cases st with
  | FunctionDef name args body decs ret typs scope isA bind pos => exact (i_EEEEE decs ret typs isA bind rfl)
  | _ => wide_open using h
noncomputable def nestChk (st : Stmt) (celn : List Str) (sp : FnSpec) (m : Nat) : Bool := isDef st && (fScope st).names.all (fun p => p.2 != .free || (celn.idxOf? p.1).isSome) &&
  sp.cels.all (fun x => (fScope st).names.contains (x, NameKind.free) && (match celn.idxOf? x with | some j => decide (j < m) | none => false)) && (fScope st).names.all (fun x => x.2 != .cell)
set_option tactic.hygienic true in
theorem nest_make {mg : Str → Option Value} {n : Nat} {G : GH} {K : KV} {st : Stmt} {c P : Addr} {celn : List Str} {cs : List Addr} {sp : FnSpec} {k : Nat}
    (hg : W.B.Ns mainGlobals mg) (hC : CodeHd W.B c P) (hb : W.B.BuiltinsAt mg P) (hP : G P = some (.raw (tabObj #[]))) (h : nestChk st celn sp cs.length = true) (hk : k = sp.params.length)
    (hok : ∀ qual clos doc pm cdv ct, okChk (fnX (fName st) qual (fArgs st) (fBody st) (fScope st) clos .none .none doc pm none cdv ct) sp = true)
    (htr : (trL (trS W.AT W.globs fnFuel fnFuel ⟨(fScope st).names, sp.locs, sp.cels⟩)) (fBody st) = some sp.body)
    (hbind : ∀ qual clos doc pm cdv ct, ∀ vs : List Value, vs.length = k → bindArgs (fnX (fName st) qual (fArgs st) (fBody st) (fScope st) clos .none .none doc pm none cdv ct) ⟨vs, []⟩ = pure (sp.params.zip vs))
    (kk : ∀ f c' G', f ≠ c' → G f = none → G c' = none → (∀ a, a ≠ f → a ≠ c' → a ≠ P → G' a = G a) → Tab G' P → CloAt W G' f sp (sp.cels.filterMap fun x => (celn.idxOf? x).bind fun j => cs[j]?) k → K (.ref f) G') :
    FDefT W n (.ref c) celn cs st G K := by
  unfold nestChk at h
  simp only [Bool.and_eq_true] at h
  obtain ⟨⟨⟨h1, h2⟩, h3⟩, h4⟩ := h
  refine o_EEEEE (isDef_of h1) fun decs ret typs isA bind e => ?_
  wide_open with e
  refine fdef_make hg hC hb hP (fun p hp hf => ?_) (fun x i hx => ?_) (fun qual clos doc pm cdv ct => fnOK_of (hok qual clos doc pm cdv ct) htr) (fun x hx => by simpa using List.all_eq_true.mp h4 x hx) hk hbind kk
  · have := List.all_eq_true.mp h2 p hp
    rw [hf] at this
    exact Option.isSome_iff_exists.mp (by simpa using this)
  · have := List.all_eq_true.mp h3 x (List.mem_of_getElem? (idxOf?_get hx))
    simp only [Bool.and_eq_true] at this
    refine ⟨by simpa using this.1, ?_⟩
    have h := this.2
    split at h
    · rename_i j hj
      exact (i_EEA j (cs[j]'(of_decide_eq_true h)) hj (List.getElem?_eq_getElem _))
    · wide_open using h
end
section
open PySem PySem.W PySem.Calls PyProof.Rows
noncomputable def clsL : List (Addr × ClsSpec) := [(a_Info, k_Info), (a_Buffer, k_Buffer), (a_Coverage, k_Coverage), (a_Rule, k_Rule), (a_Contexts, k_Contexts), (a_Lookup, k_Lookup), (a_Scene, k_Scene), (a_Places, k_Places), (a_ClassDef, k_ClassDef), (a_Gdef, k_Gdef)]
noncomputable def fnsL : List Addr := [a_Info, a_Buffer, a_Coverage, a_Rule, a_Contexts, a_Lookup, a_Scene, a_Places, a_ClassDef, a_Gdef, a_Info___init__, a_Buffer___init__, a_Buffer_glyphs, a_hang, a_Coverage___init__, a_Coverage_index, a_Coverage_has, a_coverage_of, a_Rule___init__, a_Contexts___init__, a_Contexts_rules, a_tests_of, a_rule_tests, a_rules_at, a_Lookup___init__, a_Scene___init__, a_attach_wanted, a_class_bit, a_is_ignored, a_passes, a_nested_scene, a_fits, a_is_borne, a_found_at, a_input_at, a_last_at, a_ahead_at, a_back_at, a_Places___init__, a_match_rule, a_inner_scene, a_grow, a_shrink, a_move, a_do_action, a_do_actions, a_apply_context, a_ClassDef___init__, a_ClassDef_class_of, a_Gdef___init__, a_Gdef_glyph_class, a__law_take, a__law_buffer, a__law_gdef, a__law_lookup, a__law_scene, a__law_seen, a__law_row, a__law_rule, a__law_table, a__law_plain, a__law_ways, a__law_found]
noncomputable def globL : List (Str × Value) := [(Str.ofString "Info", .ref a_Info), (Str.ofString "Buffer", .ref a_Buffer), (Str.ofString "hang", .ref a_hang), (Str.ofString "Coverage", .ref a_Coverage), (Str.ofString "coverage_of", .ref a_coverage_of), (Str.ofString "Rule", .ref a_Rule), (Str.ofString "Contexts", .ref a_Contexts), (Str.ofString "tests_of", .ref a_tests_of), (Str.ofString "rule_tests", .ref a_rule_tests), (Str.ofString "rules_at", .ref a_rules_at), (Str.ofString "Lookup", .ref a_Lookup), (Str.ofString "Scene", .ref a_Scene), (Str.ofString "attach_wanted", .ref a_attach_wanted), (Str.ofString "class_bit", .ref a_class_bit), (Str.ofString "is_ignored", .ref a_is_ignored), (Str.ofString "passes", .ref a_passes), (Str.ofString "nested_scene", .ref a_nested_scene), (Str.ofString "KINDS_IN_INPUT", .ref a_KINDS_IN_INPUT), (Str.ofString "KINDS_AROUND", .ref a_KINDS_AROUND), (Str.ofString "fits", .ref a_fits), (Str.ofString "is_borne", .ref a_is_borne), (Str.ofString "found_at", .ref a_found_at), (Str.ofString "input_at", .ref a_input_at), (Str.ofString "last_at", .ref a_last_at), (Str.ofString "ahead_at", .ref a_ahead_at), (Str.ofString "back_at", .ref a_back_at), (Str.ofString "Places", .ref a_Places), (Str.ofString "match_rule", .ref a_match_rule), (Str.ofString "inner_scene", .ref a_inner_scene), (Str.ofString "grow", .ref a_grow), (Str.ofString "shrink", .ref a_shrink), (Str.ofString "move", .ref a_move), (Str.ofString "do_action", .ref a_do_action), (Str.ofString "do_actions", .ref a_do_actions), (Str.ofString "apply_context", .ref a_apply_context), (Str.ofString "ClassDef", .ref a_ClassDef), (Str.ofString "Gdef", .ref a_Gdef), (Str.ofString "_law_take", .ref a__law_take), (Str.ofString "_law_buffer", .ref a__law_buffer), (Str.ofString "_law_gdef", .ref a__law_gdef), (Str.ofString "_law_lookup", .ref a__law_lookup), (Str.ofString "_law_scene", .ref a__law_scene), (Str.ofString "_law_seen", .ref a__law_seen), (Str.ofString "_law_row", .ref a__law_row), (Str.ofString "_law_rule", .ref a__law_rule), (Str.ofString "_law_table", .ref a__law_table), (Str.ofString "_law_plain", .ref a__law_plain), (Str.ofString "_law_ways", .ref a__law_ways), (Str.ofString "_law_found", .ref a__law_found),
  (Str.ofString "BY_GLYPHS", .int 1 0), (Str.ofString "BY_CLASSES", .int 2 0), (Str.ofString "IGNORE_BASES", .int 2 0), (Str.ofString "IGNORE_LIGATURES", .int 4 0), (Str.ofString "IGNORE_MARKS", .int 8 0), (Str.ofString "USE_SET", .int 16 0), (Str.ofString "MOST_DEPTH", .int 6 0), (Str.ofString "MOST_PLACES", .int 64 0), (Str.ofString "MOST_ACTIONS", .int 256 0), (Str.ofString "NO_CLASS", .int 0 0), (Str.ofString "BASE", .int 1 0), (Str.ofString "COMPONENT", .int 4 0),
  (Str.ofString "len", .builtin "len"), (Str.ofString "abs", .builtin "abs"), (Str.ofString "min", .builtin "min"), (Str.ofString "max", .builtin "max"), (Str.ofString "sum", .builtin "sum"), (Str.ofString "sorted", .builtin "sorted"), (Str.ofString "range", .type "range"), (Str.ofString "list", .type "list"), (Str.ofString "tuple", .type "tuple"), (Str.ofString "dict", .type "dict")]
structure FnE where
  f : Addr
  sp : FnSpec
  k : Nat
  raw : List Value
  cd : Option Value
noncomputable def fnL : List FnE := [⟨a_Info___init__, sp_Info___init__, 4, [], none⟩,
  ⟨a_Buffer___init__, sp_Buffer___init__, 2, [.bool false], none⟩,
  ⟨a_Buffer_glyphs, sp_Buffer_glyphs, 1, [], none⟩,
  ⟨a_hang, sp_hang, 3, [], none⟩,
  ⟨a_Coverage___init__, sp_Coverage___init__, 2, [], none⟩,
  ⟨a_Coverage_index, sp_Coverage_index, 2, [], none⟩,
  ⟨a_Coverage_has, sp_Coverage_has, 2, [], none⟩,
  ⟨a_coverage_of, sp_coverage_of, 1, [], none⟩,
  ⟨a_Rule___init__, sp_Rule___init__, 5, [], none⟩,
  ⟨a_Contexts___init__, sp_Contexts___init__, 4, [.none, .none], none⟩,
  ⟨a_Contexts_rules, sp_Contexts_rules, 1, [], none⟩,
  ⟨a_tests_of, sp_tests_of, 3, [], none⟩,
  ⟨a_rule_tests, sp_rule_tests, 2, [], none⟩,
  ⟨a_rules_at, sp_rules_at, 2, [], none⟩,
  ⟨a_Lookup___init__, sp_Lookup___init__, 5, [], none⟩,
  ⟨a_Scene___init__, sp_Scene___init__, 6, [.int 0 602], none⟩,
  ⟨a_attach_wanted, sp_attach_wanted, 1, [], none⟩,
  ⟨a_class_bit, sp_class_bit, 1, [], none⟩,
  ⟨a_is_ignored, sp_is_ignored, 3, [], none⟩,
  ⟨a_passes, sp_passes, 2, [], none⟩,
  ⟨a_nested_scene, sp_nested_scene, 2, [], none⟩,
  ⟨a_fits, sp_fits, 2, [], none⟩,
  ⟨a_is_borne, sp_is_borne, 2, [], none⟩,
  ⟨a_found_at, sp_found_at, 6, [], none⟩,
  ⟨a_input_at, sp_input_at, 3, [], none⟩,
  ⟨a_last_at, sp_last_at, 4, [], none⟩,
  ⟨a_ahead_at, sp_ahead_at, 3, [], none⟩,
  ⟨a_back_at, sp_back_at, 3, [], none⟩,
  ⟨a_Places___init__, sp_Places___init__, 3, [], none⟩,
  ⟨a_match_rule, sp_match_rule, 3, [], none⟩,
  ⟨a_inner_scene, sp_inner_scene, 2, [], none⟩,
  ⟨a_grow, sp_grow, 3, [], none⟩,
  ⟨a_shrink, sp_shrink, 3, [], none⟩,
  ⟨a_move, sp_move, 3, [], none⟩,
  ⟨a_do_action, sp_do_action, 4, [], none⟩,
  ⟨a_do_actions, sp_do_actions, 4, [], none⟩,
  ⟨a_apply_context, sp_apply_context, 4, [], none⟩,
  ⟨a_ClassDef___init__, sp_ClassDef___init__, 2, [], none⟩,
  ⟨a_ClassDef_class_of, sp_ClassDef_class_of, 2, [], none⟩,
  ⟨a_Gdef___init__, sp_Gdef___init__, 4, [.none, .none], none⟩,
  ⟨a_Gdef_glyph_class, sp_Gdef_glyph_class, 2, [], none⟩,
  ⟨a__law_take, sp__law_take, 2, [], none⟩,
  ⟨a_Scene___init__, sp_Scene___init__, 7, [], none⟩,
  ⟨a_Contexts___init__, sp_Contexts___init__, 6, [], none⟩,
  ⟨a__law_buffer, sp__law_buffer, 2, [], none⟩,
  ⟨a__law_gdef, sp__law_gdef, 1, [], none⟩,
  ⟨a__law_lookup, sp__law_lookup, 1, [], none⟩,
  ⟨a__law_scene, sp__law_scene, 5, [], none⟩,
  ⟨a__law_seen, sp__law_seen, 3, [], none⟩,
  ⟨a__law_row, sp__law_row, 3, [], none⟩,
  ⟨a__law_rule, sp__law_rule, 3, [], none⟩,
  ⟨a__law_table, sp__law_table, 5, [], none⟩,
  ⟨a__law_plain, sp__law_plain, 3, [], none⟩,
  ⟨a__law_ways, sp__law_ways, 5, [], none⟩,
  ⟨a__law_found, sp__law_found, 7, [], none⟩,
  ⟨a_law, sp_law, 1, [], some (.ref 633)⟩]
noncomputable def need1 : List Addr := [3, 34, 35, 51, 52, 64, 70, 71, 75, 76, 104, 105, 113, 114, 127, 128, 134, 135, 141, 142, 151, 152, 162, 163, 176, 177, 193, 194, 206, 212, 213, 231, 232, 234, 235, 248, 249, 255, 256, 260, 261, 274, 275, 282, 283, 295, 301, 302, 304, 305, 315, 316, 322, 323, 329, 330, 336, 337, 343, 344, 345, 346, 352, 353, 359, 360, 366, 367, 373, 374, 380, 381, 387, 388, 394, 395, 408, 409, 411, 412, 422, 423, 429, 430, 434, 435, 439, 440, 446, 447, 453, 454, 460, 461, 467, 468, 481, 482, 488, 489, 510, 511, 523, 529, 530, 536, 537, 544, 551, 558, 559, 569, 570, 576, 577, 581, 582, 588, 589, 593, 594, 598, 599, 603, 604, 608, 609, 613, 614, 618, 619, 623, 624, 628, 629, 633, 634]
noncomputable def fragAt (as : List Addr) (h : Heap) : Frag := as.filterMap fun a => (h.get? a).bind fun o => match o.cls, o.data with
  | .none, .fields _ => none
  | _, _ => some (a, o)
theorem mem_of_look {K : Frag} {a : Addr} {o : Obj} (e : K.lookup a = some o) : (a, o) ∈ K := mem_of_lookupK e
theorem fragAt_in {as : List Addr} {h : Heap} : (fragAt as h).In h := fun a o e => by
  refine o_EA (List.mem_filterMap.mp (mem_of_look e)) fun b z9 hb => ?_
  refine o_EA (Option.bind_eq_some_iff.mp hb) fun x hx hm => ?_
  split at hm
  · wide_open using hm
  · wide_open using hm; exact hx
noncomputable def nmChk (K : Frag) (x : Str) (a : Addr) : Bool := match nsIn K mainGlobals x with
  | some (some (.ref b)) => b == a
  | _ => false
set_option tactic.hygienic true in
theorem nm_of {K : Frag} {x : Str} {a : Addr} (h : nmChk K x a = true) : nsIn K mainGlobals x = some (some (.ref a)) := by
  unfold nmChk at h
  split at h
  · rename_i b hb; (wide_line using hb; wide_open with eq_of_beq h)
  · wide_open using h
noncomputable def chkL (K : Frag) : List Bool := [worldChk K AT1 clsL fnsL globL, fnL.all (fun x => fnChk K x.f x.sp x.k x.raw x.cd), strsChk K a_KINDS_IN_INPUT ["zwj", "hidden"], strsChk K a_KINDS_AROUND ["zwj", "zwnj", "hidden"], codeHdIn K 633 631, noTabs K, nmChk K (Str.ofString "law") 634]
noncomputable abbrev ObsT := List Bool × List (Option (List CS)) × ((Nat → Value) → List (Option (List (Str × Value))))
noncomputable def obsK (pr : Program) (K : Frag) (P : Params) : ObsT := (chkL K, fnL.map (fun x => fnTr K AT1 globL x.f x.sp), fun v => fnL.map fun x => fnBind K ⟨pr, P⟩ x.f ((List.range x.k).map v))
noncomputable def goodK : ObsT := ([true, true, true, true, true, true, true], fnL.map (fun x => some x.sp.body), fun v => fnL.map fun x => some (x.sp.params.zip ((List.range x.k).map v ++ x.raw)))
noncomputable def wl1 (w : World) (B : Heap) (os : OsState) (K : Frag) : Wd := ⟨PySem.Challenge.rw_nu0235_02.row.prog, w, AT1, B, os, K, clsL, fnsL, globL⟩
variable {w : World} {B : Heap} {os : OsState} {K : Frag}
structure Seen1 (w : World) (K : Frag) : Prop where
  e : obsK PySem.Challenge.rw_nu0235_02.row.prog K w.params = goodK
theorem Seen1.chk (S : Seen1 w K) {i : Nat} {b : Bool} (h : (chkL K)[i]? = some b) (hi : i < 7) : b = true := by
  have e := congrArg (fun x : ObsT => x.1) S.e
  have e : chkL K = [true, true, true, true, true, true, true] := e
  rw [e] at h
  match i, hi with
  | 0, _ | 1, _ | 2, _ | 3, _ | 4, _ | 5, _ | 6, _ => wide_open using h; rfl
theorem range_map {args : List Value} {k : Nat} (h : args.length = k) : (List.range k).map (fun i => args.getD i .none) = args := by
  subst h
  refine List.ext_getElem (by simp) fun i h1 h2 => ?_
  simp [h2]
theorem Seen1.fn (S : Seen1 w K) (X : K.In B) {x : FnE} (hx : x ∈ fnL) : ∃ code, (∀ c, x.cd = some c → code = c) ∧ FnAt (wl1 w B os K) x.f x.sp code x.k (x.raw.map er) := by
  have h1 := S.chk (i := 1) rfl (by decide)
  have e2 : fnL.map (fun x => fnTr K AT1 globL x.f x.sp) = fnL.map (fun x => some x.sp.body) := congrArg (fun z : ObsT => z.2.1) S.e
  have e3 : ∀ v : Nat → Value, fnL.map (fun x => fnBind K ⟨PySem.Challenge.rw_nu0235_02.row.prog, w.params⟩ x.f ((List.range x.k).map v)) = fnL.map fun x => some (x.sp.params.zip ((List.range x.k).map v ++ x.raw)) := congrFun (congrArg (fun z : ObsT => z.2.2) S.e)
  refine fnAt_of (W := wl1 w B os K) X (List.all_eq_true.mp h1 x hx) (List.map_inj_left.mp e2 x hx) fun args hl => ?_
  have := List.map_inj_left.mp (e3 fun i => args.getD i .none) x hx
  rw [range_map hl] at this
  exact this
theorem Seen1.at (S : Seen1 w K) (X : K.In B) {i : Nat} {x : FnE} (h : fnL[i]? = some x) : ∃ code, FnAt (wl1 w B os K) x.f x.sp code x.k (x.raw.map er) :=
  let ⟨c, _, z⟩ := S.fn X (List.mem_of_getElem? h); ⟨c, z⟩
theorem Seen1.atc (S : Seen1 w K) (X : K.In B) {i : Nat} {x : FnE} {c : Value} (h : fnL[i]? = some x) (hc : x.cd = some c) : FnAt (wl1 w B os K) x.f x.sp c x.k (x.raw.map er) :=
  let ⟨d, e, z⟩ := S.fn X (List.mem_of_getElem? h); (e c hc) ▸ z
theorem w1_facts (S : Seen1 w K) {mg mb : Str → Option Value} (X : K.In B) (hl : B.NoLimit) (hg : B.Ns mainGlobals mg) (hb : B.Ns builtinsNs mb) (hbb : ∀ x : Str, x ≠ "__name__" → mb x = bootBuiltins x) : Facts (wl1 w B os K) where
  O := (i_EE mg mb (wdOK_of (W := wl1 w B os K) X hl hg hb hbb (S.chk (i := 0) rfl (by decide))))
  AT := rfl
  c_Info := rfl
  c_Buffer := rfl
  c_Coverage := rfl
  c_Rule := rfl
  c_Contexts := rfl
  c_Lookup := rfl
  c_Scene := rfl
  c_Places := rfl
  c_ClassDef := rfl
  c_Gdef := rfl
  f_Info___init__ := S.at X (i := 0) rfl
  f_Buffer___init__ := S.at X (i := 1) rfl
  f_Buffer_glyphs := S.at X (i := 2) rfl
  f_hang := S.at X (i := 3) rfl
  f_Coverage___init__ := S.at X (i := 4) rfl
  f_Coverage_index := S.at X (i := 5) rfl
  f_Coverage_has := S.at X (i := 6) rfl
  f_coverage_of := S.at X (i := 7) rfl
  f_Rule___init__ := S.at X (i := 8) rfl
  f_Contexts___init__ := S.at X (i := 9) rfl
  f_Contexts_rules := S.at X (i := 10) rfl
  f_tests_of := S.at X (i := 11) rfl
  f_rule_tests := S.at X (i := 12) rfl
  f_rules_at := S.at X (i := 13) rfl
  f_Lookup___init__ := S.at X (i := 14) rfl
  f_Scene___init__ := S.at X (i := 15) rfl
  f_attach_wanted := S.at X (i := 16) rfl
  f_class_bit := S.at X (i := 17) rfl
  f_is_ignored := S.at X (i := 18) rfl
  f_passes := S.at X (i := 19) rfl
  f_nested_scene := S.at X (i := 20) rfl
  f_fits := S.at X (i := 21) rfl
  f_is_borne := S.at X (i := 22) rfl
  f_found_at := S.at X (i := 23) rfl
  f_input_at := S.at X (i := 24) rfl
  f_last_at := S.at X (i := 25) rfl
  f_ahead_at := S.at X (i := 26) rfl
  f_back_at := S.at X (i := 27) rfl
  f_Places___init__ := S.at X (i := 28) rfl
  f_match_rule := S.at X (i := 29) rfl
  f_inner_scene := S.at X (i := 30) rfl
  f_grow := S.at X (i := 31) rfl
  f_shrink := S.at X (i := 32) rfl
  f_move := S.at X (i := 33) rfl
  f_do_action := S.at X (i := 34) rfl
  f_do_actions := S.at X (i := 35) rfl
  f_apply_context := S.at X (i := 36) rfl
  f_ClassDef___init__ := S.at X (i := 37) rfl
  f_ClassDef_class_of := S.at X (i := 38) rfl
  f_Gdef___init__ := S.at X (i := 39) rfl
  f_Gdef_glyph_class := S.at X (i := 40) rfl
  f__law_take := S.at X (i := 41) rfl
  f_Scene_full := S.at X (i := 42) rfl
  f_Contexts_full := S.at X (i := 43) rfl
  k_Info := rfl
  k_Buffer := rfl
  k_Coverage := rfl
  k_Rule := rfl
  k_Contexts := rfl
  k_Lookup := rfl
  k_Scene := rfl
  k_Places := rfl
  k_ClassDef := rfl
  k_Gdef := rfl
  k_Info___init__ := rfl
  k_Buffer___init__ := rfl
  k_Buffer_glyphs := rfl
  k_hang := rfl
  k_Coverage___init__ := rfl
  k_Coverage_index := rfl
  k_Coverage_has := rfl
  k_coverage_of := rfl
  k_Rule___init__ := rfl
  k_Contexts___init__ := rfl
  k_Contexts_rules := rfl
  k_tests_of := rfl
  k_rule_tests := rfl
  k_rules_at := rfl
  k_Lookup___init__ := rfl
  k_Scene___init__ := rfl
  k_attach_wanted := rfl
  k_class_bit := rfl
  k_is_ignored := rfl
  k_passes := rfl
  k_nested_scene := rfl
  k_fits := rfl
  k_is_borne := rfl
  k_found_at := rfl
  k_input_at := rfl
  k_last_at := rfl
  k_ahead_at := rfl
  k_back_at := rfl
  k_Places___init__ := rfl
  k_match_rule := rfl
  k_inner_scene := rfl
  k_grow := rfl
  k_shrink := rfl
  k_move := rfl
  k_do_action := rfl
  k_do_actions := rfl
  k_apply_context := rfl
  k_ClassDef___init__ := rfl
  k_ClassDef_class_of := rfl
  k_Gdef___init__ := rfl
  k_Gdef_glyph_class := rfl
  k__law_take := rfl
  kin := strs_at (W := wl1 w B os K) X (S.chk (i := 2) rfl (by decide))
  kar := strs_at (W := wl1 w B os K) X (S.chk (i := 3) rfl (by decide))
end
section
open PySem PySem.W PySem.Calls PyProof.Rows
variable {w : World} {B : Heap} {os : OsState} {K1 : Frag}
theorem w1_law {mg : Str → Option Value} (hg : B.Ns mainGlobals mg) (hC : CodeHd B 633 631) (hb : B.BuiltinsAt mg 631) (n : Nat) (c0 c1 c2 c3 c4 c5 : Addr) (G : GH) (K : KV) (hP : G 631 = some (.raw (tabObj #[])))
    (kk : ∀ f c' G', f ≠ c' → G f = none → G c' = none → (∀ a, a ≠ f → a ≠ c' → a ≠ 631 → G' a = G a) → Tab G' 631 → CloAt (wl1 w B os K1) G' f sp_law_apply_at [c5] 2 → K (.ref f) G') :
    FDefT (wl1 w B os K1) n (.ref 633) sp_law.cels [c0, c1, c2, c3, c4, c5] st_law G K := by
  refine nest_make (W := wl1 w B os K1) (sp := sp_law_apply_at) (k := 2) hg hC hb hP (by kernel_rfl) rfl (fun qual clos doc pm cdv ct => by kernel_rfl) (by kernel_rfl) (fun qual clos doc pm cdv ct vs hl => ?_) ?_
  · refine o_EE (len2 hl) fun v0 v1 e93 => ?_; subst e93
    kernel_rfl
  · have e : (sp_law_apply_at.cels.filterMap fun x => (sp_law.cels.idxOf? x).bind fun j => [c0, c1, c2, c3, c4, c5][j]?) = [c5] := by kernel_rfl
    wide_open with e
    exact kk
theorem w1_facts2 (S : Seen1 w K1) {mg mb : Str → Option Value} (X : K1.In B) (hl : B.NoLimit) (hg : B.Ns mainGlobals mg) (hb : B.Ns builtinsNs mb) (hbb : ∀ x : Str, x ≠ "__name__" → mb x = bootBuiltins x)
    (hC : CodeHd B 633 631) (hb1 : B.BuiltinsAt mg 631) : Facts2 (wl1 w B os K1) 631 where
  F := w1_facts S X hl hg hb hbb
  f__law_buffer := S.at X (i := 44) rfl
  f__law_gdef := S.at X (i := 45) rfl
  f__law_lookup := S.at X (i := 46) rfl
  f__law_scene := S.at X (i := 47) rfl
  f__law_seen := S.at X (i := 48) rfl
  f__law_row := S.at X (i := 49) rfl
  f__law_rule := S.at X (i := 50) rfl
  f__law_table := S.at X (i := 51) rfl
  f__law_plain := S.at X (i := 52) rfl
  f__law_ways := S.at X (i := 53) rfl
  f__law_found := S.at X (i := 54) rfl
  f_law := S.atc X (i := 55) rfl rfl
  k__law_buffer := rfl
  k__law_gdef := rfl
  k__law_lookup := rfl
  k__law_scene := rfl
  k__law_seen := rfl
  k__law_row := rfl
  k__law_rule := rfl
  k__law_table := rfl
  k__law_plain := rfl
  k__law_ways := rfl
  k__law_found := rfl
  mk_law := w1_law hg hC hb1
end
section
open PySem PySem.W PySem.Calls PyProof.Rows
noncomputable def G1st : GH := GH.empty.set 631 (.raw (tabObj #[]))
theorem g1_cases {a : Addr} {g : GO} (h : G1st a = some g) : a = 631 ∧ g = .raw (tabObj #[]) := by
  unfold G1st at h
  by_cases h1 : a = 631
  · subst h1; wide_line with GH.set_self using h; exact ⟨rfl, rfl⟩
  · wide_line with GH.set_ne _ _ h1 using h
theorem law1_run {w : World} {s₁ : Shared} {mg mb : Str → Option Value} {p : Program} {loose : List Str} {mean : ExcName → Option Value} {K1 : Frag} (S : Seen1 w K1) (KX : K1.In s₁.heap) (hT : TabsAt [(633, 631)] s₁.heap) (T : Top p loose mean mg mb s₁.heap) (hg : s₁.gens = #[])
    {sc : Addr} {vs : List Value} {ns : List Int} (hL : s₁.heap.IsList sc vs.toArray) (hI : IntsAre vs ns) (hz : ns.length ≤ 63) :
    codeAny (model PySem.Challenge.rw_nu0235_02.row.prog w) callerA (.call (.ref 634) ⟨[.ref sc], []⟩)
      (fun r s' => r = .ok (.ret (.bool true)) ∧ (∀ b o, (ghostOf s₁.heap [(633, 631)]).get? b = some o → s'.heap.get? b = some o) ∧ s'.os = s₁.os ∧ s'.gens = #[] ∧ GrownAll [(633, 631)] s'.heap) s₁ := by
  have T' := ghost_top hT T
  have X' := ghost_K hT KX (S.chk (i := 5) rfl (by decide))
  have C' := ghost_code hT
  have L' := ghost_list hT hL
  have Ph : s₁.heap.get? 631 = some (tabObj #[]) := (hT (633, 631) (by simp)).2
  have hb : (ghostOf s₁.heap [(633, 631)]).BuiltinsAt mg 631 := by
    refine o_EEAAAAA T'.bmain fun bm ob b1 b2 b3 b4 b5 b6 => ?_
    refine (i_EEAAAAAAA bm ob b1 b2 (fun q => ?_) (fun q => ?_) b3 b4 b5 b6)
    · refine o_EEEAA T'.g fun o es ep e hd z9 => ?_
      rw [q, e] at b3; wide_open using b3; wide_line with hd using b6
    · have e := of_hideAll _ b3
      rw [q, Ph] at e; wide_open using e; wide_open using b4
  have F1 : Facts2 (wl1 w (ghostOf s₁.heap [(633, 631)]) s₁.os K1) 631 := w1_facts2 S X' T'.nolimit T'.g T'.b T'.builtins C'.1 hb
  have R : (wl1 w (ghostOf s₁.heap [(633, 631)]) s₁.os K1).R (GH.empty.un G1st) s₁ := by
    refine ⟨fun z9 => 0, fun b o e => of_hideAll _ e, fun a g e => ?_, fun a C fs e => ?_, hg, rfl⟩
    · have e : G1st a = some g := by
        cases q : G1st a with
        | none => wide_line with GH.un_left q using e
        | some g2 => rw [GH.un_right q] at e; exact e
      obtain ⟨rfl, rfl⟩ := g1_cases e
      exact ⟨hideAll_none _ (by simp), Ph⟩
    · have e : G1st a = some (.inst C fs) := by
        cases q : G1st a with
        | none => wide_line with GH.un_left q using e
        | some g2 => rw [GH.un_right q] at e; exact e
      cases (g1_cases e).2
  have hv : vs.map er = ns.map vInt := by
    clear hL L' hz
    induction hI with
    | nil => rfl
    | cons i t _ ih => simp only [List.map_cons, ih]; rfl
  have D : Disj GH.empty G1st := fun a h => rfl
  have call := law_ F1 (n := 0) (G := G1st) (K := fun v G' => v = .bool true ∧ Tab G' 631) (sc := sc) (us := vs.toArray) (ns := ns) L' (by simpa using hv) (by have := congrArg List.length hv; simp at this; refine (?_ : vs.toArray.size ≤ sizeLine); simp; unfold sizeLine; lia) (GH.set_self _ _ _) fun G' h1 => ⟨rfl, h1⟩
  refine codeAny_mono (call callerA (.ref 634) [.ref sc] (i_AA rfl (by decide) (by decide)) rfl rfl GH.empty s₁ D R) fun r s' q => ?_
  rcases r with e | (_ | _ | _ | v)
  · exact q.elim
  · exact q.elim
  · exact q.elim
  · exact q.elim
  · refine o_EAAA q fun G' D' R' e n95 => ?_; try clear q; obtain ⟨ps1, t1⟩ := n95
    have hvt : v = .bool true := er_bool e
    subst hvt
    refine (i_AAAAA rfl R'.keep R'.os R'.gens ⟨ps1, ?_⟩ trivial)
    obtain ⟨_, x⟩ := R'.at (GH.un_right t1); exact x
end
end Mine
open PySem PySem.W PySem.Calls PyProof.Rows
namespace Mine
/-! the top, run by the kernel over a tree of objects -/
noncomputable def topRunT (tb : String → Option Builtin) (p : Program) (w : World) (n₀ : Nat) (ann : Option Value) : Nat → SharedT → Thread → Option SharedT
  | 0, _, _ => none
  | n + 1, s, t => match through t with
    | true => some s
    | false => match stepOk n₀ ann t with
      | false => none
      | true => match stepT (denote tb) p w s t with
        | some (s', t') => topRunT tb p w n₀ ann n s' t'
        | none => none
theorem topRunT_of {tb : String → Option Builtin} {p : Program} {w : World} {n₀ : Nat} {ann : Option Value} : ∀ {n : Nat} {s s' : SharedT} {t : Thread}, topRunT tb p w n₀ ann n s t = some s' → topRun tb p w n₀ ann n s.abs t = some s'.abs
  | 0, _, _, _, h => by cases h
  | n + 1, s, s', t, h => by
    unfold topRunT at h
    unfold topRun
    cases he : through t with
    | true => rw [he] at h; cases h; rfl
    | false =>
      rw [he] at h
      cases hk : stepOk n₀ ann t with
      | false => rw [hk] at h; cases h
      | true =>
        rw [hk] at h
        cases hs : stepT (denote tb) p w s t with
        | none => rw [hs] at h; cases h
        | some r => obtain ⟨s₂, t₂⟩ := r; rw [hs] at h; rw [stepT_spec hs]; exact topRunT_of h
noncomputable def treeOf : List Obj → Nat → BT → BT
  | [], _, t => t
  | o :: os, n, t => treeOf os (n + 1) (t.ins n o)
noncomputable def S0 (P : Params) (os : OsState) : SharedT := ⟨treeOf (boot_heap P).objs.toList 0 .nil, 11, (boot_heap P).life, #[], boot_drawn, boot_toks, os⟩
noncomputable abbrev pw : Program := PySem.Challenge.pw_nu0235_02
theorem o1 : opening pw = plainProg pw.main.scope.names := by kernel_rfl
theorem o2 (s : Shared) : fenceModules? pw s = some s := by kernel_rfl
theorem o3 (P : Params) : ((boot_heap P).objs.size, (boot_heap P).isNs mainGlobals, (boot_heap P).nsMap mainGlobals "__annotations__") = (11, true, some (.ref 6)) := by kernel_rfl
theorem o4 (P : Params) (os : OsState) : (S0 P os).abs = ⟨boot_heap P, #[], boot_drawn, boot_toks, os⟩ := by kernel_rfl
noncomputable def keep1 : List Nat := [0, 2, 3, 4, 6, 7, 9, 10, 11, 12, 13, 14, 15, 16, 18, 19, 20, 21, 22, 23, 24, 25, 26, 27, 28, 30, 31, 32, 33, 34, 35, 36, 37, 38, 40, 41, 42, 43, 44, 45, 46, 47, 48, 49, 50, 51, 53, 55, 56, 57, 58, 60, 61, 62, 63, 64, 65, 66, 67, 68, 69, 70, 71, 72]
noncomputable def q1 : Program := view pw keep1
noncomputable def R1 (w : World) (os : OsState) : Option SharedT := topRunT treeTable pw w 11 (some (.ref 6)) 8982 (S0 w.params os) (topStub pw)
noncomputable abbrev Xt1 (s : Shared) : Bool := xlAt q1 [] s && recOk PySem.Challenge.rw_nu0235_02.row.records s
noncomputable abbrev obsT (s : Shared) (P : Params) : ObsT × List (Option Obj) := (obsK pw (fragAt need1 s.heap) P, [631].map s.heap.get?)
noncomputable abbrev goodT (_ : Params) : ObsT × List (Option Obj) := (goodK, [some (tabObj #[])])
theorem c1 (w : World) (os : OsState) : (R1 w os).map (fun s => (seen ((recsOf q1).map (·.name)) (ownsOf q1) [] { s.abs with gens := #[] }, s.abs.heap.bltView)) = some (expectedOf q1, bltViewBooted) := by kernel_rfl
theorem c2 (w : World) (os : OsState) : (R1 w os).map (fun s => ((staticsOk (importedModules pw.main.body) (boot_heap w.params) s.abs.heap && namesBound pw s.abs.heap && gensDone s.abs && laidKept (boot_heap w.params) s.abs.heap), (s.abs.heap.keysOk (looseW q1 []) ((recsOf q1).map (·.name)) ((litsOf q1).map (·.1)) ((clssOf q1 (looseW q1 [])).map (·.name)) && s.abs.heap.accountedOkI (importedModules pw.main.body) && s.abs.heap.isNs mainGlobals && s.abs.heap.isNs builtinsNs && tablesOk q1 s.abs.heap && Xt1 s.abs && s.abs.gens.size == 0))) = some (true, true) := by kernel_rfl
theorem c3 (w : World) (os : OsState) : (R1 w os).map (fun s => (pinSeenD q1 (drecsOf q1) s.abs, plainSeenE q1 (looseW q1 []) s.abs)) = some (pinGoodD (drecsOf q1), plainGoodE q1 (looseW q1 [])) := by kernel_rfl
theorem c8 (w : World) (os : OsState) : (R1 w os).map (fun s => tabsOk q1 s.abs) = some true := by kernel_rfl
theorem c4 (w : World) (os : OsState) : (R1 w os).map (fun s => (plainSeenD q1 [] s.abs, wideSeen q1 s.abs, clsSeenW q1 [] s.abs)) = some (plainGoodD q1 [], wideGood q1, clsGoodW q1 []) := by kernel_rfl
theorem c5 (w : World) (os : OsState) : (R1 w os).map (fun s => (chkL (fragAt need1 s.abs.heap)).take 1) = some [true] := by kernel_rfl
theorem c9 (w : World) (os : OsState) : (R1 w os).map (fun s => ((chkL (fragAt need1 s.abs.heap)).drop 1, [631].map s.abs.heap.get?)) = some ([true, true, true, true, true, true], [some (tabObj #[])]) := by kernel_rfl
theorem c6 (w : World) (os : OsState) : (R1 w os).map (fun s => fnL.map (fun x => fnTr (fragAt need1 s.abs.heap) AT1 globL x.f x.sp)) = some (fnL.map fun x => some x.sp.body) := by kernel_rfl
theorem c7 (w : World) (os : OsState) : (R1 w os).map (fun s => fun v : Nat → Value => fnL.map fun x => fnBind (fragAt need1 s.abs.heap) ⟨pw, w.params⟩ x.f ((List.range x.k).map v)) = some (fun v => fnL.map fun x => some (x.sp.params.zip ((List.range x.k).map v ++ x.raw))) := by kernel_rfl
end Mine
open PySem PySem.W PySem.Calls PyProof.Rows
set_option maxHeartbeats 8000000
namespace Mine
noncomputable abbrev Yf1 (s : Shared) : Params → ObsT × List (Option Obj) := obsT s
noncomputable def YP1 (w : World) (h : Heap) : Prop := ∃ K, K.In h ∧ Seen1 w K ∧ ∀ P ∈ ([631] : List Addr), h.get? P = some (tabObj #[])
theorem Y_of {w : World} {s : Shared} (e1 : obsK pw (fragAt need1 s.heap) w.params = goodK) (e2 : ([631] : List Addr).map s.heap.get? = [some (tabObj #[])]) : YP1 w s.heap :=
  ⟨fragAt need1 s.heap, fragAt_in, ⟨e1⟩, fun P hP => List.map_inj_left.mp (show ([631] : List Addr).map s.heap.get? = ([631] : List Addr).map fun _ => some (tabObj #[]) from e2) P hP⟩
theorem Y_keeps (w : World) (h h' : Heap) (Y : YP1 w h) (k : ∀ b o, h.get? b = some o → h'.get? b = some o) : YP1 w h' :=
  let ⟨K, x, S, t⟩ := Y; ⟨K, fun a o e => k a o (x a o e), S, fun P hP => k _ _ (t P hP)⟩
theorem run1 (w : World) : ∃ s₀ z, fencedOpening treeTable pw w 8982 = some s₀ ∧ topFrom treeTable pw w 8982 s₀ = some z.abs ∧ R1 w s₀.os = some z := by
  obtain ⟨s, hs, e⟩ := Option.map_eq_some_iff.mp (boot_open (N := 8982) o1 (by decide) o2 w)
  obtain ⟨h, gs, d, k, os⟩ := s
  have e1 : h = boot_heap w.params := congrArg (fun x => x.1) e
  have e2 : gs = Array.mk [] := congrArg (fun x => x.2.1) e
  have e3 : d = boot_drawn := congrArg (fun x => x.2.2.1) e
  have e4 : k = boot_toks := congrArg (fun x => x.2.2.2) e
  subst e1 e2 e3 e4
  obtain ⟨z, hz, q⟩ := Option.map_eq_some_iff.mp (c2 w os)
  refine ⟨_, z, hs, ?_, hz⟩
  have r := topRunT_of hz
  rw [o4] at r
  have z1 := congrArg (fun x => x.1) (o3 w.params)
  have z2 := congrArg (fun x => x.2.1) (o3 w.params)
  have z3 := congrArg (fun x => x.2.2) (o3 w.params)
  dsimp only at z1 z2 z3
  have l1 := congrArg Prod.fst q
  dsimp only at l1
  unfold topFrom
  dsimp only
  rw [z1, z2, z3]
  show (topRun treeTable pw w 11 (some (.ref 6)) 8982 ⟨boot_heap w.params, #[], boot_drawn, boot_toks, os⟩ (topStub pw)).bind _ = _
  rw [r]
  show (match staticsOk (importedModules pw.main.body) (boot_heap w.params) z.abs.heap && namesBound pw z.abs.heap && gensDone z.abs && laidKept (boot_heap w.params) z.abs.heap with | true => _ | false => _) = _
  rw [l1]
theorem seen_eq {q : Program} {loose mods : List Str} {Xt : Shared → Bool} {s : Shared} (b1 : seen ((recsOf q).map (·.name)) (ownsOf q) [] { s with gens := #[] } = expectedOf q) (b2 : s.heap.bltView = bltViewBooted)
    (b3 : (s.heap.keysOk (looseW q loose) ((recsOf q).map (·.name)) ((litsOf q).map (·.1)) ((clssOf q (looseW q loose)).map (·.name)) && s.heap.accountedOkI mods && s.heap.isNs mainGlobals && s.heap.isNs builtinsNs && tablesOk q s.heap && Xt s && s.gens.size == 0) = true)
    (b4 : tabsOk q s = true) (b5 : pinSeenD q (drecsOf q) s = pinGoodD (drecsOf q)) (b6 : plainSeenE q (looseW q loose) s = plainGoodE q (looseW q loose)) (b7 : plainSeenD q loose s = plainGoodD q loose) (b8 : wideSeen q s = wideGood q) (b9 : clsSeenW q loose s = clsGoodW q loose) :
    openSeen q loose mods Xt true s = openGood q loose :=
  looks_pair b1 (looks_pair b2 (looks_pair b3 (looks_pair b4 (looks_pair b5 (looks_pair b6 (looks_pair b7 (looks_pair b8 b9)))))))
theorem left_gen {p q : Program} {loose : List Str} {Xt : Shared → Bool} {α : Type} {Yf : Shared → α} {Ya : α} {N : Nat} {w : World} {s₀ z : Shared} (h1 : fencedOpening treeTable p w N = some s₀) (h2 : topFrom treeTable p w N s₀ = some z)
    (g : openSeen q loose (importedModules p.main.body) Xt true z = openGood q loose) (y : Yf z = Ya) : (openEnds treeTable p w N).map (fun s => (openSeen q loose (importedModules p.main.body) Xt true s, Yf s)) = some (openGood q loose, Ya) := by
  unfold openEnds
  rw [h1]
  show (topFrom treeTable p w N s₀).map _ = _
  rw [h2]
  exact congrArg some (looks_pair g y)
theorem map_inj {α β : Type} {f : α → β} {o : Option α} {z : α} {v : β} (c : o.map f = some v) (h : o = some z) : f z = v := by subst h; exact Option.some.inj c
theorem good1 {w : World} {os : OsState} {z : SharedT} (h3 : R1 w os = some z) : openSeen q1 [] (importedModules pw.main.body) Xt1 true z.abs = openGood q1 [] := by
  have f1 := map_inj (c1 w os) h3
  have d1 := Prod.mk.inj f1
  have f2 := map_inj (c2 w os) h3
  have d2 := Prod.mk.inj f2
  have f3 := map_inj (c3 w os) h3
  have e3 := Prod.mk.inj f3
  have d3 := map_inj (c8 w os) h3
  have f4 := map_inj (c4 w os) h3
  have d4 := Prod.mk.inj f4
  have e4 := Prod.mk.inj d4.2
  exact seen_eq (q := q1) (loose := []) (mods := importedModules pw.main.body) (Xt := Xt1) (s := z.abs) d1.1 d1.2 d2.2 d3 e3.1 e3.2 d4.1 e4.1 e4.2
theorem left1 : LeftO pw q1 [] Xt1 (fun s => some s) (fun w => (fencedOpening treeTable pw w 8982).bind (topFrom treeTable pw w 8982)) 8982 := fun w => by
  obtain ⟨s₀, z, h1, h2, h3⟩ := run1 w
  refine left_gen h1 h2 (good1 h3) ?_
  show some z.abs = (fencedOpening treeTable pw w 8982).bind (topFrom treeTable pw w 8982)
  rw [h1, Option.bind_some, h2]
theorem chk_join {l : List Bool} (h1 : l.take 1 = [true]) (h2 : l.drop 1 = [true, true, true, true, true, true]) : l = [true, true, true, true, true, true, true] := by rw [← List.take_append_drop 1 l, h1, h2]; rfl
theorem Y_end (w : World) (s : Shared) (e : some s = (fencedOpening treeTable pw w 8982).bind (topFrom treeTable pw w 8982)) : YP1 w s.heap := by
  obtain ⟨s₀, z, h1, h2, h3⟩ := run1 w
  have es : s = z.abs := by
    rw [h1] at e
    have e : some s = topFrom treeTable pw w 8982 s₀ := e
    rw [h2] at e
    exact Option.some.inj e
  subst es
  have d5 := c5 w s₀.os
  have d6 := c6 w s₀.os
  have d7 := c7 w s₀.os
  have d9 := c9 w s₀.os
  rw [h3] at d5 d6 d7 d9
  have d5 := Option.some.inj d5
  have d6 := Option.some.inj d6
  have d7 := Option.some.inj d7
  have d9 := Option.some.inj d9
  exact Y_of (looks_pair (chk_join d5 (congrArg (fun x => x.1) d9)) (looks_pair d6 d7)) (congrArg (fun x => x.2) d9)
theorem dk_some : (defOf q1 (Str.ofString "law")).isSome = true := by kernel_rfl
noncomputable def dk : DefRec × List (Str × PySem.Expr) := (defOf q1 (Str.ofString "law")).get dk_some
end Mine
set_option maxRecDepth 100000 in
set_option maxHeartbeats 8000000 in
set_option tactic.hygienic true in
theorem PySem.Challenge.cw_nu0235_02_holds : PySem.Challenge.rw_nu0235_02.Holds := by
  w_on
  refine holds_law (by kernel_rfl) fun said => ?_
  refine holds_open (q := Mine.q1) (loose := []) (Xt := Mine.Xt1) (XP := XL Mine.q1 []) (YP := Mine.YP1) (d := Mine.dk.1) (kwd := Mine.dk.2) (N := 8982) Mine.left1 Mine.Y_end Mine.Y_keeps (fun s e => xl_of s (Bool.and_eq_true_iff.mp e).1) XL.keeps
    (Option.some_get Mine.dk_some).symm (by kernel_rfl) (by kernel_rfl) (fun s e => recFacts_of (Bool.and_eq_true_iff.mp e).2) (by kernel_rfl) said (by kernel_rfl) ⟨rfl, rfl, rfl, rfl, rfl, by decide +kernel⟩ ?hw ?hc
  case hw => w_witness2
  case hc =>
    intro w s₀ s₁ mg mb G Y fa o pm cd doc dV kV ho hd hcd hD hmg hg args vals as hpre hlay hrd hwl hlo
    obtain ⟨K1, KX, S, hT8⟩ := Y
    have X := (Ground.X G).1
    have V := (Ground.X G).2
    refine Ground.open G ?_
    intro T B D TE TW
    try (refine guard_noD D (by decide +kernel) ?_; clear D)
    have hT9 : TabsAt [(633, 631)] s₁.heap := fun q hq => by
      obtain rfl := List.mem_singleton.mp hq
      exact ⟨codeHd_of_K KX (S.chk (i := 4) rfl (by decide)), hT8 631 (.head _)⟩
    have hfa := mg_of KX (Top.g T) (Mine.nm_of (S.chk (i := 6) rfl (by decide)))
    have hmg' : mg (Str.ofString "law") = some (.ref fa) := hmg
    rw [hmg'] at hfa
    cases hfa
    clear hmg hmg'
    wrow_args hpre hlay hrd hwl hlo
    refine enter_call ?_
    w_top on
    kn_posts
    clear hd hcd hD
    rename_i ns _ _ _ _ _ _ _ sc vs _ hL _ _ _ hI _ hc1 _
    refine codeAny_mono (Mine.law1_run S KX hT9 T hg hL hI (by omega)) fun r s' q => ?_
    obtain ⟨rfl, h1, h2, h3, h4⟩ := q
    refine ⟨⟨.inl ⟨_, .bool true, [], rfl, fun _ => rfl, .bool true, ?post, unshared_nil⟩, h1, h2, h3⟩, h4⟩
    case post => first | kernel_rfl | wrow_post
