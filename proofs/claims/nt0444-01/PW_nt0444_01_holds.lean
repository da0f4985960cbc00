import PyProof.Rows.All
import Wide.All
import OpenK.AllK
import Wide.FinOn
import PySem.Challenge.RW_nt0444_01
open PySem PySem.W PyProof.Rows
set_option Elab.async false
set_option maxRecDepth 100000
set_option maxHeartbeats 4000000
set_option linter.all false
set_option genSizeOf false
set_option bootstrap.genMatcherCode false
set_option compiler.extract_closed false
section
section
open PySem PySem.W PyProof.Rows
namespace Mine.Internal
theorem gk : Fast.tw17960256430627541270 (Fast.tw2368527892694137696 PySem.Challenge.rw_nt0444_01) = true:= by kernel_rfl
theorem aY : Fast.tw9446332074065402090 PySem.Challenge.rw_nt0444_01 = true:= by
 unfold Fast.tw9446332074065402090
 rw [gk]
 kernel_rfl
set_option genSizeOf false
theorem dTr {p : Prop} [Decidable p] (h : decide p = true) : p:= of_decide_eq_true h
theorem eTr {p : Prop} [Decidable p] (h : p) : decide p = true:= decide_eq_true h
theorem eFa {p : Prop} [Decidable p] (h : ¬ p) : decide p = false:= decide_eq_false h
theorem si {α : Type} {a b : α} (h : some a = some b) : a = b:= Option.some.inj h
theorem s2 {α : Type} {x : Option α} {a b : α} (k : x = some a) (h : x = some b) : a = b:= Option.some.inj (k.symm.trans h)
theorem ns {α : Type} {x : Option α} {a : α} {p : Prop} (k : x = none) (e : x = some a) : p:= absurd (k.symm.trans e) nofun
theorem oA {P0 P1 : Prop} {G : Prop} (k : P0 -> P1 -> G) (h : P0 /\ P1) : G:= k h.1 h.2
theorem oE {a0 : Sort _} {P1 : a0 -> Prop} {G : Prop} (k : ∀ x0, P1 x0 -> G) (h : ∃ x0, P1 x0) : G:= h.elim fun x0 g0 => k x0 g0
theorem oAA {P0 P1 P2 : Prop} {G : Prop} (k : P0 -> P1 -> P2 -> G) (h : P0 /\ P1 /\ P2) : G:= k h.1 h.2.1 h.2.2
theorem oAE {a1 : Sort _} {P0 : Prop} {P2 : a1 -> Prop} {G : Prop} (k : P0 -> ∀ x1, P2 x1 -> G) (h : P0 /\ ∃ x1, P2 x1) : G:= h.2.elim fun x1 g1 => k h.1 x1 g1
theorem oEA {a0 : Sort _} {P1 P2 : a0 -> Prop} {G : Prop} (k : ∀ x0, P1 x0 -> P2 x0 -> G) (h : ∃ x0, P1 x0 /\ P2 x0) : G:= h.elim fun x0 g0 => k x0 g0.1 g0.2
theorem oEE {a0 : Sort _} {a1 : Sort _} {P2 : a0 -> a1 -> Prop} {G : Prop} (k : ∀ x0, ∀ x1, P2 x0 x1 -> G) (h : ∃ x0, ∃ x1, P2 x0 x1) : G:= h.elim fun x0 g0 => g0.elim fun x1 g1 => k x0 x1 g1
theorem yW {P0 P1 P2 P3 : Prop} {G : Prop} (k : P0 -> P1 -> P2 -> P3 -> G) (h : P0 /\ P1 /\ P2 /\ P3) : G:= k h.1 h.2.1 h.2.2.1 h.2.2.2
theorem oAEA {a1 : Sort _} {P0 : Prop} {P2 P3 : a1 -> Prop} {G : Prop} (k : P0 -> ∀ x1, P2 x1 -> P3 x1 -> G) (h : P0 /\ ∃ x1, P2 x1 /\ P3 x1) : G:= h.2.elim fun x1 g1 => k h.1 x1 g1.1 g1.2
theorem qh {a1 : Sort _} {a2 : Sort _} {P0 : Prop} {P3 : a1 -> a2 -> Prop} {G : Prop} (k : P0 -> ∀ x1, ∀ x2, P3 x1 x2 -> G) (h : P0 /\ ∃ x1, ∃ x2, P3 x1 x2) : G:= h.2.elim fun x1 g1 => g1.elim fun x2 g2 => k h.1 x1 x2 g2
theorem xG {a0 : Sort _} {P1 P2 P3 : a0 -> Prop} {G : Prop} (k : ∀ x0, P1 x0 -> P2 x0 -> P3 x0 -> G) (h : ∃ x0, P1 x0 /\ P2 x0 /\ P3 x0) : G:= h.elim fun x0 g0 => k x0 g0.1 g0.2.1 g0.2.2
theorem qd {a0 : Sort _} {a1 : Sort _} {P2 P3 : a0 -> a1 -> Prop} {G : Prop} (k : ∀ x0, ∀ x1, P2 x0 x1 -> P3 x0 x1 -> G) (h : ∃ x0, ∃ x1, P2 x0 x1 /\ P3 x0 x1) : G:= h.elim fun x0 g0 => g0.elim fun x1 g1 => k x0 x1 g1.1 g1.2
theorem fA {a0 : Sort _} {a1 : Sort _} {a2 : Sort _} {P3 : a0 -> a1 -> a2 -> Prop} {G : Prop} (k : ∀ x0, ∀ x1, ∀ x2, P3 x0 x1 x2 -> G) (h : ∃ x0, ∃ x1, ∃ x2, P3 x0 x1 x2) : G:= h.elim fun x0 g0 => g0.elim fun x1 g1 => g1.elim fun x2 g2 => k x0 x1 x2 g2
theorem yE {P0 P1 P2 P3 P4 : Prop} {G : Prop} (k : P0 -> P1 -> P2 -> P3 -> P4 -> G) (h : P0 /\ P1 /\ P2 /\ P3 /\ P4) : G:= k h.1 h.2.1 h.2.2.1 h.2.2.2.1 h.2.2.2.2
theorem tC {a2 : Sort _} {P0 P1 : Prop} {P3 P4 : a2 -> Prop} {G : Prop} (k : P0 -> P1 -> ∀ x2, P3 x2 -> P4 x2 -> G) (h : P0 /\ P1 /\ ∃ x2, P3 x2 /\ P4 x2) : G:= h.2.2.elim fun x2 g2 => k h.1 h.2.1 x2 g2.1 g2.2
theorem uE {a1 : Sort _} {P0 : Prop} {P2 P3 P4 : a1 -> Prop} {G : Prop} (k : P0 -> ∀ x1, P2 x1 -> P3 x1 -> P4 x1 -> G) (h : P0 /\ ∃ x1, P2 x1 /\ P3 x1 /\ P4 x1) : G:= h.2.elim fun x1 g1 => k h.1 x1 g1.1 g1.2.1 g1.2.2
theorem jC {a1 : Sort _} {a2 : Sort _} {P0 : Prop} {P3 P4 : a1 -> a2 -> Prop} {G : Prop} (k : P0 -> ∀ x1, ∀ x2, P3 x1 x2 -> P4 x1 x2 -> G) (h : P0 /\ ∃ x1, ∃ x2, P3 x1 x2 /\ P4 x1 x2) : G:= h.2.elim fun x1 g1 => g1.elim fun x2 g2 => k h.1 x1 x2 g2.1 g2.2
theorem vO {a0 : Sort _} {P1 P2 P3 P4 : a0 -> Prop} {G : Prop} (k : ∀ x0, P1 x0 -> P2 x0 -> P3 x0 -> P4 x0 -> G) (h : ∃ x0, P1 x0 /\ P2 x0 /\ P3 x0 /\ P4 x0) : G:= h.elim fun x0 g0 => k x0 g0.1 g0.2.1 g0.2.2.1 g0.2.2.2
theorem bM {a0 : Sort _} {a3 : Sort _} {P1 P2 : a0 -> Prop} {P4 : a0 -> a3 -> Prop} {G : Prop} (k : ∀ x0, P1 x0 -> P2 x0 -> ∀ x3, P4 x0 x3 -> G) (h : ∃ x0, P1 x0 /\ P2 x0 /\ ∃ x3, P4 x0 x3) : G:= h.elim fun x0 g0 => g0.2.2.elim fun x3 g3 => k x0 g0.1 g0.2.1 x3 g3
theorem oEAEA {a0 : Sort _} {a2 : Sort _} {P1 : a0 -> Prop} {P3 P4 : a0 -> a2 -> Prop} {G : Prop} (k : ∀ x0, P1 x0 -> ∀ x2, P3 x0 x2 -> P4 x0 x2 -> G) (h : ∃ x0, P1 x0 /\ ∃ x2, P3 x0 x2 /\ P4 x0 x2) : G:= h.elim fun x0 g0 => g0.2.elim fun x2 g2 => k x0 g0.1 x2 g2.1 g2.2
theorem wQ {a0 : Sort _} {a1 : Sort _} {P2 P3 P4 : a0 -> a1 -> Prop} {G : Prop} (k : ∀ x0, ∀ x1, P2 x0 x1 -> P3 x0 x1 -> P4 x0 x1 -> G) (h : ∃ x0, ∃ x1, P2 x0 x1 /\ P3 x0 x1 /\ P4 x0 x1) : G:= h.elim fun x0 g0 => g0.elim fun x1 g1 => k x0 x1 g1.1 g1.2.1 g1.2.2
theorem pS {a0 : Sort _} {a1 : Sort _} {a2 : Sort _} {P3 P4 : a0 -> a1 -> a2 -> Prop} {G : Prop} (k : ∀ x0, ∀ x1, ∀ x2, P3 x0 x1 x2 -> P4 x0 x1 x2 -> G) (h : ∃ x0, ∃ x1, ∃ x2, P3 x0 x1 x2 /\ P4 x0 x1 x2) : G:= h.elim fun x0 g0 => g0.elim fun x1 g1 => g1.elim fun x2 g2 => k x0 x1 x2 g2.1 g2.2
theorem wG {P0 P1 P2 P3 P4 P5 : Prop} {G : Prop} (k : P0 -> P1 -> P2 -> P3 -> P4 -> P5 -> G) (h : P0 /\ P1 /\ P2 /\ P3 /\ P4 /\ P5) : G:= k h.1 h.2.1 h.2.2.1 h.2.2.2.1 h.2.2.2.2.1 h.2.2.2.2.2
theorem qM {a2 : Sort _} {P0 P1 : Prop} {P3 P4 P5 : a2 -> Prop} {G : Prop} (k : P0 -> P1 -> ∀ x2, P3 x2 -> P4 x2 -> P5 x2 -> G) (h : P0 /\ P1 /\ ∃ x2, P3 x2 /\ P4 x2 /\ P5 x2) : G:= h.2.2.elim fun x2 g2 => k h.1 h.2.1 x2 g2.1 g2.2.1 g2.2.2
theorem oEAAAA {a0 : Sort _} {P1 P2 P3 P4 P5 : a0 -> Prop} {G : Prop} (k : ∀ x0, P1 x0 -> P2 x0 -> P3 x0 -> P4 x0 -> P5 x0 -> G) (h : ∃ x0, P1 x0 /\ P2 x0 /\ P3 x0 /\ P4 x0 /\ P5 x0) : G:= h.elim fun x0 g0 => k x0 g0.1 g0.2.1 g0.2.2.1 g0.2.2.2.1 g0.2.2.2.2
theorem jk {a0 : Sort _} {a2 : Sort _} {P1 : a0 -> Prop} {P3 P4 P5 : a0 -> a2 -> Prop} {G : Prop} (k : ∀ x0, P1 x0 -> ∀ x2, P3 x0 x2 -> P4 x0 x2 -> P5 x0 x2 -> G) (h : ∃ x0, P1 x0 /\ ∃ x2, P3 x0 x2 /\ P4 x0 x2 /\ P5 x0 x2) : G:= h.elim fun x0 g0 => g0.2.elim fun x2 g2 => k x0 g0.1 x2 g2.1 g2.2.1 g2.2.2
theorem qL {a0 : Sort _} {a1 : Sort _} {P2 P3 P4 P5 : a0 -> a1 -> Prop} {G : Prop} (k : ∀ x0, ∀ x1, P2 x0 x1 -> P3 x0 x1 -> P4 x0 x1 -> P5 x0 x1 -> G) (h : ∃ x0, ∃ x1, P2 x0 x1 /\ P3 x0 x1 /\ P4 x0 x1 /\ P5 x0 x1) : G:= h.elim fun x0 g0 => g0.elim fun x1 g1 => k x0 x1 g1.1 g1.2.1 g1.2.2.1 g1.2.2.2
theorem jN {a0 : Sort _} {a1 : Sort _} {a2 : Sort _} {P3 P4 P5 : a0 -> a1 -> a2 -> Prop} {G : Prop} (k : ∀ x0, ∀ x1, ∀ x2, P3 x0 x1 x2 -> P4 x0 x1 x2 -> P5 x0 x1 x2 -> G) (h : ∃ x0, ∃ x1, ∃ x2, P3 x0 x1 x2 /\ P4 x0 x1 x2 /\ P5 x0 x1 x2) : G:= h.elim fun x0 g0 => g0.elim fun x1 g1 => g1.elim fun x2 g2 => k x0 x1 x2 g2.1 g2.2.1 g2.2.2
theorem bP {P0 P1 P2 P3 P4 P5 P6 : Prop} {G : Prop} (k : P0 -> P1 -> P2 -> P3 -> P4 -> P5 -> P6 -> G) (h : P0 /\ P1 /\ P2 /\ P3 /\ P4 /\ P5 /\ P6) : G:= k h.1 h.2.1 h.2.2.1 h.2.2.2.1 h.2.2.2.2.1 h.2.2.2.2.2.1 h.2.2.2.2.2.2
theorem bO {a3 : Sort _} {P0 P1 P2 : Prop} {P4 P5 P6 : a3 -> Prop} {G : Prop} (k : P0 -> P1 -> P2 -> ∀ x3, P4 x3 -> P5 x3 -> P6 x3 -> G) (h : P0 /\ P1 /\ P2 /\ ∃ x3, P4 x3 /\ P5 x3 /\ P6 x3) : G:= h.2.2.2.elim fun x3 g3 => k h.1 h.2.1 h.2.2.1 x3 g3.1 g3.2.1 g3.2.2
theorem qg {a1 : Sort _} {a2 : Sort _} {P0 : Prop} {P3 P4 P5 P6 : a1 -> a2 -> Prop} {G : Prop} (k : P0 -> ∀ x1, ∀ x2, P3 x1 x2 -> P4 x1 x2 -> P5 x1 x2 -> P6 x1 x2 -> G) (h : P0 /\ ∃ x1, ∃ x2, P3 x1 x2 /\ P4 x1 x2 /\ P5 x1 x2 /\ P6 x1 x2) : G:= h.2.elim fun x1 g1 => g1.elim fun x2 g2 => k h.1 x1 x2 g2.1 g2.2.1 g2.2.2.1 g2.2.2.2
theorem iQ {a1 : Sort _} {a2 : Sort _} {a3 : Sort _} {a4 : Sort _} {P0 : Prop} {P5 P6 : a1 -> a2 -> a3 -> a4 -> Prop} {G : Prop} (k : P0 -> ∀ x1, ∀ x2, ∀ x3, ∀ x4, P5 x1 x2 x3 x4 -> P6 x1 x2 x3 x4 -> G) (h : P0 /\ ∃ x1, ∃ x2, ∃ x3, ∃ x4, P5 x1 x2 x3 x4 /\ P6 x1 x2 x3 x4) : G:= h.2.elim fun x1 g1 => g1.elim fun x2 g2 => g2.elim fun x3 g3 => g3.elim fun x4 g4 => k h.1 x1 x2 x3 x4 g4.1 g4.2
theorem tN {a0 : Sort _} {P1 P2 P3 P4 P5 P6 : a0 -> Prop} {G : Prop} (k : ∀ x0, P1 x0 -> P2 x0 -> P3 x0 -> P4 x0 -> P5 x0 -> P6 x0 -> G) (h : ∃ x0, P1 x0 /\ P2 x0 /\ P3 x0 /\ P4 x0 /\ P5 x0 /\ P6 x0) : G:= h.elim fun x0 g0 => k x0 g0.1 g0.2.1 g0.2.2.1 g0.2.2.2.1 g0.2.2.2.2.1 g0.2.2.2.2.2
theorem yN {a0 : Sort _} {a1 : Sort _} {P2 P3 P4 P5 P6 : a0 -> a1 -> Prop} {G : Prop} (k : ∀ x0, ∀ x1, P2 x0 x1 -> P3 x0 x1 -> P4 x0 x1 -> P5 x0 x1 -> P6 x0 x1 -> G) (h : ∃ x0, ∃ x1, P2 x0 x1 /\ P3 x0 x1 /\ P4 x0 x1 /\ P5 x0 x1 /\ P6 x0 x1) : G:= h.elim fun x0 g0 => g0.elim fun x1 g1 => k x0 x1 g1.1 g1.2.1 g1.2.2.1 g1.2.2.2.1 g1.2.2.2.2
theorem bK {a0 : Sort _} {a1 : Sort _} {a4 : Sort _} {P2 P3 : a0 -> a1 -> Prop} {P5 P6 : a0 -> a1 -> a4 -> Prop} {G : Prop} (k : ∀ x0, ∀ x1, P2 x0 x1 -> P3 x0 x1 -> ∀ x4, P5 x0 x1 x4 -> P6 x0 x1 x4 -> G) (h : ∃ x0, ∃ x1, P2 x0 x1 /\ P3 x0 x1 /\ ∃ x4, P5 x0 x1 x4 /\ P6 x0 x1 x4) : G:= h.elim fun x0 g0 => g0.elim fun x1 g1 => g1.2.2.elim fun x4 g4 => k x0 x1 g1.1 g1.2.1 x4 g4.1 g4.2
theorem xZ {a0 : Sort _} {a1 : Sort _} {a2 : Sort _} {P3 P4 P5 P6 : a0 -> a1 -> a2 -> Prop} {G : Prop} (k : ∀ x0, ∀ x1, ∀ x2, P3 x0 x1 x2 -> P4 x0 x1 x2 -> P5 x0 x1 x2 -> P6 x0 x1 x2 -> G) (h : ∃ x0, ∃ x1, ∃ x2, P3 x0 x1 x2 /\ P4 x0 x1 x2 /\ P5 x0 x1 x2 /\ P6 x0 x1 x2) : G:= h.elim fun x0 g0 => g0.elim fun x1 g1 => g1.elim fun x2 g2 => k x0 x1 x2 g2.1 g2.2.1 g2.2.2.1 g2.2.2.2
theorem vS {a0 : Sort _} {a1 : Sort _} {a2 : Sort _} {a3 : Sort _} {P4 P5 P6 : a0 -> a1 -> a2 -> a3 -> Prop} {G : Prop} (k : ∀ x0, ∀ x1, ∀ x2, ∀ x3, P4 x0 x1 x2 x3 -> P5 x0 x1 x2 x3 -> P6 x0 x1 x2 x3 -> G) (h : ∃ x0, ∃ x1, ∃ x2, ∃ x3, P4 x0 x1 x2 x3 /\ P5 x0 x1 x2 x3 /\ P6 x0 x1 x2 x3) : G:= h.elim fun x0 g0 => g0.elim fun x1 g1 => g1.elim fun x2 g2 => g2.elim fun x3 g3 => k x0 x1 x2 x3 g3.1 g3.2.1 g3.2.2
theorem pR {a0 : Sort _} {a1 : Sort _} {a2 : Sort _} {a3 : Sort _} {a4 : Sort _} {P5 P6 : a0 -> a1 -> a2 -> a3 -> a4 -> Prop} {G : Prop} (k : ∀ x0, ∀ x1, ∀ x2, ∀ x3, ∀ x4, P5 x0 x1 x2 x3 x4 -> P6 x0 x1 x2 x3 x4 -> G) (h : ∃ x0, ∃ x1, ∃ x2, ∃ x3, ∃ x4, P5 x0 x1 x2 x3 x4 /\ P6 x0 x1 x2 x3 x4) : G:= h.elim fun x0 g0 => g0.elim fun x1 g1 => g1.elim fun x2 g2 => g2.elim fun x3 g3 => g3.elim fun x4 g4 => k x0 x1 x2 x3 x4 g4.1 g4.2
theorem xY {a0 : Sort _} {a1 : Sort _} {a2 : Sort _} {a3 : Sort _} {a4 : Sort _} {a5 : Sort _} {P6 : a0 -> a1 -> a2 -> a3 -> a4 -> a5 -> Prop} {G : Prop} (k : ∀ x0, ∀ x1, ∀ x2, ∀ x3, ∀ x4, ∀ x5, P6 x0 x1 x2 x3 x4 x5 -> G) (h : ∃ x0, ∃ x1, ∃ x2, ∃ x3, ∃ x4, ∃ x5, P6 x0 x1 x2 x3 x4 x5) : G:= h.elim fun x0 g0 => g0.elim fun x1 g1 => g1.elim fun x2 g2 => g2.elim fun x3 g3 => g3.elim fun x4 g4 => g4.elim fun x5 g5 => k x0 x1 x2 x3 x4 x5 g5
theorem wF {P0 P1 P2 P3 P4 P5 P6 P7 : Prop} {G : Prop} (k : P0 -> P1 -> P2 -> P3 -> P4 -> P5 -> P6 -> P7 -> G) (h : P0 /\ P1 /\ P2 /\ P3 /\ P4 /\ P5 /\ P6 /\ P7) : G:= k h.1 h.2.1 h.2.2.1 h.2.2.2.1 h.2.2.2.2.1 h.2.2.2.2.2.1 h.2.2.2.2.2.2.1 h.2.2.2.2.2.2.2
theorem tD {P0 P1 P2 P3 P4 P5 P6 P7 P8 : Prop} {G : Prop} (k : P0 -> P1 -> P2 -> P3 -> P4 -> P5 -> P6 -> P7 -> P8 -> G) (h : P0 /\ P1 /\ P2 /\ P3 /\ P4 /\ P5 /\ P6 /\ P7 /\ P8) : G:= k h.1 h.2.1 h.2.2.1 h.2.2.2.1 h.2.2.2.2.1 h.2.2.2.2.2.1 h.2.2.2.2.2.2.1 h.2.2.2.2.2.2.2.1 h.2.2.2.2.2.2.2.2
theorem dO {P0 P1 P2 P3 P4 P5 P6 P7 P8 P9 : Prop} {G : Prop} (k : P0 -> P1 -> P2 -> P3 -> P4 -> P5 -> P6 -> P7 -> P8 -> P9 -> G) (h : P0 /\ P1 /\ P2 /\ P3 /\ P4 /\ P5 /\ P6 /\ P7 /\ P8 /\ P9) : G:= k h.1 h.2.1 h.2.2.1 h.2.2.2.1 h.2.2.2.2.1 h.2.2.2.2.2.1 h.2.2.2.2.2.2.1 h.2.2.2.2.2.2.2.1 h.2.2.2.2.2.2.2.2.1 h.2.2.2.2.2.2.2.2.2
theorem fB {P0 P1 P2 P3 P4 P5 P6 P7 P8 P9 P10 : Prop} {G : Prop} (k : P0 -> P1 -> P2 -> P3 -> P4 -> P5 -> P6 -> P7 -> P8 -> P9 -> P10 -> G) (h : P0 /\ P1 /\ P2 /\ P3 /\ P4 /\ P5 /\ P6 /\ P7 /\ P8 /\ P9 /\ P10) : G:= k h.1 h.2.1 h.2.2.1 h.2.2.2.1 h.2.2.2.2.1 h.2.2.2.2.2.1 h.2.2.2.2.2.2.1 h.2.2.2.2.2.2.2.1 h.2.2.2.2.2.2.2.2.1 h.2.2.2.2.2.2.2.2.2.1 h.2.2.2.2.2.2.2.2.2.2
theorem fl {a G : Prop} (h : a) (k : a -> G) : G:= k h
theorem oO {a b G : Prop} (k : a -> G) (l : b -> G) (h : a \/ b) : G:= Or.elim h k l
theorem cP {a b : Nat} (h : a < b) : a <= b:= Nat.le_of_lt h
theorem yH {a b c : Nat} (h : a < b) (k : b <= c) : a < c:= Nat.lt_of_lt_of_le h k
theorem tu {a b c : Nat} (h : a <= b) (k : b < c) : a < c:= Nat.lt_of_le_of_lt h k
theorem jZ {a b c : Nat} (h : a <= b) (k : b <= c) : a <= c:= Nat.le_trans h k
theorem yB {a b c : Nat} (h : a <= b) (e : Nat.ble b c = true) : a <= c:= Nat.le_trans h (Nat.le_of_ble_eq_true e)
theorem oF {a b c : Nat} (h : a < b) (e : Nat.ble b c = true) : a < c:= Nat.lt_of_lt_of_le h (Nat.le_of_ble_eq_true e)
theorem jH {a b c : Nat} (h : a <= b) (e : Nat.ble (b + 1) c = true) : a < c:= Nat.lt_of_le_of_lt h (Nat.le_of_ble_eq_true e)
theorem cr {a b c : Nat} (h : a < b) (e : Nat.ble b (c + 1) = true) : a <= c:= Nat.le_of_lt_succ (Nat.lt_of_lt_of_le h (Nat.le_of_ble_eq_true e))
theorem cO {a b c : Nat} (h : b <= c) (e : Nat.ble a b = true) : a <= c:= Nat.le_trans (Nat.le_of_ble_eq_true e) h
theorem yY {a b c : Nat} (h : b <= c) (e : Nat.ble (a + 1) b = true) : a < c:= Nat.le_trans (Nat.le_of_ble_eq_true e) h
theorem ar11 {a b c : Nat} (h : b < c) (e : Nat.ble a (b + 1) = true) : a <= c:= Nat.le_trans (Nat.le_of_ble_eq_true e) h
theorem ar12 {a b c : Nat} (h : b < c) (e : Nat.ble a b = true) : a < c:= Nat.le_trans (Nat.succ_le_succ (Nat.le_of_ble_eq_true e)) h
theorem jO {a b c : Nat} (h : a = b) (k : b <= c) : a <= c:= h ▸ k
theorem eX {a b c : Nat} (h : b = c) (k : a < b) : a < c:= h ▸ k
theorem ar17 {a b c : Nat} (h : c = b) (k : a <= b) : a <= c:= h ▸ k
theorem uN {a b c : Nat} (h : c = b) (k : a < b) : a < c:= h ▸ k
theorem ar19 {a b c : Nat} (h : b = a) (k : b <= c) : a <= c:= h ▸ k
theorem ml {a b c : Nat} (h : a = b) (e : Nat.ble b c = true) : a <= c:= h ▸ Nat.le_of_ble_eq_true e
theorem ar22 {a b c : Nat} (h : a = b) (e : Nat.ble (b + 1) c = true) : a < c:= h ▸ Nat.le_of_ble_eq_true e
theorem cq {a b c : Nat} (h : c = b) (e : Nat.ble a b = true) : a <= c:= h ▸ Nat.le_of_ble_eq_true e
theorem tm {a b c : Nat} (h : c = b) (e : Nat.ble (a + 1) b = true) : a < c:= h ▸ Nat.le_of_ble_eq_true e
theorem uM {a b : Nat} (h : ¬ a < b) : b <= a:= Nat.le_of_not_lt h
theorem mj {a b : Nat} (h : a < b) : ¬ a = b:= Nat.ne_of_lt h
theorem qX {a b : Nat} (h : b < a) : ¬ a = b:= Nat.ne_of_gt h
theorem mh {a b : Nat} (h : b <= a) : ¬ a < b:= Nat.not_lt.mpr h
theorem ar31 {a : Nat} (h : ¬ a = 0) : 0 < a:= Nat.pos_of_ne_zero h
theorem ar32 {a b : Nat} (h : a <= b) (k : ¬ a = b) : a < b:= Nat.lt_of_le_of_ne h k
theorem sG {a b : Nat} (h : ¬ b = a) : ¬ a = b:= fun e => h e.symm
theorem tj {a b : Nat} (h : a <= b) (k : b <= a) : a = b:= Nat.le_antisymm h k
theorem ar35 {p : Prop} {a b : Nat} (h : a < b) (k : b <= a) : p:= absurd k (Nat.not_le.mpr h)
theorem gE {p : Prop} {a b : Nat} (h : a < b) (k : a = b) : p:= absurd k (Nat.ne_of_lt h)
theorem th {p : Prop} {a b : Nat} (h : a < b) (k : b = a) : p:= absurd k (Nat.ne_of_gt h)
theorem gD {p : Prop} {a : Nat} (h : a < 0) : p:= absurd h (Nat.not_lt_zero a)
theorem ar39 {p q : Prop} (h : q) (k : ¬ q) : p:= absurd h k
theorem vM {a b : Nat} : a <= a + b:= Nat.le_add_right a b
theorem gC {a b : Nat} : a <= b + a:= Nat.le_add_left a b
theorem eW {a b c : Nat} (h : a <= b) : a - c <= b:= Nat.le_trans (Nat.sub_le a c) h
theorem tg {a b c : Nat} (h : a < b) : a - c < b:= Nat.lt_of_le_of_lt (Nat.sub_le a c) h
theorem tf {a b : Nat} (h : a <= b) : a <= b + 1:= Nat.le_succ_of_le h
theorem mf {a b : Nat} (h : a <= b) : a < b + 1:= Nat.lt_succ_of_le h
theorem me {a b : Nat} (h : a < b + 1) : a <= b:= Nat.le_of_lt_succ h
theorem md {a b : Nat} (h : a < b + 1) (k : ¬ a = b) : a < b:= Nat.lt_of_le_of_ne (Nat.le_of_lt_succ h) k
theorem ar49 {a b : Nat} (h : a < b) : a <= b - 1:= Nat.le_sub_one_of_lt h
theorem ma {a : Nat} (h : 0 < a) : a - 1 < a:= Nat.sub_lt h Nat.one_pos
theorem ar52 {a b c : Nat} (h : a < b) : a + c < b + c:= Nat.add_lt_add_right h c
theorem cN {a b c : Nat} (h : a < b) : c + a < c + b:= Nat.add_lt_add_left h c
theorem cM {a b c : Nat} (h : a <= b) : a + c <= b + c:= Nat.add_le_add_right h c
theorem ar56 {a b c d : Nat} (h : a <= b) (k : c <= d) : a + c <= b + d:= Nat.add_le_add h k
theorem ar61 {a b c : Nat} (h : a < c) : a / b < c:= Nat.lt_of_le_of_lt (Nat.div_le_self a b) h
theorem ar63 {a b : Nat} (h : b <= a) : b + (a - b) = a:= Nat.add_sub_of_le h
theorem ar64 {a b : Nat} (h : b <= a) : a = b + (a - b):= (Nat.add_sub_of_le h).symm
theorem ar65 {a b : Nat} (h : b <= a) : a - b + b = a:= Nat.sub_add_cancel h
theorem ar66 {a b c : Nat} (h : b <= a) (k : a < b + c) : a - b < c:= Nat.sub_lt_left_of_lt_add h k
theorem ar67 {a b c : Nat} (h : c + b <= a) : b <= a - c:= Nat.le_sub_of_add_le' h
theorem ar70 {a b : Nat} : min a b <= a:= Nat.min_le_left a b
theorem ar72 {a b c : Nat} (h : b <= c) : min a b <= c:= Nat.le_trans (Nat.min_le_right a b) h
theorem ar74 {a b : Nat} (h : a <= b) : a - b = 0:= Nat.sub_eq_zero_of_le h
theorem ar75 {a b : Nat} (h : a < b) : b - a = b - (a + 1) + 1:= (Nat.sub_add_cancel (Nat.sub_pos_of_lt h)).symm
theorem ar76 {a n : Nat} (h : a < n) : n - 1 - (n - 1 - a) = a:= Nat.sub_sub_self (Nat.le_sub_one_of_lt h)
theorem ar77 {a n : Nat} (h : a < n) : n - 1 - a + 1 <= n:= Nat.succ_le_of_lt (Nat.lt_of_le_of_lt (Nat.sub_le _ _) (Nat.sub_lt (Nat.zero_lt_of_lt h) Nat.one_pos))
theorem zK {n : Nat} : (0 : Int) <= (n : Int):= Int.natCast_nonneg n
theorem uK {n : Nat} {z : Int} (e : decide (z < 0) = true) : z < (n : Int):= Int.lt_of_lt_of_le (dTr e) (Int.natCast_nonneg n)
theorem sy {n : Nat} {z : Int} (e : decide (z <= 0) = true) : z <= (n : Int):= Int.le_trans (dTr e) (Int.natCast_nonneg n)
theorem vL {a b : Nat} (h : a < b) : (a : Int) < (b : Int):= Int.ofNat_lt.mpr h
theorem ar82 {a b : Nat} (h : a <= b) : (a : Int) <= (b : Int):= Int.ofNat_le.mpr h
theorem cp {a b : Nat} (h : (a : Int) < (b : Int)) : a < b:= Int.ofNat_lt.mp h
theorem ar84 {a b : Nat} (h : (a : Int) <= (b : Int)) : a <= b:= Int.ofNat_le.mp h
theorem wO {a b : Nat} (h : (a : Int) = (b : Int)) : a = b:= Int.ofNat.inj h
theorem ar86 {a b : Nat} (h : a = b) : (a : Int) = (b : Int):= h ▸ rfl
theorem cj {a b : Nat} (h : ¬ a = b) : ¬ (a : Int) = (b : Int):= fun e => h (Int.ofNat.inj e)
theorem tJ {a b : Nat} (h : ¬ (a : Int) = (b : Int)) : ¬ a = b:= fun e => h (e ▸ rfl)
theorem qW {a b : Nat} (h : ¬ (a : Int) ≠ (b : Int)) : a = b:= Int.ofNat.inj (Decidable.of_not_not h)
theorem xJ {a k : Nat} {z : Int} (h : a < k) (e : decide ((k : Int) <= z) = true) : (a : Int) < z:= Int.lt_of_lt_of_le (Int.ofNat_lt.mpr h) (dTr e)
theorem yP {a k : Nat} {z : Int} (h : a <= k) (e : decide ((k : Int) < z) = true) : (a : Int) < z:= Int.lt_of_le_of_lt (Int.ofNat_le.mpr h) (dTr e)
theorem sx {a k : Nat} {z : Int} (h : a <= k) (e : decide ((k : Int) <= z) = true) : (a : Int) <= z:= Int.le_trans (Int.ofNat_le.mpr h) (dTr e)
theorem lR {a k : Nat} {z : Int} (h : a < k) (e : decide ((k : Int) <= z + 1) = true) : (a : Int) <= z:= Int.le_of_lt_add_one (Int.lt_of_lt_of_le (Int.ofNat_lt.mpr h) (dTr e))
theorem gB {a b : Nat} (h : b <= a) : (a : Int) - (b : Int) = ((a - b : Nat) : Int):= (Int.ofNat_sub h).symm
theorem ar95 {a : Nat} (h : 1 <= a) : (a : Int) - 1 = ((a - 1 : Nat) : Int):= (Int.ofNat_sub h).symm
theorem sw {a b : Int} (h : a < b) : a <= b:= Int.le_of_lt h
theorem as00 {a b c : Int} (h : a <= b) (k : b < c) : a < c:= Int.lt_of_le_of_lt h k
theorem as01 {a b c : Int} (h : a <= b) (k : b <= c) : a <= c:= Int.le_trans h k
theorem sr {a b c : Int} (h : b <= c) (e : decide (a < b) = true) : a < c:= Int.lt_of_lt_of_le (dTr e) h
theorem as06 {a b c : Int} (h : b <= c) (e : decide (a <= b) = true) : a <= c:= Int.le_trans (dTr e) h
theorem as07 {a b c : Int} (h : b < c) (e : decide (a <= b) = true) : a < c:= Int.lt_of_le_of_lt (dTr e) h
theorem ch {a b : Int} (h : ¬ a < b) : b <= a:= Int.not_lt.mp h
theorem as09 {a b : Int} (h : ¬ a <= b) : b < a:= Int.not_le.mp h
theorem as11 {a b : Int} (h : b < a) : ¬ a = b:= (Int.ne_of_lt h).symm
theorem sm {p : Prop} {a b : Int} (h : a < b) (k : b <= a) : p:= absurd k (Int.not_le.mpr h)
theorem as13 {a b c : Int} (h : a = b) (k : b < c) : a < c:= h ▸ k
theorem cL {a b : Int} (h : b <= a) : ¬ a < b:= Int.not_lt.mpr h
theorem as23 {a b c : Int} (h : c = b) (e : decide (a <= b) = true) : a <= c:= h ▸ dTr e
theorem as24 {a b c : Int} (h : b = a) (k : b < c) : a < c:= h ▸ k
theorem as31 {p q : Prop} (h : p) (k : q) : p /\ q:= ⟨h, k⟩
theorem as35 {a b : Nat} (h : a = b + 1) : b < a:= h ▸ Nat.lt_succ_self b
theorem as40 {a b c : Nat} (h : a < b) (k : b < c) : a < c:= Nat.lt_trans h k
theorem bdn {a : Int} {k : Nat} (h : a.natAbs < k) : -(k : Int) < a /\ a < (k : Int):= match a, h with
 | .ofNat n, h => ⟨Int.lt_of_lt_of_le (Int.neg_neg_of_pos (Int.ofNat_lt.mpr (Nat.zero_lt_of_lt h))) (Int.natCast_nonneg n), Int.ofNat_lt.mpr h⟩
 | .negSucc n, h => ⟨Int.neg_lt_neg (Int.ofNat_lt.mpr h), Int.lt_of_lt_of_le (Int.negSucc_lt_zero n) (Int.natCast_nonneg k)⟩
theorem lx {a : Int} (h : a.natAbs < 2 ^ 60) : -2 ^ 63 <= a /\ a < 2 ^ 63:= ⟨Int.le_trans (by decide) (Int.le_of_lt (bdn h).1), Int.lt_trans (bdn h).2 (by decide)⟩
theorem bdT {a b : Int} (h : a.natAbs < 2 ^ 60) (k : b.natAbs < 2 ^ 60) : -2 ^ 63 <= ((b - a).toNat : Int) /\ ((b - a).toNat : Int) < 2 ^ 63 :=
 ⟨Int.le_trans (by decide) (Int.natCast_nonneg _), by
  have e : b - a < ((2 ^ 63 : Nat) : Int):= Int.lt_of_lt_of_le (Int.add_lt_add (bdn k).2 (Int.neg_lt_neg (bdn h).1)) (by decide)
  exact Int.ofNat_lt.mpr ((Int.toNat_lt' (by decide)).mpr e)⟩
theorem bdA {a c : Int} (h : a.natAbs < 2 ^ 60) (e : c = 0) : -2 ^ 63 <= a + c /\ a + c < 2 ^ 63:= by rw [e, Int.add_zero]; exact lx h
theorem tn1 {l : Int} {m : Nat} (h : l.toNat = m + 1) : m = (l - 1).toNat:= match l, h with
 | .ofNat (n + 1), h => (Nat.succ.inj h).symm.trans (congrArg Int.toNat (Int.add_sub_cancel (n : Int) 1)).symm
theorem sub2 {a b : Nat} (h : b < a) : (a : Int) - 1 - (b : Int) = ((a - 1 - b : Nat) : Int):= by
 rw [Int.ofNat_sub (Nat.le_sub_one_of_lt h), Int.ofNat_sub (Nat.zero_lt_of_lt h)]; rfl
theorem men0 {g : Nat} (m1 : 1 <= g % 8) (m2 : g % 8 <= 6) (m4 : g < 15) (m5 : ¬ g = 0) : (0 < (g : Int) /\ (g : Int) < 15) /\ 1 <= (g : Int) % 8 /\ (g : Int) % 8 <= 6 :=
 ⟨⟨Int.ofNat_lt.mpr (Nat.pos_of_ne_zero m5), Int.ofNat_lt.mpr m4⟩, Int.ofNat_le.mpr m1, Int.ofNat_le.mpr m2⟩
theorem orand {o x a : Nat} (h : o / 2 = x / 2 + a / 2) (h1 : o % 2 = x % 2 + a % 2) : o = x + a:= by
 rw [<- Nat.div_add_mod o 2, h, h1, Nat.mul_add, Nat.add_add_add_comm, Nat.div_add_mod, Nat.div_add_mod]
theorem edge {a f j : Nat} (h : f <= a) (k : j < f) : a - f + j < a:= by
 have:= Nat.add_lt_add_left k (a - f); rwa [Nat.sub_add_cancel h] at this
theorem half {f : Nat} (h : 2 <= f) : f / 2 < f:= Nat.div_lt_self (Nat.lt_of_lt_of_le Nat.two_pos h) (Nat.lt_succ_self 1)
theorem mn62 {f n c : Nat} (h8 : f <= 8) (h : f <= n) (e : c = n) : min f c + (c - (n - f)) <= 16:= by
 rw [e, Nat.sub_sub_self h]; exact Nat.add_le_add (Nat.le_trans (Nat.min_le_left _ _) h8) h8
theorem mn63 {f n c : Nat} (h8 : f <= 8) (h : f <= n) (e : c = n) : min f c + (min n c - (n - f)) <= 16:= by
 rw [e, Nat.min_self, Nat.sub_sub_self h]; exact Nat.add_le_add (Nat.le_trans (Nat.min_le_left _ _) h8) h8
theorem cadd {a b k : Nat} (h : b <= a) : (a : Int) - (b : Int) + (k : Int) = ((a - b + k : Nat) : Int):= by rw [<- Int.ofNat_sub h]; rfl
theorem cmul {k a b : Nat} (h : b <= a) : (k : Int) * ((a : Int) - (b : Int)) = ((k * (a - b) : Nat) : Int):= by rw [<- Int.ofNat_sub h]; rfl
theorem kpw {d m : Nat} (h : d <= 1) : (1 - (d : Int)) * 8 + (m : Int) = (((1 - d) * 8 + m : Nat) : Int):= by
 rw [show (1 : Int) - (d : Int) = ((1 - d : Nat) : Int) from (Int.ofNat_sub h).symm]; rfl
theorem ep8 {e : Int} (h : e / 4 = 2) : (e - 8).toNat < 4 /\ e = ((8 + (e - 8).toNat : Nat) : Int):= by
 have h1:= Int.mul_ediv_add_emod e 4
 rw [h] at h1
 have h2:= Int.emod_nonneg e (show (4 : Int) ≠ 0 by decide)
 have h3:= Int.emod_lt_of_pos e (show (0 : Int) < 4 by decide)
 refine oE (fun n hn => ?_) (Int.eq_ofNat_of_zero_le h2)
 rw [hn] at h1 h3
 have : e - 8 = (n : Int):= by rw [<- h1, show (4 : Int) * 2 = 8 from rfl, Int.add_comm, Int.add_sub_cancel]
 rw [this]
 exact ⟨Int.ofNat_lt.mp h3, h1.symm⟩
theorem tnat1 {r : Nat} (h : 1 <= r) : (((r - 1 : Nat) : Int) - -1).toNat = r:= by
 rw [Int.ofNat_sub h]; exact congrArg Int.toNat (Int.sub_add_cancel (r : Int) 1)
theorem at01 {a k : Int} {n : Nat} (e : decide (k = n /\ 0 < k) = true) : (a % k).toNat < n:= by
 have h:= dTr e
 refine Int.ofNat_lt.mp ?_
 rw [Int.toNat_of_nonneg (Int.emod_nonneg _ (Int.ne_of_gt h.2)), <- h.1]; exact Int.emod_lt_of_pos _ h.2
theorem at02 {a k : Int} (e : decide (0 < k) = true) : a % k = ((a % k).toNat : Int):= (Int.toNat_of_nonneg (Int.emod_nonneg _ (Int.ne_of_gt (dTr e)))).symm
theorem at03 {a k c z : Int} (e : decide (0 < k /\ z + c <= 0) = true) : z <= a % k - c :=
 Int.le_sub_right_of_add_le (Int.le_trans (dTr e).2 (Int.emod_nonneg _ (Int.ne_of_gt (dTr e).1)))
theorem at04 {a k c z : Int} (e : decide (0 < k /\ k <= z + c + 1) = true) : a % k - c <= z :=
 Int.sub_right_le_of_le_add (Int.le_of_lt_add_one (Int.lt_of_lt_of_le (Int.emod_lt_of_pos _ (dTr e).1) (dTr e).2))
theorem at05 {g a m n : Nat} {x y : Int} (h : (g : Int) = (a : Int) * x + y) (e : decide (x = m /\ y = n) = true) : g = a * m + n:= by
 have z:= dTr e; rw [z.1, z.2] at h; exact Int.ofNat.inj h
theorem at06 {g a m n : Nat} {x y : Int} (h : ¬ (g : Int) = (a : Int) * x + y) (e : decide (x = m /\ y = n) = true) : ¬ g = a * m + n:= fun q => by
 have z:= dTr e; rw [z.1, z.2, q] at h; exact h rfl
theorem at07 {g a m n : Nat} {x y : Int} (h : ¬ (g : Int) ≠ (a : Int) * x + y) (e : decide (x = m /\ y = n) = true) : g = a * m + n:= at05 (Decidable.of_not_not h) e
theorem at08 {z : Int} {c f g : Nat} (h : z = ((c + f : Nat) : Int)) (k : z = ((c + g : Nat) : Int)) : g = f:= Nat.add_left_cancel (Int.ofNat.inj (k.symm.trans h))
theorem at09 {p : Prop} {z : Int} {n : Nat} (h : z < 0) (k : z = (n : Int)) : p:= absurd (Int.natCast_nonneg n) (Int.not_le.mpr (k ▸ h))
theorem at10 {a : Nat} : 2 * a / 2 = a:= Nat.mul_div_cancel_left a Nat.two_pos
theorem at12 {a : Nat} : a % 2 = 0 \/ a % 2 = 1:= Nat.mod_two_eq_zero_or_one a
theorem at13 {a : Nat} (h : a < 4) : a / 2 = 0 \/ a / 2 = 1:= (by decide : ∀ a < 4, a / 2 = 0 \/ a / 2 = 1) a h
theorem at14 {a : Nat} (h : a < 4) : a = 0 \/ a = 1 \/ a = 2 \/ a = 3:= (by decide : ∀ a < 4, a = 0 \/ a = 1 \/ a = 2 \/ a = 3) a h
theorem at15 {a c : Nat} (h : a <= c) : min a c + (c - a) = c:= by rw [Nat.min_eq_left h, Nat.add_sub_of_le h]
theorem at16 {a : Nat} (h : ¬ a = 0) : a / 2 < a:= Nat.div_lt_self (Nat.pos_of_ne_zero h) (Nat.lt_succ_self 1)
theorem at17 {a : Nat} (h : 2 <= a) : a / 2 < a:= Nat.div_lt_self (Nat.lt_of_lt_of_le Nat.two_pos h) (Nat.lt_succ_self 1)
theorem gA {s c n k : Nat} {z : Int} (h : s < c) (e : c = n) (l : n <= k) (d : decide ((k : Int) <= z) = true) : (s : Int) < z:= Int.lt_of_lt_of_le (Int.ofNat_lt.mpr (Nat.lt_of_lt_of_le h (e ▸ l))) (dTr d)
theorem sk {s c n k : Nat} {z : Int} (h : s < c) (e : c = n) (l : n <= k) (d : decide ((k : Int) <= z) = true) : (s : Int) <= z:= Int.le_of_lt (gA h e l d)
theorem at20 {s n : Nat} {k : Nat} {z : Int} (h : s < n + 1) (l : n <= k) (d : decide ((k : Int) <= z) = true) : (s : Int) <= z:= Int.le_trans (Int.ofNat_le.mpr (Nat.le_trans (Nat.le_of_lt_succ h) l)) (dTr d)
theorem at23 {z : Int} {n : Nat} (h : z <= (n : Int)) : z.toNat <= n:= Int.toNat_le.mpr h
theorem lz {y : Int} {k n : Nat} (h : y <= (k : Int)) (e : Nat.ble (k + 1) n = true) : y.toNat < n:= Nat.lt_of_le_of_lt (Int.toNat_le.mpr h) (Nat.le_of_ble_eq_true e)
theorem at31 {w : Nat} (h : w < 2) : (w : Int) = 1 ↔ w = 1:= ⟨fun e => Int.ofNat.inj e, fun e => e ▸ rfl⟩
theorem at32 {w : Nat} : 1 - w < 2:= Nat.lt_of_le_of_lt (Nat.sub_le 1 w) (Nat.lt_succ_self 1)
theorem at33 {w : Nat} {z : Int} (d : decide ((1 : Int) < z) = true) : ((1 - w : Nat) : Int) < z:= Int.lt_of_le_of_lt (Int.ofNat_le.mpr (Nat.sub_le 1 w)) (dTr d)
theorem at34 {a k : Nat} {z : Int} (d : decide (0 < k /\ (k : Int) <= z) = true) : ((a % k : Nat) : Int) < z:= Int.lt_of_lt_of_le (Int.ofNat_lt.mpr (Nat.mod_lt a (dTr d).1)) (dTr d).2
theorem at35 {a k n : Nat} (d : decide (0 < k /\ k <= n) = true) : a % k < n:= Nat.lt_of_lt_of_le (Nat.mod_lt a (dTr d).1) (dTr d).2
theorem at36 {d e k : Nat} (h : d <= k) (l : e <= k) : max d e <= k:= Nat.max_le.mpr ⟨h, l⟩
theorem at37 {a l : Nat} (h : a ≥ l) (k : a - l = 0) : a = l:= Nat.le_antisymm (Nat.sub_eq_zero_iff_le.mp k) h
theorem at38 {w : Nat} (h : w < 2) : (9 : Int) - 8 * (w : Int) = ((9 - 8 * w : Nat) : Int):= (by decide : ∀ w : Nat, w < 2 -> (9 : Int) - 8 * (w : Int) = ((9 - 8 * w : Nat) : Int)) w h
inductive V where
 | none
 | bool (b : Bool)
 | int (i : Int)
 | ref (n : Nat)
inductive O where
 | lst (xs : List V)
 | fro (xs : List V)
 | tup (xs : List V)
 | rng (lo hi st : Int)
 | ins (c : Nat) (fs : List (Nat × V))
noncomputable abbrev Hp:= List O
inductive R (α : Type) where
 | ok (a : α) (h : Hp)
 | exc (h : Hp)
 | fail
noncomputable abbrev Mo (α : Type):= Hp -> R α
noncomputable def ret {α : Type} (a : α) : Mo α:= fun h => .ok a h
noncomputable def bad {α : Type} : Mo α:= fun _ => .fail
noncomputable def bnd {α β : Type} (m : Mo α) (f : α -> Mo β) : Mo β:= fun h =>
 match m h with
 | .ok a h' => f a h'
 | .exc h' => .exc h'
 | .fail => .fail
noncomputable abbrev Loc:= List (Nat × V)
noncomputable def get (x : Nat) : Loc -> Option V
 | [] => .none
 | (y, v) :: r => bif Nat.beq y x then some v else get x r
noncomputable def put (x : Nat) (v : V) : Loc -> Loc
 | [] => [(x, v)]
 | (y, w) :: r => bif Nat.beq y x then (x, v) :: r else (y, w) :: put x v r
noncomputable def xI {α : Type} (x : Nat) : List (Nat × α) -> Option α
 | [] => .none
 | (y, v) :: r => bif Nat.beq y x then some v else xI x r
inductive BOp where
 | add | sub | mul | fdiv | mod | shl | shr | and | or | xor
inductive COp where
 | eq | ne | lt | le | gt | ge | isIn | notIn | is
inductive Blt where
 | len | list | range | sum | max
inductive Mth where
 | append | count | index
set_option genInjectivity false in
inductive ME where
 | nil
 | cons (a r : ME)
 | cc (o : COp) (e r : ME)
 | none
 | int (i : Int)
 | bool (b : Bool)
 | loc (x : Nat)
 | glb (x : Nat)
 | bin (o : BOp) (a b : ME)
 | neg (a : ME)
 | inv (a : ME)
 | not (a : ME)
 | and (l : ME)
 | or (l : ME)
 | ite (c a b : ME)
 | cmp (a l : ME)
 | lst (l : ME)
 | tup (l : ME)
 | comp (e : ME) (x : Nat) (it : ME)
 | compIf (e : ME) (x : Nat) (it c : ME)
 | call (f : Nat) (l : ME)
 | new (c : Nat) (l : ME)
 | blt (k : Blt) (l : ME)
 | meth (k : Mth) (o l : ME)
 | attr (o : ME) (a : Nat)
 | sub (o i : ME)
 | slice (o lo hi : ME)
set_option genInjectivity false in
inductive MS where
 | nil
 | seq (s r : MS)
 | assign (x : Nat) (e : ME)
 | unpack (xs : List Nat) (e : ME)
 | setattr (o : ME) (a : Nat) (e : ME)
 | setsub (o i e : ME)
 | augloc (x : Nat) (op : BOp) (e : ME)
 | augattr (o : ME) (a : Nat) (op : BOp) (e : ME)
 | augsub (o i : ME) (op : BOp) (e : ME)
 | expr (e : ME)
 | ite (c : ME) (a b : MS)
 | for (x : Nat) (it : ME) (b : MS)
 | while (c : ME) (b : MS)
 | ret (e : ME)
 | cont
 | raise (e : ME)
 | try (e : ME) (h : MS)
set_option genInjectivity false in
structure Fn where
 ps : List Nat
 body : MS
set_option genInjectivity false in
structure Tab where
 glb : List (Nat × V)
 fns : List (Nat × Fn)
 inits : List (Nat × Nat)
inductive Fl where
 | next
 | cont
 | ret (v : V)
noncomputable def small (i : Int) : Bool:= decide (i.natAbs < 2 ^ 60)
noncomputable def iop : BOp -> Int -> Int -> Option Int
 | .add, a, b => some (a + b)
 | .sub, a, b => some (a - b)
 | .mul, a, b => bif small a || small b then some (a * b) else .none
 | .fdiv, a, b => bif (!decide (b = 0)) && small b then some (a.fdiv b) else .none
 | .mod, a, b => bif (!decide (b = 0)) then some (a.fmod b) else .none
 | .shl, a, n => bif decide (0 <= n) && decide (n <= 1000000) && small a then some (a * 2 ^ n.toNat) else .none
 | .shr, a, n => bif decide (0 <= a) && decide (0 <= n) && small n then some (a.fdiv (2 ^ n.toNat)) else .none
 | .and, a, b => some (Builtin.bitAnd a b)
 | .or, a, b => some (Builtin.bitOr a b)
 | .xor, a, b => some (Builtin.bitXor a b)
noncomputable def aop : BOp -> Int -> Int -> Option Int
 | .shl, _, _ => .none
 | o, a, b => iop o a b
noncomputable def zO (n : Nat) (h : Hp) : Option (List V):= match h[n]? with
 | some (.lst xs) => some xs
 | _ => .none
noncomputable def vH (n : Nat) (h : Hp) : Option (List V):= match h[n]? with
 | some (.lst xs) => some xs
 | some (.tup xs) => some xs
 | _ => .none
noncomputable def rU (n : Nat) (h : Hp) : Option (Nat × List (Nat × V)):= match h[n]? with
 | some (.ins c fs) => some (c, fs)
 | _ => .none
noncomputable def osz : O -> Nat
 | .lst xs => xs.length
 | .tup xs => xs.length
 | _ => 0
noncomputable def zX (o : O) : Mo V:= fun h => bif Nat.ble (osz o) 100000 then .ok (.ref h.length) (h ++ [o]) else .fail
noncomputable def opt {α : Type} : Option α -> Mo α
 | some a => ret a
 | .none => bad
noncomputable def rep (xs : List V) : Nat -> List V
 | 0 => []
 | n + 1 => xs ++ rep xs n
noncomputable def yU (o : BOp) (v w : V) : Mo V:= match v, w with
 | .int a, .int b => match iop o a b with
  | some c => ret (.int c)
  | .none => bad
 | .ref a, .ref b => match o with
  | .add => fun h => match zO a h, zO b h with
   | some xs, some ys => zX (.lst (xs ++ ys)) h
   | _, _ => .fail
  | _ => bad
 | .ref a, .int k => match o with
  | .mul => fun h => match zO a h with
   | some xs => bif decide (0 <= k) && decide (k <= 1000) && decide (xs.length <= 10) then zX (.lst (rep xs k.toNat)) h else .fail
   | _ => .fail
  | _ => bad
 | _, _ => bad
noncomputable def deep : Nat -> Hp -> V -> Option PyData
 | _, _, .none => some .none
 | _, _, .bool b => some (.bool b)
 | _, _, .int i => some (.int i)
 | 0, _, .ref _ => .none
 | k + 1, h, .ref n => match h[n]? with
  | some (.lst xs) => match xs.mapM (deep k h) with
   | some ds => some (.list ds)
   | .none => .none
  | some (.tup xs) => match xs.mapM (deep k h) with
   | some ds => some (.tuple ds)
   | .none => .none
  | _ => .none
noncomputable def veq (h : Hp) (v w : V) : Option Bool:= match v, w with
 | .int a, .int b => some (decide (a = b))
 | .bool a, .bool b => some (a == b)
 | .ref _, .ref _ => match deep 4 h v, deep 4 h w with
  | some x, some y => some (PyData.eqv x y)
  | _, _ => .none
 | _, _ => .none
noncomputable def jX : List V -> Option (List Int)
 | [] => some []
 | .int i :: r => match jX r with
  | some l => some (i :: l)
  | .none => .none
 | _ :: _ => .none
noncomputable def isIn (h : Hp) (v w : V) : Option Bool:= match v, w with
 | .int i, .ref n => match vH n h with
  | some xs => match jX xs with
   | some l => some (decide (i ∈ l))
   | .none => .none
  | .none => .none
 | _, _ => .none
noncomputable def zQ (o : COp) (v w : V) : Mo Bool:= fun h => match o, v, w with
 | .eq, v, w => opt (veq h v w) h
 | .ne, v, w => match veq h v w with
  | some b => .ok (!b) h
  | .none => .fail
 | .lt, .int a, .int b => .ok (decide (a < b)) h
 | .le, .int a, .int b => .ok (decide (a <= b)) h
 | .gt, .int a, .int b => .ok (decide (a > b)) h
 | .ge, .int a, .int b => .ok (decide (a ≥ b)) h
 | .isIn, v, w => opt (isIn h v w) h
 | .notIn, v, w => match isIn h v w with
  | some b => .ok (!b) h
  | .none => .fail
 | .is, .none, .none => .ok true h
 | .is, .ref _, .none => .ok false h
 | _, _, _ => .fail
noncomputable def truth : V -> Mo Bool
 | .bool b => ret b
 | .int i => ret (!decide (i = 0))
 | _ => bad
noncomputable def jA (v : V) (a : Nat) : Mo V:= match v with
 | .ref n => fun h => match rU n h with
  | some (_, fs) => opt (get a fs) h
  | .none => .fail
 | _ => bad
noncomputable def setattr (v : V) (a : Nat) (x : V) : Mo Unit:= match v with
 | .ref n => fun h => match rU n h with
  | some (c, fs) => .ok () (h.set n (.ins c (put a x fs)))
  | .none => .fail
 | _ => bad
noncomputable def yO (v i : V) : Mo V:= match v, i with
 | .ref n, .int k => fun h => match vH n h with
  | some xs => bif decide (0 <= k) && small k then opt xs[k.toNat]? h else .fail
  | .none => .fail
 | _, _ => bad
noncomputable def yR (v i x : V) : Mo Unit:= match v, i with
 | .ref n, .int k => fun h => match zO n h with
  | some xs => bif decide (0 <= k) && decide (k < xs.length) && small k then .ok () (h.set n (.lst (xs.set k.toNat x))) else .fail
  | .none => .fail
 | _, _ => bad
noncomputable def vA (lo : Int) : Nat -> List V
 | 0 => []
 | n + 1 => .int lo :: vA (lo + 1) n
noncomputable def xX (lo : Int) : Nat -> List V
 | 0 => []
 | n + 1 => .int lo :: xX (lo - 1) n
noncomputable def rF (lo hi st : Int) : Option (List V) :=
 bif small lo && small hi then
 bif decide (st = 1) then some (vA lo (hi - lo).toNat)
 else bif decide (st = -1) then some (xX lo (lo - hi).toNat)
 else .none else .none
noncomputable def builtin (k : Blt) (vs : List V) : Mo V:= match k, vs with
 | .len, [.ref n] => fun h => match vH n h with
  | some xs => bif Nat.ble xs.length 100000 then .ok (.int xs.length) h else .fail
  | .none => .fail
 | .list, [.ref n] => fun h => match zO n h with
  | some xs => zX (.lst xs) h
  | .none => .fail
 | .range, [.int a] => bif small a then zX (.rng 0 a 1) else bad
 | .range, [.int a, .int b, .int c] => bif small a && small b && decide (c = -1) then zX (.rng a b c) else bad
 | .sum, [.ref n] => fun h => match zO n h with
  | some xs => match jX xs with
   | some l => .ok (.int l.sum) h
   | .none => .fail
  | .none => .fail
 | .max, [.ref n] => fun h => match zO n h with
  | some xs => match jX xs with
   | some (i :: l) => .ok (.int (l.foldl (fun a b => bif decide (a < b) then b else a) i)) h
   | _ => .fail
  | .none => .fail
 | _, _ => bad
noncomputable def yX (k : Mth) (o : V) (vs : List V) : Mo V:= match k, o, vs with
 | .append, .ref n, [x] => fun h => match zO n h with
  | some xs => bif Nat.ble xs.length 100000 then .ok .none (h.set n (.lst (xs ++ [x]))) else .fail
  | .none => .fail
 | .count, .ref n, [.int i] => fun h => match zO n h with
  | some xs => match jX xs with
   | some l => .ok (.int (l.count i)) h
   | .none => .fail
  | .none => .fail
 | .index, .ref n, [.int i] => fun h => match zO n h with
  | some xs => match jX xs with
   | some l => bif PyData.layable0 (.list (l.map .int)) && decide (i ∈ l) then .ok (.int (l.idxOf i)) h else .fail
   | .none => .fail
  | .none => .fail
 | _, _, _ => bad
noncomputable def pG : V -> Mo Unit
 | .ref n => fun h => match zO n h with
  | some _ => .ok () h
  | .none => .fail
 | _ => bad
noncomputable def oL (n : Nat) (h : Hp) : Option (List V):= match h[n]? with
 | some (.lst xs) => some xs
 | some (.fro xs) => some xs
 | _ => .none
noncomputable def eH : V -> Option Nat
 | .none => some 0
 | .int a => bif decide (0 <= a) && small a then some a.toNat else .none
 | _ => .none
noncomputable def eI (n : Nat) : V -> Option Nat
 | .none => some n
 | .int b => bif decide (0 <= b) && small b then some b.toNat else .none
 | _ => .none
noncomputable def cut (o lo hi : V) : Mo V:= match o with
 | .ref n => fun h => match oL n h with
  | some xs => bif Nat.ble xs.length 100000 then
   match eH lo, eI xs.length hi with
   | some a, some b => zX (.lst ((xs.take b).drop a)) h
   | _, _ => .fail else .fail
  | .none => .fail
 | _ => bad
inductive Src where
 | ls (n : Nat)
 | fix (xs : List V)
noncomputable def jM (v : V) : Mo Src:= match v with
 | .ref n => fun h => match h[n]? with
  | some (.lst _) => .ok (.ls n) h
  | some (.tup xs) => .ok (.fix xs) h
  | some (.rng a b c) => match rF a b c with
   | some xs => .ok (.fix xs) h
   | .none => .fail
  | _ => .fail
 | _ => bad
noncomputable def jV (s : Src) (i : Nat) (h : Hp) : Option (Option V):= match s with
 | .ls n => match zO n h with
  | some xs => some xs[i]?
  | .none => .none
 | .fix xs => some xs[i]?
noncomputable def jF (step : V -> List V -> Mo (List V)) (s : Src) : Nat -> Nat -> List V -> Mo (List V)
 | 0, _, _ => bad
 | k + 1, i, acc => fun h => match jV s i h with
  | .none => .fail
  | some .none => .ok acc h
  | some (some v) => bnd (step v acc) (fun acc' => jF step s k (i + 1) acc') h
noncomputable def pT {α : Type} (m : Mo α) : Mo α:= fun h => match m h with
 | .ok a h' => .ok a h'
 | _ => .fail
noncomputable def uT (body : Loc -> Mo (Fl × Loc)) (x : Nat) (s : Src) : Nat -> Nat -> Loc -> Mo (Fl × Loc)
 | 0, _, _ => bad
 | k + 1, i, l => fun h => match jV s i h with
  | .none => .fail
  | some .none => .ok (.next, l) h
  | some (some v) => bnd (body (put x v l)) (fun r => match r.1 with
   | .ret w => ret (.ret w, r.2)
   | _ => uT body x s k (i + 1) r.2) h
noncomputable def qQ (test : Loc -> Mo Bool) (body : Loc -> Mo (Fl × Loc)) : Nat -> Loc -> Mo (Fl × Loc)
 | 0, _ => bad
 | k + 1, l => bnd (test l) fun b => bif b then bnd (body l) (fun r => match r.1 with
   | .ret w => ret (.ret w, r.2)
   | _ => qQ test body k r.2) else ret (.next, l)
noncomputable abbrev Call:= Nat -> List V -> Mo V
section
variable (T : Tab) (call : Call)
mutual
noncomputable def eval : ME -> Loc -> Mo V
 | .none, _ => ret .none
 | .int i, _ => ret (.int i)
 | .bool b, _ => ret (.bool b)
 | .loc x, l => opt (get x l)
 | .glb x, _ => opt (get x T.glb)
 | .bin o a b, l => bnd (eval a l) fun v => bnd (eval b l) fun w => yU o v w
 | .neg a, l => bnd (eval a l) fun v => match v with
  | .int i => ret (.int (-i))
  | _ => bad
 | .inv a, l => bnd (eval a l) fun v => match v with
  | .int i => ret (.int (Builtin.bitNot i))
  | _ => bad
 | .not a, l => bnd (bnd (eval a l) truth) fun b => ret (.bool (!b))
 | .and a, l => wM a l
 | .or a, l => uJ a l
 | .ite c a b, l => bnd (bnd (eval c l) truth) fun t => match t with
  | true => eval a l
  | false => eval b l
 | .cmp a r, l => bnd (eval a l) fun v => bnd (vP r l v) fun b => ret (.bool b)
 | .lst a, l => bnd (wR a l) fun vs => zX (.lst vs)
 | .tup a, l => bnd (wR a l) fun vs => zX (.tup vs)
 | .comp e x it, l => bnd (eval it l) fun v => bnd (jM v) fun s =>
   bnd (pT (jF (fun v acc => bnd (eval e (put x v l)) fun w => ret (acc ++ [w])) s 64 0 [])) fun vs => zX (.lst vs)
 | .compIf e x it c, l => bnd (eval it l) fun v => bnd (jM v) fun s =>
   bnd (pT (jF (fun v acc => bnd (bnd (eval c (put x v l)) truth) fun t => match t with
    | true => bnd (eval e (put x v l)) fun w => ret (acc ++ [w])
    | false => ret acc) s 64 0 [])) fun vs => zX (.lst vs)
 | .call f a, l => bnd (wR a l) fun vs => call f vs
 | .new c a, l => bnd (wR a l) fun vs => match xI c T.inits with
  | some f => bnd (zX (.ins c [])) fun o => bnd (call f (o :: vs)) fun r => match r with
   | .none => ret o
   | _ => bad
  | .none => bad
 | .blt k a, l => bnd (wR a l) fun vs => builtin k vs
 | .meth k o a, l => bnd (eval o l) fun v => bnd (pG v) fun _ => bnd (wR a l) fun vs => yX k v vs
 | .attr o a, l => bnd (eval o l) fun v => jA v a
 | .sub o i, l => bnd (eval o l) fun v => bnd (eval i l) fun w => yO v w
 | .slice o lo hi, l => bnd (eval o l) fun v => bnd (eval lo l) fun a => bnd (eval hi l) fun b => cut v a b
 | .nil, _ => bad
 | .cons _ _, _ => bad
 | .cc _ _ _, _ => bad
noncomputable def wR : ME -> Loc -> Mo (List V)
 | .nil, _ => ret []
 | .cons a r, l => bnd (eval a l) fun v => bnd (wR r l) fun vs => ret (v :: vs)
 | _, _ => bad
noncomputable def wM : ME -> Loc -> Mo V
 | .cons a r, l => match r with
  | .nil => eval a l
  | r => bnd (eval a l) fun v => bnd (truth v) fun t => match t with
   | true => wM r l
   | false => ret v
 | _, _ => bad
noncomputable def uJ : ME -> Loc -> Mo V
 | .cons a r, l => match r with
  | .nil => eval a l
  | r => bnd (eval a l) fun v => bnd (truth v) fun t => match t with
   | true => ret v
   | false => uJ r l
 | _, _ => bad
noncomputable def vP : ME -> Loc -> V -> Mo Bool
 | .cc o e r, l, v => match r with
  | .nil => bnd (eval e l) fun w => zQ o v w
  | r => bnd (eval e l) fun w => bnd (zQ o v w) fun t => match t with
   | true => vP r l w
   | false => ret false
 | _, _, _ => bad
end
noncomputable def exec : MS -> Loc -> Mo (Fl × Loc)
 | .nil, l => ret (.next, l)
 | .seq s r, l => bnd (exec s l) fun p => match p.1 with
  | .next => exec r p.2
  | f => ret (f, p.2)
 | .assign x e, l => bnd (eval T call e l) fun v => ret (.next, put x v l)
 | .unpack xs e, l => bnd (eval T call e l) fun v => match v with
  | .ref n => fun h => match h[n]? with
   | some (.tup vs) => bif Nat.beq vs.length xs.length then .ok (.next, (xs.zip vs).foldl (fun l p => put p.1 p.2 l) l) h else .fail
   | _ => .fail
  | _ => bad
 | .setattr o a e, l => bnd (eval T call e l) fun v => bnd (eval T call o l) fun w => bnd (setattr w a v) fun _ => ret (.next, l)
 | .setsub o i e, l => bnd (eval T call e l) fun v => bnd (eval T call o l) fun w => bnd (eval T call i l) fun k => bnd (yR w k v) fun _ => ret (.next, l)
 | .augloc x op e, l => bnd (opt (get x l)) fun v => bnd (eval T call e l) fun w => match v, w with
  | .int a, .int b => bnd (opt (aop op a b)) fun c => ret (.next, put x (.int c) l)
  | _, _ => bad
 | .augattr o a op e, l => bnd (eval T call o l) fun u => bnd (jA u a) fun v => bnd (eval T call e l) fun w => match v, w with
  | .int a', .int b' => bnd (opt (aop op a' b')) fun c => bnd (setattr u a (.int c)) fun _ => ret (.next, l)
  | _, _ => bad
 | .augsub o i op e, l => bnd (eval T call o l) fun u => bnd (eval T call i l) fun k => bnd (yO u k) fun v => bnd (eval T call e l) fun w => match v, w with
  | .int a', .int b' => bnd (opt (aop op a' b')) fun c => bnd (yR u k (.int c)) fun _ => ret (.next, l)
  | _, _ => bad
 | .expr e, l => bnd (eval T call e l) fun _ => ret (.next, l)
 | .ite c a b, l => bnd (bnd (eval T call c l) truth) fun t => match t with
  | true => exec a l
  | false => exec b l
 | .for x it b, l => bnd (eval T call it l) fun v => bnd (jM v) fun s => uT (exec b) x s 64 0 l
 | .while c b, l => qQ (fun l => bnd (eval T call c l) truth) (exec b) 64 l
 | .ret e, l => bnd (eval T call e l) fun v => ret (.ret v, l)
 | .cont, l => ret (.cont, l)
 | .raise e, l => bnd (eval T call e l) fun _ => fun h => .exc h
 | .try e b, l => fun h => match eval T call e l h with
  | .ok _ h' => .ok (.next, l) h'
  | .exc h' => exec b l h'
  | .fail => .fail
end
noncomputable def run (T : Tab) : Nat -> Call
 | 0 => fun _ _ => bad
 | n + 1 => fun f vs => match xI f T.fns with
  | some fn => bif Nat.beq fn.ps.length vs.length then bnd (exec T (run T n) fn.body (fn.ps.zip vs)) fun p => match p.1 with
   | .ret v => ret v
   | _ => ret .none else bad
  | .none => bad
end Mine.Internal
end
section
open PySem
namespace Mine.Internal
@[reducible] noncomputable def fn_ZobristU_initU : Fn:= ⟨[1, 2, 3, 4, 5],
 (.seq (.setattr (.loc 1) 2 (.loc 2))
 (.seq (.setattr (.loc 1) 3 (.loc 3))
 (.seq (.setattr (.loc 1) 4 (.loc 4))
 (.seq (.setattr (.loc 1) 5 (.loc 5))
 .nil))))⟩
@[reducible] noncomputable def fn_PositionU_initU : Fn:= ⟨[1, 8, 9],
 (.seq (.setattr (.loc 1) 8 (.loc 8))
 (.seq (.setattr (.loc 1) 9 (.loc 9))
 (.seq (.setattr (.loc 1) 17 (.bin .mul (.lst (.cons (.glb 18) .nil)) (.attr (.loc 8) 19)))
 (.seq (.setattr (.loc 1) 16 (.bin .mul (.lst (.cons (.int 0) .nil)) (.int 7)))
 (.seq (.setattr (.loc 1) 15 (.lst (.cons (.int 0) (.cons (.int 0) .nil))))
 (.seq (.setattr (.loc 1) 5 (.glb 14))
 (.seq (.setattr (.loc 1) 4 (.int 0))
 (.seq (.setattr (.loc 1) 3 (.neg (.int 1)))
 (.seq (.setattr (.loc 1) 13 (.int 0))
 (.seq (.setattr (.loc 1) 12 (.int 1))
 (.seq (.setattr (.loc 1) 11 (.int 0))
 (.seq (.setattr (.loc 1) 10 (.lst .nil))
 .nil))))))))))))⟩
@[reducible] noncomputable def fn_GeometryU_initU : Fn:= ⟨[1, 22, 23, 24, 25],
 (.seq (.setattr (.loc 1) 22 (.loc 22))
 (.seq (.setattr (.loc 1) 23 (.loc 23))
 (.seq (.setattr (.loc 1) 19 (.bin .mul (.loc 22) (.loc 23)))
 (.seq (.setattr (.loc 1) 12 (.bin .sub (.bin .shl (.int 1) (.bin .mul (.loc 22) (.loc 23))) (.int 1)))
 (.seq (.setattr (.loc 1) 24 (.and (.cons (.loc 24) (.cons (.cmp (.loc 23) (.cc .ge (.int 5) .nil)) .nil))))
 (.seq (.setattr (.loc 1) 25 (.loc 25))
 (.seq (.setattr (.loc 1) 33 (.lst .nil))
 (.seq (.setattr (.loc 1) 32 (.lst .nil))
 (.seq (.setattr (.loc 1) 31 (.lst .nil))
 (.seq (.setattr (.loc 1) 30 (.lst .nil))
 (.seq (.setattr (.loc 1) 29 (.lst .nil))
 (.seq (.setattr (.loc 1) 28 (.lst (.cons (.lst .nil) (.cons (.lst .nil) .nil))))
 (.seq (.setattr (.loc 1) 27 (.lst .nil))
 (.seq (.setattr (.loc 1) 26 (.lst .nil))
 .nil))))))))))))))⟩
@[reducible] noncomputable def fn_more_than_one : Fn:= ⟨[36],
 (.seq (.ret (.cmp (.bin .and (.loc 36) (.bin .sub (.loc 36) (.int 1))) (.cc .ne (.int 0) .nil)))
 .nil)⟩
@[reducible] noncomputable def fn_highest : Fn:= ⟨[36],
 (.seq (.ite (.cmp (.loc 36) (.cc .eq (.int 0) .nil))
 (.seq (.ret (.neg (.int 1)))
 .nil)
 .nil)
 (.seq (.assign 39 (.int 1))
 (.seq (.while (.bin .shr (.loc 36) (.loc 39))
 (.seq (.augloc 39 .mul (.int 2))
 .nil))
 (.seq (.assign 38 (.int 0))
 (.seq (.while (.cmp (.loc 39) (.cc .gt (.int 1) .nil))
 (.seq (.augloc 39 .fdiv (.int 2))
 (.seq (.ite (.bin .shr (.loc 36) (.loc 39))
  (.seq (.augloc 36 .shr (.loc 39))
  (.seq (.augloc 38 .add (.loc 39))
  .nil))
  .nil)
 .nil)))
 (.seq (.ret (.loc 38))
 .nil))))))⟩
@[reducible] noncomputable def fn_lowest : Fn:= ⟨[36],
 (.seq (.ret (.call 37 (.cons (.bin .and (.loc 36) (.neg (.loc 36))) .nil)))
 .nil)⟩
@[reducible] noncomputable def fn_make_piece : Fn:= ⟨[5, 42],
 (.seq (.ret (.bin .add (.bin .mul (.loc 5) (.int 8)) (.loc 42)))
 .nil)⟩
@[reducible] noncomputable def fn_side_of : Fn:= ⟨[44],
 (.seq (.ret (.bin .shr (.loc 44) (.int 3)))
 .nil)⟩
@[reducible] noncomputable def fn_kind_of : Fn:= ⟨[44],
 (.seq (.ret (.bin .and (.loc 44) (.int 7)))
 .nil)⟩
@[reducible] noncomputable def fn_state_key : Fn:= ⟨[47],
 (.seq (.assign 9 (.attr (.loc 47) 9))
 (.seq (.assign 11 (.sub (.attr (.loc 9) 4) (.attr (.loc 47) 4)))
 (.seq (.ite (.cmp (.attr (.loc 47) 3) (.cc .ge (.int 0) .nil))
 (.seq (.augloc 11 .xor (.sub (.attr (.loc 9) 3) (.bin .mod (.attr (.loc 47) 3) (.attr (.attr (.loc 47) 8) 22))))
 .nil)
 .nil)
 (.seq (.ite (.cmp (.attr (.loc 47) 5) (.cc .eq (.glb 48) .nil))
 (.seq (.augloc 11 .xor (.attr (.loc 9) 5))
 .nil)
 .nil)
 (.seq (.ret (.loc 11))
 .nil)))))⟩
@[reducible] noncomputable def fn_full_key : Fn:= ⟨[47],
 (.seq (.assign 50 (.attr (.attr (.loc 47) 9) 2))
 (.seq (.assign 11 (.call 46 (.cons (.loc 47) .nil)))
 (.seq (.assign 38 (.int 0))
 (.seq (.for 44 (.attr (.loc 47) 17)
 (.seq (.ite (.cmp (.loc 44) (.cc .ne (.glb 18) .nil))
  (.seq (.augloc 11 .xor (.sub (.sub (.loc 50) (.loc 44)) (.loc 38)))
  .nil)
  .nil)
 (.seq (.augloc 38 .add (.int 1))
 .nil)))
 (.seq (.ret (.loc 11))
 .nil)))))⟩
@[reducible] noncomputable def fn_put_piece : Fn:= ⟨[47, 44, 52],
 (.seq (.assign 53 (.bin .shl (.int 1) (.loc 52)))
 (.seq (.setsub (.attr (.loc 47) 17) (.loc 52) (.loc 44))
 (.seq (.augsub (.attr (.loc 47) 16) (.call 45 (.cons (.loc 44) .nil)) .or (.loc 53))
 (.seq (.augsub (.attr (.loc 47) 15) (.call 43 (.cons (.loc 44) .nil)) .or (.loc 53))
 (.seq (.augattr (.loc 47) 11 .xor (.sub (.sub (.attr (.attr (.loc 47) 9) 2) (.loc 44)) (.loc 52)))
 .nil)))))⟩
@[reducible] noncomputable def fn_take_piece : Fn:= ⟨[47, 52],
 (.seq (.assign 44 (.sub (.attr (.loc 47) 17) (.loc 52)))
 (.seq (.assign 53 (.bin .shl (.int 1) (.loc 52)))
 (.seq (.setsub (.attr (.loc 47) 17) (.loc 52) (.glb 18))
 (.seq (.augsub (.attr (.loc 47) 16) (.call 45 (.cons (.loc 44) .nil)) .xor (.loc 53))
 (.seq (.augsub (.attr (.loc 47) 15) (.call 43 (.cons (.loc 44) .nil)) .xor (.loc 53))
 (.seq (.augattr (.loc 47) 11 .xor (.sub (.sub (.attr (.attr (.loc 47) 9) 2) (.loc 44)) (.loc 52)))
 (.seq (.ret (.loc 44))
 .nil)))))))⟩
@[reducible] noncomputable def fn_shift_piece : Fn:= ⟨[47, 56, 36],
 (.seq (.assign 44 (.sub (.attr (.loc 47) 17) (.loc 56)))
 (.seq (.assign 57 (.bin .or (.bin .shl (.int 1) (.loc 56)) (.bin .shl (.int 1) (.loc 36))))
 (.seq (.setsub (.attr (.loc 47) 17) (.loc 56) (.glb 18))
 (.seq (.setsub (.attr (.loc 47) 17) (.loc 36) (.loc 44))
 (.seq (.augsub (.attr (.loc 47) 16) (.call 45 (.cons (.loc 44) .nil)) .xor (.loc 57))
 (.seq (.augsub (.attr (.loc 47) 15) (.call 43 (.cons (.loc 44) .nil)) .xor (.loc 57))
 (.seq (.assign 50 (.sub (.attr (.attr (.loc 47) 9) 2) (.loc 44)))
 (.seq (.augattr (.loc 47) 11 .xor (.bin .xor (.sub (.loc 50) (.loc 56)) (.sub (.loc 50) (.loc 36))))
 .nil))))))))⟩
@[reducible] noncomputable def fn_occupied : Fn:= ⟨[47],
 (.seq (.ret (.bin .or (.sub (.attr (.loc 47) 15) (.glb 14)) (.sub (.attr (.loc 47) 15) (.glb 48))))
 .nil)⟩
@[reducible] noncomputable def fn_pieces : Fn:= ⟨[47, 5, 42],
 (.seq (.ret (.bin .and (.sub (.attr (.loc 47) 15) (.loc 5)) (.sub (.attr (.loc 47) 16) (.loc 42))))
 .nil)⟩
@[reducible] noncomputable def fn_king_square : Fn:= ⟨[47, 5],
 (.seq (.ret (.call 40 (.cons (.bin .and (.sub (.attr (.loc 47) 15) (.loc 5)) (.sub (.attr (.loc 47) 16) (.glb 60))) .nil)))
 .nil)⟩
@[reducible] noncomputable def fn_copy_position : Fn:= ⟨[47],
 (.seq (.assign 62 (.new 20 (.cons (.attr (.loc 47) 8) (.cons (.attr (.loc 47) 9) .nil))))
 (.seq (.setattr (.loc 62) 17 (.blt .list (.cons (.attr (.loc 47) 17) .nil)))
 (.seq (.setattr (.loc 62) 16 (.blt .list (.cons (.attr (.loc 47) 16) .nil)))
 (.seq (.setattr (.loc 62) 15 (.blt .list (.cons (.attr (.loc 47) 15) .nil)))
 (.seq (.setattr (.loc 62) 5 (.attr (.loc 47) 5))
 (.seq (.setattr (.loc 62) 4 (.attr (.loc 47) 4))
 (.seq (.setattr (.loc 62) 3 (.attr (.loc 47) 3))
 (.seq (.setattr (.loc 62) 13 (.attr (.loc 47) 13))
 (.seq (.setattr (.loc 62) 12 (.attr (.loc 47) 12))
 (.seq (.setattr (.loc 62) 11 (.attr (.loc 47) 11))
 (.seq (.setattr (.loc 62) 10 (.blt .list (.cons (.attr (.loc 47) 10) .nil)))
 (.seq (.ret (.loc 62))
 .nil))))))))))))⟩
@[reducible] noncomputable def fn_same_position : Fn:= ⟨[56, 36],
 (.seq (.ite (.or (.cons (.cmp (.attr (.attr (.loc 56) 8) 22) (.cc .ne (.attr (.attr (.loc 36) 8) 22) .nil)) (.cons (.cmp (.attr (.attr (.loc 56) 8) 23) (.cc .ne (.attr (.attr (.loc 36) 8) 23) .nil)) .nil)))
 (.seq (.ret (.bool false))
 .nil)
 .nil)
 (.seq (.ite (.or (.cons (.cmp (.attr (.loc 56) 17) (.cc .ne (.attr (.loc 36) 17) .nil)) (.cons (.cmp (.attr (.loc 56) 16) (.cc .ne (.attr (.loc 36) 16) .nil)) (.cons (.cmp (.attr (.loc 56) 15) (.cc .ne (.attr (.loc 36) 15) .nil)) .nil))))
 (.seq (.ret (.bool false))
 .nil)
 .nil)
 (.seq (.ite (.or (.cons (.cmp (.attr (.loc 56) 5) (.cc .ne (.attr (.loc 36) 5) .nil)) (.cons (.cmp (.attr (.loc 56) 4) (.cc .ne (.attr (.loc 36) 4) .nil)) (.cons (.cmp (.attr (.loc 56) 3) (.cc .ne (.attr (.loc 36) 3) .nil)) .nil))))
 (.seq (.ret (.bool false))
 .nil)
 .nil)
 (.seq (.ite (.or (.cons (.cmp (.attr (.loc 56) 13) (.cc .ne (.attr (.loc 36) 13) .nil)) (.cons (.cmp (.attr (.loc 56) 12) (.cc .ne (.attr (.loc 36) 12) .nil)) (.cons (.cmp (.attr (.loc 56) 11) (.cc .ne (.attr (.loc 36) 11) .nil)) .nil))))
 (.seq (.ret (.bool false))
 .nil)
 .nil)
 (.seq (.ret (.cmp (.attr (.loc 56) 10) (.cc .eq (.attr (.loc 36) 10) .nil)))
 .nil)))))⟩
@[reducible] noncomputable def fn_settle_key : Fn:= ⟨[47],
 (.seq (.setattr (.loc 47) 11 (.call 49 (.cons (.loc 47) .nil)))
 .nil)⟩
@[reducible] noncomputable def fn_ep_stands : Fn:= ⟨[47, 38],
 (.seq (.assign 8 (.attr (.loc 47) 8))
 (.seq (.ite (.or (.cons (.not (.attr (.loc 8) 24)) (.cons (.cmp (.loc 38) (.cc .lt (.int 0) .nil)) (.cons (.cmp (.loc 38) (.cc .ge (.attr (.loc 8) 19) .nil)) .nil))))
 (.seq (.ret (.bool false))
 .nil)
 .nil)
 (.seq (.assign 68 (.int 2))
 (.seq (.assign 67 (.neg (.attr (.loc 8) 22)))
 (.seq (.ite (.cmp (.attr (.loc 47) 5) (.cc .eq (.glb 14) .nil))
 (.seq (.assign 68 (.bin .sub (.attr (.loc 8) 23) (.int 3)))
 (.seq (.assign 67 (.attr (.loc 8) 22))
 .nil))
 .nil)
 (.seq (.ite (.cmp (.bin .fdiv (.loc 38) (.attr (.loc 8) 22)) (.cc .ne (.loc 68) .nil))
 (.seq (.ret (.bool false))
 .nil)
 .nil)
 (.seq (.ite (.or (.cons (.cmp (.sub (.attr (.loc 47) 17) (.loc 38)) (.cc .ne (.glb 18) .nil)) (.cons (.cmp (.sub (.attr (.loc 47) 17) (.bin .add (.loc 38) (.loc 67))) (.cc .ne (.glb 18) .nil)) .nil)))
 (.seq (.ret (.bool false))
 .nil)
 .nil)
 (.seq (.ret (.cmp (.sub (.attr (.loc 47) 17) (.bin .sub (.loc 38) (.loc 67))) (.cc .eq (.call 41 (.cons (.bin .sub (.int 1) (.attr (.loc 47) 5)) (.cons (.glb 66) .nil))) .nil)))
 .nil))))))))⟩
@[reducible] noncomputable def fn_ep_attacked : Fn:= ⟨[47, 38],
 (.seq (.ret (.cmp (.bin .and (.sub (.sub (.attr (.attr (.loc 47) 8) 28) (.bin .sub (.int 1) (.attr (.loc 47) 5))) (.loc 38)) (.call 2 (.cons (.loc 47) (.cons (.attr (.loc 47) 5) (.cons (.glb 66) .nil))))) (.cc .ne (.int 0) .nil)))
 .nil)⟩
@[reducible] noncomputable def fn_check_boards : Fn:= ⟨[47],
 (.seq (.assign 8 (.attr (.loc 47) 8))
 (.seq (.ite (.or (.cons (.cmp (.blt .len (.cons (.attr (.loc 47) 17) .nil)) (.cc .ne (.attr (.loc 8) 19) .nil)) (.cons (.cmp (.blt .len (.cons (.attr (.loc 47) 16) .nil)) (.cc .ne (.int 7) .nil)) (.cons (.cmp (.blt .len (.cons (.attr (.loc 47) 15) .nil)) (.cc .ne (.int 2) .nil)) .nil))))
 (.seq (.raise (.neg (.int 1)))
 .nil)
 .nil)
 (.seq (.assign 16 (.bin .mul (.lst (.cons (.int 0) .nil)) (.int 7)))
 (.seq (.assign 15 (.lst (.cons (.int 0) (.cons (.int 0) .nil))))
 (.seq (.for 38 (.blt .range (.cons (.attr (.loc 8) 19) .nil))
 (.seq (.assign 44 (.sub (.attr (.loc 47) 17) (.loc 38)))
 (.seq (.ite (.cmp (.loc 44) (.cc .eq (.glb 18) .nil))
  (.seq .cont
  .nil)
  .nil)
 (.seq (.ite (.or (.cons (.not (.cmp (.int 0) (.cc .lt (.loc 44) (.cc .lt (.int 15) .nil)))) (.cons (.not (.cmp (.glb 66) (.cc .le (.call 45 (.cons (.loc 44) .nil)) (.cc .le (.glb 60) .nil)))) .nil)))
  (.seq (.raise (.loc 38))
  .nil)
  .nil)
 (.seq (.augsub (.loc 16) (.call 45 (.cons (.loc 44) .nil)) .or (.bin .shl (.int 1) (.loc 38)))
 (.seq (.augsub (.loc 15) (.call 43 (.cons (.loc 44) .nil)) .or (.bin .shl (.int 1) (.loc 38)))
 .nil))))))
 (.seq (.assign 71 (.bin .or (.bin .xor (.sub (.loc 15) (.glb 14)) (.sub (.attr (.loc 47) 15) (.glb 14))) (.bin .xor (.sub (.loc 15) (.glb 48)) (.sub (.attr (.loc 47) 15) (.glb 48)))))
 (.seq (.for 42 (.blt .range (.cons (.int 7) .nil))
 (.seq (.augloc 71 .or (.bin .xor (.sub (.loc 16) (.loc 42)) (.sub (.attr (.loc 47) 16) (.loc 42))))
 .nil))
 (.seq (.ite (.or (.cons (.cmp (.loc 71) (.cc .lt (.int 0) .nil)) (.cons (.cmp (.loc 71) (.cc .gt (.attr (.loc 8) 12) .nil)) .nil)))
 (.seq (.raise (.neg (.int 1)))
 .nil)
 .nil)
 (.seq (.ite (.cmp (.loc 71) (.cc .ne (.int 0) .nil))
 (.seq (.raise (.call 40 (.cons (.loc 71) .nil)))
 .nil)
 .nil)
 .nil)))))))))⟩
@[reducible] noncomputable def fn_check_kings : Fn:= ⟨[47],
 (.seq (.for 5 (.tup (.cons (.glb 14) (.cons (.glb 48) .nil)))
 (.seq (.assign 73 (.call 2 (.cons (.loc 47) (.cons (.loc 5) (.cons (.glb 60) .nil)))))
 (.seq (.ite (.cmp (.loc 73) (.cc .eq (.int 0) .nil))
  (.seq (.raise (.neg (.int 1)))
  .nil)
  .nil)
 (.seq (.ite (.call 35 (.cons (.loc 73) .nil))
  (.seq (.raise (.call 37 (.cons (.loc 73) .nil)))
  .nil)
  .nil)
 .nil))))
 .nil)⟩
@[reducible] noncomputable def fn_check_pawns : Fn:= ⟨[47],
 (.seq (.assign 8 (.attr (.loc 47) 8))
 (.seq (.assign 71 (.bin .and (.sub (.attr (.loc 47) 16) (.glb 66)) (.bin .or (.sub (.attr (.loc 8) 32) (.int 0)) (.sub (.attr (.loc 8) 32) (.bin .sub (.attr (.loc 8) 23) (.int 1))))))
 (.seq (.ite (.cmp (.loc 71) (.cc .ne (.int 0) .nil))
 (.seq (.raise (.call 40 (.cons (.loc 71) .nil)))
 .nil)
 .nil)
 .nil)))⟩
@[reducible] noncomputable def fn_check_rights : Fn:= ⟨[47],
 (.seq (.ite (.not (.cmp (.int 0) (.cc .le (.attr (.loc 47) 4) (.cc .lt (.int 16) .nil))))
 (.seq (.raise (.neg (.int 1)))
 .nil)
 .nil)
 (.seq (.for 76 (.blt .range (.cons (.int 4) .nil))
 (.seq (.ite (.cmp (.bin .and (.attr (.loc 47) 4) (.bin .shl (.int 1) (.loc 76))) (.cc .eq (.int 0) .nil))
  (.seq .cont
  .nil)
  .nil)
 (.seq (.assign 78 (.sub (.attr (.attr (.loc 47) 8) 27) (.loc 76)))
 (.seq (.ite (.cmp (.loc 78) (.cc .is .none .nil))
  (.seq (.raise (.neg (.int 1)))
  .nil)
  .nil)
 (.seq (.ite (.cmp (.sub (.attr (.loc 47) 17) (.sub (.loc 78) (.int 0))) (.cc .ne (.call 41 (.cons (.bin .shr (.loc 76) (.int 1)) (.cons (.glb 60) .nil))) .nil))
  (.seq (.raise (.sub (.loc 78) (.int 0)))
  .nil)
  .nil)
 (.seq (.ite (.cmp (.sub (.attr (.loc 47) 17) (.sub (.loc 78) (.int 2))) (.cc .ne (.call 41 (.cons (.bin .shr (.loc 76) (.int 1)) (.cons (.glb 77) .nil))) .nil))
  (.seq (.raise (.sub (.loc 78) (.int 2)))
  .nil)
  .nil)
 .nil))))))
 .nil))⟩
@[reducible] noncomputable def fn_check_ep : Fn:= ⟨[47],
 (.seq (.ite (.cmp (.attr (.loc 47) 3) (.cc .eq (.neg (.int 1)) .nil))
 (.seq (.ret .none)
 .nil)
 .nil)
 (.seq (.ite (.not (.call 65 (.cons (.loc 47) (.cons (.attr (.loc 47) 3) .nil))))
 (.seq (.raise (.attr (.loc 47) 3))
 .nil)
 .nil)
 (.seq (.ite (.not (.call 69 (.cons (.loc 47) (.cons (.attr (.loc 47) 3) .nil))))
 (.seq (.raise (.attr (.loc 47) 3))
 .nil)
 .nil)
 .nil)))⟩
@[reducible] noncomputable def fn_check_position : Fn:= ⟨[47],
 (.seq (.ite (.and (.cons (.cmp (.attr (.loc 47) 5) (.cc .ne (.glb 14) .nil)) (.cons (.cmp (.attr (.loc 47) 5) (.cc .ne (.glb 48) .nil)) .nil)))
 (.seq (.raise (.neg (.int 1)))
 .nil)
 .nil)
 (.seq (.ite (.or (.cons (.cmp (.attr (.loc 47) 13) (.cc .lt (.int 0) .nil)) (.cons (.cmp (.attr (.loc 47) 12) (.cc .lt (.int 1) .nil)) .nil)))
 (.seq (.raise (.neg (.int 1)))
 .nil)
 .nil)
 (.seq (.expr (.call 70 (.cons (.loc 47) .nil)))
 (.seq (.expr (.call 72 (.cons (.loc 47) .nil)))
 (.seq (.expr (.call 74 (.cons (.loc 47) .nil)))
 (.seq (.expr (.call 75 (.cons (.loc 47) .nil)))
 (.seq (.expr (.call 79 (.cons (.loc 47) .nil)))
 .nil)))))))⟩
@[reducible] noncomputable def fn_turn_square : Fn:= ⟨[8, 38],
 (.seq (.ret (.bin .add (.bin .mul (.bin .sub (.bin .sub (.attr (.loc 8) 23) (.int 1)) (.bin .fdiv (.loc 38) (.attr (.loc 8) 22))) (.attr (.loc 8) 22)) (.bin .mod (.loc 38) (.attr (.loc 8) 22))))
 .nil)⟩
@[reducible] noncomputable def fn_turn_position : Fn:= ⟨[47],
 (.seq (.assign 8 (.attr (.loc 47) 8))
 (.seq (.assign 62 (.new 20 (.cons (.loc 8) (.cons (.attr (.loc 47) 9) .nil))))
 (.seq (.for 38 (.blt .range (.cons (.attr (.loc 8) 19) .nil))
 (.seq (.assign 44 (.sub (.attr (.loc 47) 17) (.loc 38)))
 (.seq (.ite (.cmp (.loc 44) (.cc .ne (.glb 18) .nil))
  (.seq (.expr (.call 51 (.cons (.loc 62) (.cons (.call 41 (.cons (.bin .sub (.int 1) (.call 43 (.cons (.loc 44) .nil))) (.cons (.call 45 (.cons (.loc 44) .nil)) .nil))) (.cons (.call 81 (.cons (.loc 8) (.cons (.loc 38) .nil))) .nil)))))
  .nil)
  .nil)
 .nil)))
 (.seq (.setattr (.loc 62) 5 (.bin .sub (.int 1) (.attr (.loc 47) 5)))
 (.seq (.setattr (.loc 62) 4 (.bin .or (.bin .shl (.bin .and (.attr (.loc 47) 4) (.int 3)) (.int 2)) (.bin .shr (.attr (.loc 47) 4) (.int 2))))
 (.seq (.ite (.cmp (.attr (.loc 47) 3) (.cc .ge (.int 0) .nil))
 (.seq (.setattr (.loc 62) 3 (.call 81 (.cons (.loc 8) (.cons (.attr (.loc 47) 3) .nil))))
 .nil)
 .nil)
 (.seq (.setattr (.loc 62) 13 (.attr (.loc 47) 13))
 (.seq (.setattr (.loc 62) 12 (.attr (.loc 47) 12))
 (.seq (.expr (.call 64 (.cons (.loc 62) .nil)))
 (.seq (.ret (.loc 62))
 .nil))))))))))⟩
@[reducible] noncomputable def fn_is_growing : Fn:= ⟨[84],
 (.seq (.ret (.or (.cons (.cmp (.sub (.glb 85) (.loc 84)) (.cc .gt (.int 0) .nil)) (.cons (.cmp (.loc 84) (.cc .eq (.int 1) .nil)) .nil))))
 .nil)⟩
@[reducible] noncomputable def fn_add_masks : Fn:= ⟨[8],
 (.seq (.assign 90 (.bin .sub (.bin .shl (.int 1) (.attr (.loc 8) 22)) (.int 1)))
 (.seq (.assign 88 (.int 0))
 (.seq (.for 89 (.blt .range (.cons (.attr (.loc 8) 23) .nil))
 (.seq (.expr (.meth .append (.attr (.loc 8) 32) (.cons (.bin .shl (.loc 90) (.bin .mul (.loc 89) (.attr (.loc 8) 22))) .nil)))
 (.seq (.augloc 88 .or (.bin .shl (.int 1) (.bin .mul (.loc 89) (.attr (.loc 8) 22))))
 .nil)))
 (.seq (.for 87 (.blt .range (.cons (.attr (.loc 8) 22) .nil))
 (.seq (.expr (.meth .append (.attr (.loc 8) 33) (.cons (.bin .shl (.loc 88) (.loc 87)) .nil)))
 .nil))
 .nil))))⟩
@[reducible] noncomputable def fn_inner_squares : Fn:= ⟨[8, 84],
 (.seq (.assign 92 (.int 0))
 (.seq (.ite (.cmp (.sub (.glb 93) (.loc 84)) (.cc .gt (.int 0) .nil))
 (.seq (.augloc 92 .or (.sub (.attr (.loc 8) 33) (.bin .sub (.attr (.loc 8) 22) (.int 1))))
 .nil)
 .nil)
 (.seq (.ite (.cmp (.sub (.glb 93) (.loc 84)) (.cc .lt (.int 0) .nil))
 (.seq (.augloc 92 .or (.sub (.attr (.loc 8) 33) (.int 0)))
 .nil)
 .nil)
 (.seq (.ite (.cmp (.sub (.glb 85) (.loc 84)) (.cc .gt (.int 0) .nil))
 (.seq (.augloc 92 .or (.sub (.attr (.loc 8) 32) (.bin .sub (.attr (.loc 8) 23) (.int 1))))
 .nil)
 .nil)
 (.seq (.ite (.cmp (.sub (.glb 85) (.loc 84)) (.cc .lt (.int 0) .nil))
 (.seq (.augloc 92 .or (.sub (.attr (.loc 8) 32) (.int 0)))
 .nil)
 .nil)
 (.seq (.ret (.bin .and (.attr (.loc 8) 12) (.inv (.loc 92))))
 .nil))))))⟩
@[reducible] noncomputable def fn_add_rays : Fn:= ⟨[8],
 (.seq (.setattr (.loc 8) 30 (.bin .mul (.lst (.cons (.int 0) .nil)) (.attr (.loc 8) 19)))
 (.seq (.for 84 (.blt .range (.cons (.int 8) .nil))
 (.seq (.assign 97 (.call 91 (.cons (.loc 8) (.cons (.loc 84) .nil))))
 (.seq (.assign 99 (.bin .add (.bin .mul (.sub (.glb 85) (.loc 84)) (.attr (.loc 8) 22)) (.sub (.glb 93) (.loc 84))))
 (.seq (.assign 95 (.bin .mul (.lst (.cons (.int 0) .nil)) (.attr (.loc 8) 19)))
 (.seq (.assign 96 (.blt .range (.cons (.attr (.loc 8) 19) .nil)))
 (.seq (.ite (.call 83 (.cons (.loc 84) .nil))
  (.seq (.assign 96 (.blt .range (.cons (.bin .sub (.attr (.loc 8) 19) (.int 1)) (.cons (.neg (.int 1)) (.cons (.neg (.int 1)) .nil)))))
  .nil)
  .nil)
 (.seq (.for 38 (.loc 96)
  (.seq (.ite (.bin .and (.bin .shr (.loc 97) (.loc 38)) (.int 1))
  (.seq (.assign 98 (.bin .add (.loc 38) (.loc 99)))
  (.seq (.setsub (.loc 95) (.loc 38) (.bin .or (.sub (.loc 95) (.loc 98)) (.bin .shl (.int 1) (.loc 98))))
  (.seq (.augsub (.attr (.loc 8) 30) (.loc 38) .or (.bin .shl (.int 1) (.loc 98)))
  .nil)))
  .nil)
  .nil))
 (.seq (.expr (.meth .append (.attr (.loc 8) 31) (.cons (.loc 95) .nil)))
 .nil))))))))
 .nil))⟩
@[reducible] noncomputable def fn_add_pawns : Fn:= ⟨[8],
 (.seq (.for 38 (.blt .range (.cons (.attr (.loc 8) 19) .nil))
 (.seq (.expr (.meth .append (.sub (.attr (.loc 8) 28) (.int 0)) (.cons (.bin .and (.sub (.attr (.loc 8) 30) (.loc 38)) (.bin .or (.sub (.sub (.attr (.loc 8) 31) (.int 4)) (.loc 38)) (.sub (.sub (.attr (.loc 8) 31) (.int 7)) (.loc 38)))) .nil)))
 (.seq (.expr (.meth .append (.sub (.attr (.loc 8) 28) (.int 1)) (.cons (.bin .and (.sub (.attr (.loc 8) 30) (.loc 38)) (.bin .or (.sub (.sub (.attr (.loc 8) 31) (.int 5)) (.loc 38)) (.sub (.sub (.attr (.loc 8) 31) (.int 6)) (.loc 38)))) .nil)))
 .nil)))
 .nil)⟩
@[reducible] noncomputable def fn_add_knights : Fn:= ⟨[8],
 (.seq (.assign 22 (.attr (.loc 8) 22))
 (.seq (.assign 107 (.bin .and (.attr (.loc 8) 12) (.inv (.sub (.attr (.loc 8) 33) (.int 0)))))
 (.seq (.assign 108 (.bin .and (.attr (.loc 8) 12) (.inv (.sub (.attr (.loc 8) 33) (.bin .sub (.loc 22) (.int 1))))))
 (.seq (.assign 105 (.bin .and (.loc 107) (.inv (.sub (.attr (.loc 8) 33) (.int 1)))))
 (.seq (.assign 106 (.bin .and (.loc 108) (.inv (.sub (.attr (.loc 8) 33) (.bin .sub (.loc 22) (.int 2))))))
 (.seq (.for 38 (.blt .range (.cons (.attr (.loc 8) 19) .nil))
 (.seq (.assign 36 (.bin .shl (.int 1) (.loc 38)))
 (.seq (.assign 103 (.bin .or (.bin .and (.bin .shl (.loc 36) (.int 1)) (.loc 107)) (.bin .and (.bin .shr (.loc 36) (.int 1)) (.loc 108))))
 (.seq (.assign 104 (.bin .or (.bin .and (.bin .shl (.loc 36) (.int 2)) (.loc 105)) (.bin .and (.bin .shr (.loc 36) (.int 2)) (.loc 106))))
 (.seq (.assign 102 (.bin .or (.bin .or (.bin .or (.bin .shl (.loc 103) (.bin .mul (.int 2) (.loc 22))) (.bin .shr (.loc 103) (.bin .mul (.int 2) (.loc 22)))) (.bin .shl (.loc 104) (.loc 22))) (.bin .shr (.loc 104) (.loc 22))))
 (.seq (.expr (.meth .append (.attr (.loc 8) 29) (.cons (.bin .and (.loc 102) (.attr (.loc 8) 12)) .nil)))
 .nil))))))
 .nil))))))⟩
@[reducible] noncomputable def fn_add_castles : Fn:= ⟨[8],
 (.seq (.setattr (.loc 8) 26 (.bin .mul (.lst (.cons (.int 0) .nil)) (.attr (.loc 8) 19)))
 (.seq (.assign 113 (.bin .fdiv (.attr (.loc 8) 22) (.int 2)))
 (.seq (.for 76 (.blt .range (.cons (.int 4) .nil))
 (.seq (.assign 112 (.bin .mul (.bin .mul (.bin .shr (.loc 76) (.int 1)) (.bin .sub (.attr (.loc 8) 23) (.int 1))) (.attr (.loc 8) 22)))
 (.seq (.assign 110 (.bin .sub (.attr (.loc 8) 22) (.int 1)))
 (.seq (.assign 111 (.int 1))
 (.seq (.ite (.bin .and (.loc 76) (.int 1))
  (.seq (.assign 110 (.int 0))
  (.seq (.assign 111 (.neg (.int 1)))
  .nil))
  .nil)
 (.seq (.assign 98 (.bin .add (.loc 113) (.bin .mul (.int 2) (.loc 111))))
 (.seq (.ite (.and (.cons (.attr (.loc 8) 25) (.cons (.cmp (.bin .mul (.bin .sub (.loc 110) (.loc 98)) (.loc 111)) (.cc .gt (.int 0) .nil)) .nil)))
  (.seq (.expr (.meth .append (.attr (.loc 8) 27) (.cons (.tup (.cons (.bin .add (.loc 112) (.loc 113)) (.cons (.bin .add (.loc 112) (.loc 98)) (.cons (.bin .add (.loc 112) (.loc 110)) (.cons (.bin .sub (.bin .add (.loc 112) (.loc 98)) (.loc 111)) .nil))))) .nil)))
  (.seq (.augsub (.attr (.loc 8) 26) (.bin .add (.loc 112) (.loc 113)) .or (.bin .shl (.int 1) (.loc 76)))
  (.seq (.augsub (.attr (.loc 8) 26) (.bin .add (.loc 112) (.loc 110)) .or (.bin .shl (.int 1) (.loc 76)))
  .nil)))
  (.seq (.expr (.meth .append (.attr (.loc 8) 27) (.cons .none .nil)))
  .nil))
 .nil)))))))
 .nil)))⟩
@[reducible] noncomputable def fn_make_geometry : Fn:= ⟨[22, 23, 24, 25],
 (.seq (.ite (.or (.cons (.cmp (.loc 22) (.cc .lt (.int 2) .nil)) (.cons (.cmp (.loc 22) (.cc .gt (.int 8) .nil)) (.cons (.cmp (.loc 23) (.cc .lt (.int 3) .nil)) (.cons (.cmp (.loc 23) (.cc .gt (.int 8) .nil)) .nil)))))
 (.seq (.expr .nil)
 .nil)
 .nil)
 (.seq (.assign 8 (.new 34 (.cons (.loc 22) (.cons (.loc 23) (.cons (.loc 24) (.cons (.loc 25) .nil))))))
 (.seq (.expr (.call 86 (.cons (.loc 8) .nil)))
 (.seq (.expr (.call 94 (.cons (.loc 8) .nil)))
 (.seq (.expr (.call 100 (.cons (.loc 8) .nil)))
 (.seq (.expr (.call 101 (.cons (.loc 8) .nil)))
 (.seq (.expr (.call 109 (.cons (.loc 8) .nil)))
 (.seq (.ret (.loc 8))
 .nil))))))))⟩
@[reducible] noncomputable def fn_law_shapes : Fn:= ⟨[],
 (.seq (.ret (.lst (.cons (.tup (.cons (.int 2) (.cons (.int 3) (.cons (.bool false) (.cons (.bool false) .nil))))) (.cons (.tup (.cons (.int 4) (.cons (.int 5) (.cons (.bool true) (.cons (.bool false) .nil))))) (.cons (.tup (.cons (.int 7) (.cons (.int 3) (.cons (.bool false) (.cons (.bool true) .nil))))) (.cons (.tup (.cons (.int 6) (.cons (.int 3) (.cons (.bool false) (.cons (.bool true) .nil))))) .nil))))))
 .nil)⟩
@[reducible] noncomputable def fn_law_at : Fn:= ⟨[117, 118],
 (.seq (.ret (.ite (.cmp (.loc 118) (.cc .lt (.blt .len (.cons (.loc 117) .nil)) .nil)) (.sub (.loc 117) (.loc 118)) (.int 0)))
 .nil)⟩
@[reducible] noncomputable def fn_law_boards : Fn:= ⟨[120],
 (.seq (.assign 16 (.bin .mul (.lst (.cons (.int 0) .nil)) (.int 7)))
 (.seq (.assign 15 (.lst (.cons (.int 0) (.cons (.int 0) .nil))))
 (.seq (.for 52 (.blt .range (.cons (.blt .len (.cons (.loc 120) .nil)) .nil))
 (.seq (.ite (.cmp (.sub (.loc 120) (.loc 52)) (.cc .ne (.int 0) .nil))
  (.seq (.augsub (.loc 16) (.bin .mod (.sub (.loc 120) (.loc 52)) (.int 8)) .add (.bin .shl (.int 1) (.loc 52)))
  (.seq (.augsub (.loc 15) (.bin .fdiv (.sub (.loc 120) (.loc 52)) (.int 8)) .add (.bin .shl (.int 1) (.loc 52)))
  .nil))
  .nil)
 .nil))
 (.seq (.ret (.tup (.cons (.loc 16) (.cons (.loc 15) .nil))))
 .nil))))⟩
@[reducible] noncomputable def fn_law_sum : Fn:= ⟨[120, 22, 122, 4, 3],
 (.seq (.assign 19 (.blt .len (.cons (.loc 120) .nil)))
 (.seq (.assign 123 (.bin .shl (.loc 4) (.bin .mul (.int 15) (.loc 19))))
 (.seq (.ite (.cmp (.loc 3) (.cc .ge (.int 0) .nil))
 (.seq (.augloc 123 .add (.bin .shl (.int 1) (.bin .add (.bin .add (.bin .mul (.int 15) (.loc 19)) (.int 4)) (.bin .mod (.loc 3) (.loc 22)))))
 .nil)
 .nil)
 (.seq (.ite (.cmp (.loc 122) (.cc .eq (.int 1) .nil))
 (.seq (.augloc 123 .add (.bin .shl (.int 1) (.bin .add (.bin .add (.bin .mul (.int 15) (.loc 19)) (.int 4)) (.loc 22))))
 .nil)
 .nil)
 (.seq (.ret (.bin .add (.loc 123) (.blt .sum (.cons (.compIf (.bin .shl (.int 1) (.bin .add (.bin .mul (.sub (.loc 120) (.loc 52)) (.loc 19)) (.loc 52))) 52 (.blt .range (.cons (.loc 19) .nil)) (.cmp (.sub (.loc 120) (.loc 52)) (.cc .ne (.int 0) .nil))) .nil))))
 .nil)))))⟩
@[reducible] noncomputable def fn_law_row : Fn:= ⟨[47],
 (.seq (.assign 125 (.lst (.cons (.blt .list (.cons (.attr (.loc 47) 17) .nil)) (.cons (.blt .list (.cons (.attr (.loc 47) 16) .nil)) (.cons (.blt .list (.cons (.attr (.loc 47) 15) .nil)) (.cons (.blt .list (.cons (.attr (.loc 47) 10) .nil)) .nil))))))
 (.seq (.ret (.bin .add (.loc 125) (.lst (.cons (.attr (.loc 47) 5) (.cons (.attr (.loc 47) 4) (.cons (.attr (.loc 47) 3) (.cons (.attr (.loc 47) 13) (.cons (.attr (.loc 47) 12) (.cons (.attr (.loc 47) 11) .nil)))))))))
 .nil))⟩
@[reducible] noncomputable def fn_law_agrees : Fn:= ⟨[47, 120, 22],
 (.seq (.unpack [16, 15] (.call 119 (.cons (.loc 120) .nil)))
 (.seq (.ite (.cmp (.call 124 (.cons (.loc 47) .nil)) (.cc .ne (.lst (.cons (.loc 120) (.cons (.loc 16) (.cons (.loc 15) (.cons (.lst .nil) (.cons (.int 0) (.cons (.int 0) (.cons (.neg (.int 1)) (.cons (.int 0) (.cons (.int 1) (.cons (.call 121 (.cons (.loc 120) (.cons (.loc 22) (.cons (.int 0) (.cons (.int 0) (.cons (.neg (.int 1)) .nil)))))) .nil))))))))))) .nil))
 (.seq (.ret (.bool false))
 .nil)
 .nil)
 (.seq (.ite (.cmp (.call 58 (.cons (.loc 47) .nil)) (.cc .ne (.bin .add (.sub (.loc 15) (.int 0)) (.sub (.loc 15) (.int 1))) .nil))
 (.seq (.ret (.bool false))
 .nil)
 .nil)
 (.seq (.for 122 (.tup (.cons (.int 0) (.cons (.int 1) .nil)))
 (.seq (.assign 30 (.bin .add (.bin .mul (.loc 122) (.int 8)) (.int 6)))
 (.seq (.ite (.and (.cons (.cmp (.loc 30) (.cc .isIn (.loc 120) .nil)) (.cons (.cmp (.call 59 (.cons (.loc 47) (.cons (.loc 122) .nil))) (.cc .ne (.meth .index (.loc 120) (.cons (.loc 30) .nil)) .nil)) .nil)))
  (.seq (.ret (.bool false))
  .nil)
  .nil)
 (.seq (.for 42 (.tup (.cons (.int 1) (.cons (.int 4) .nil)))
  (.seq (.ite (.cmp (.call 2 (.cons (.loc 47) (.cons (.loc 122) (.cons (.loc 42) .nil)))) (.cc .ne (.blt .sum (.cons (.compIf (.bin .shl (.int 1) (.loc 52)) 52 (.blt .range (.cons (.blt .len (.cons (.loc 120) .nil)) .nil)) (.cmp (.sub (.loc 120) (.loc 52)) (.cc .eq (.bin .add (.bin .mul (.loc 122) (.int 8)) (.loc 42)) .nil))) .nil)) .nil))
  (.seq (.ret (.bool false))
  .nil)
  .nil)
  .nil))
 .nil))))
 (.seq (.ret (.bool true))
 .nil)))))⟩
@[reducible] noncomputable def fn_law_first : Fn:= ⟨[22, 23, 128, 129, 130, 122],
 (.seq (.assign 19 (.bin .mul (.loc 22) (.loc 23)))
 (.seq (.assign 120 (.bin .mul (.lst (.cons (.int 0) .nil)) (.loc 19)))
 (.seq (.ite (.cmp (.bin .mod (.loc 130) (.int 4)) (.cc .ne (.int 3) .nil))
 (.seq (.setsub (.loc 120) (.bin .fdiv (.loc 22) (.int 2)) (.int 6))
 (.seq (.setsub (.loc 120) (.bin .add (.bin .sub (.loc 19) (.loc 22)) (.bin .fdiv (.loc 22) (.int 2))) (.int 14))
 .nil))
 .nil)
 (.seq (.ite (.and (.cons (.loc 129) (.cons (.cmp (.bin .mod (.bin .fdiv (.loc 130) (.int 4)) (.int 2)) (.cc .eq (.int 0) .nil)) .nil)))
 (.seq (.for 110 (.tup (.cons (.int 0) (.cons (.bin .sub (.loc 22) (.int 1)) .nil)))
  (.seq (.setsub (.loc 120) (.loc 110) (.int 4))
  (.seq (.setsub (.loc 120) (.bin .add (.bin .sub (.loc 19) (.loc 22)) (.loc 110)) (.int 12))
  .nil)))
 .nil)
 .nil)
 (.seq (.ite (.and (.cons (.loc 128) (.cons (.cmp (.bin .mod (.bin .fdiv (.loc 130) (.int 8)) (.int 2)) (.cc .eq (.int 1) .nil)) .nil)))
 (.seq (.assign 90 (.bin .mul (.ite (.cmp (.loc 122) (.cc .eq (.int 1) .nil)) (.int 3) (.bin .sub (.loc 23) (.int 4))) (.loc 22)))
 (.seq (.setsub (.loc 120) (.loc 90) (.bin .sub (.int 9) (.bin .mul (.int 8) (.loc 122))))
 (.seq (.setsub (.loc 120) (.bin .add (.loc 90) (.int 1)) (.bin .add (.int 1) (.bin .mul (.int 8) (.loc 122))))
 .nil)))
 .nil)
 (.seq (.ret (.loc 120))
 .nil))))))⟩
@[reducible] noncomputable def fn_law_change : Fn:= ⟨[47, 120, 130],
 (.seq (.assign 19 (.blt .len (.cons (.loc 120) .nil)))
 (.seq (.assign 132 (.bin .mod (.loc 130) (.loc 19)))
 (.seq (.assign 135 (.bin .mod (.bin .fdiv (.loc 130) (.loc 19)) (.int 24)))
 (.seq (.assign 134 (.sub (.loc 120) (.loc 132)))
 (.seq (.ite (.cmp (.loc 134) (.cc .eq (.int 0) .nil))
 (.seq (.setsub (.loc 120) (.loc 132) (.sub (.glb 136) (.bin .mod (.loc 135) (.int 12))))
 (.seq (.expr (.call 51 (.cons (.loc 47) (.cons (.sub (.loc 120) (.loc 132)) (.cons (.loc 132) .nil)))))
 (.seq (.ret (.bool true))
 .nil)))
 .nil)
 (.seq (.assign 133 (.compIf (.bin .mod (.bin .add (.loc 132) (.loc 118)) (.loc 19)) 118 (.blt .range (.cons (.loc 19) .nil)) (.cmp (.sub (.loc 120) (.bin .mod (.bin .add (.loc 132) (.loc 118)) (.loc 19))) (.cc .eq (.int 0) .nil))))
 (.seq (.setsub (.loc 120) (.loc 132) (.int 0))
 (.seq (.ite (.or (.cons (.cmp (.bin .mod (.loc 135) (.int 2)) (.cc .eq (.int 1) .nil)) (.cons (.cmp (.blt .len (.cons (.loc 133) .nil)) (.cc .eq (.int 0) .nil)) .nil)))
 (.seq (.ret (.cmp (.call 54 (.cons (.loc 47) (.cons (.loc 132) .nil))) (.cc .eq (.loc 134) .nil)))
 .nil)
 .nil)
 (.seq (.setsub (.loc 120) (.sub (.loc 133) (.int 0)) (.loc 134))
 (.seq (.expr (.call 55 (.cons (.loc 47) (.cons (.loc 132) (.cons (.sub (.loc 133) (.int 0)) .nil)))))
 (.seq (.ret (.bool true))
 .nil)))))))))))⟩
@[reducible] noncomputable def fn_law_rights : Fn:= ⟨[120, 22, 129],
 (.seq (.assign 123 (.int 0))
 (.seq (.assign 141 (.bin .fdiv (.loc 22) (.int 2)))
 (.seq (.for 138 (.blt .range (.cons (.int 4) .nil))
 (.seq (.assign 140 (.bin .mul (.bin .fdiv (.loc 138) (.int 2)) (.bin .sub (.blt .len (.cons (.loc 120) .nil)) (.loc 22))))
 (.seq (.assign 110 (.ite (.cmp (.bin .mod (.loc 138) (.int 2)) (.cc .eq (.int 1) .nil)) (.int 0) (.bin .sub (.loc 22) (.int 1))))
 (.seq (.assign 139 (.ite (.cmp (.bin .mod (.loc 138) (.int 2)) (.cc .eq (.int 1) .nil)) (.cmp (.bin .sub (.loc 141) (.int 2)) (.cc .gt (.int 0) .nil)) (.cmp (.bin .add (.loc 141) (.int 2)) (.cc .lt (.bin .sub (.loc 22) (.int 1)) .nil))))
 (.seq (.ite (.and (.cons (.loc 129) (.cons (.loc 139) (.cons (.cmp (.sub (.loc 120) (.bin .add (.loc 140) (.loc 141))) (.cc .eq (.bin .add (.bin .mul (.bin .fdiv (.loc 138) (.int 2)) (.int 8)) (.int 6)) .nil)) (.cons (.cmp (.sub (.loc 120) (.bin .add (.loc 140) (.loc 110))) (.cc .eq (.bin .add (.bin .mul (.bin .fdiv (.loc 138) (.int 2)) (.int 8)) (.int 4)) .nil)) .nil)))))
  (.seq (.augloc 123 .add (.bin .shl (.int 1) (.loc 138)))
  .nil)
  .nil)
 .nil)))))
 (.seq (.ret (.loc 123))
 .nil))))⟩
@[reducible] noncomputable def fn_law_passed : Fn:= ⟨[120, 22, 23, 128, 122],
 (.seq (.assign 102 (.lst .nil))
 (.seq (.assign 111 (.ite (.cmp (.loc 122) (.cc .eq (.int 1) .nil)) (.neg (.loc 22)) (.loc 22)))
 (.seq (.for 87 (.blt .range (.cons (.ite (.loc 128) (.loc 22) (.int 0)) .nil))
 (.seq (.assign 132 (.bin .add (.bin .mul (.ite (.cmp (.loc 122) (.cc .eq (.int 1) .nil)) (.int 2) (.bin .sub (.loc 23) (.int 3))) (.loc 22)) (.loc 87)))
 (.seq (.assign 143 (.compIf (.sub (.loc 120) (.bin .add (.bin .sub (.loc 132) (.loc 111)) (.loc 84))) 84 (.tup (.cons (.neg (.int 1)) (.cons (.int 1) .nil))) (.cmp (.int 0) (.cc .le (.bin .add (.loc 87) (.loc 84)) (.cc .lt (.loc 22) .nil)))))
 (.seq (.ite (.and (.cons (.cmp (.lst (.cons (.sub (.loc 120) (.loc 132)) (.cons (.sub (.loc 120) (.bin .add (.loc 132) (.loc 111))) (.cons (.sub (.loc 120) (.bin .sub (.loc 132) (.loc 111))) .nil)))) (.cc .eq (.lst (.cons (.int 0) (.cons (.int 0) (.cons (.bin .sub (.int 9) (.bin .mul (.int 8) (.loc 122))) .nil)))) .nil)) (.cons (.cmp (.bin .add (.int 1) (.bin .mul (.int 8) (.loc 122))) (.cc .isIn (.loc 143) .nil)) .nil)))
  (.seq (.expr (.meth .append (.loc 102) (.cons (.loc 132) .nil)))
  .nil)
  .nil)
 .nil))))
 (.seq (.ret (.loc 102))
 .nil))))⟩
@[reducible] noncomputable def fn_law_fault : Fn:= ⟨[47, 22, 23, 128, 129],
 (.seq (.assign 120 (.attr (.loc 47) 17))
 (.seq (.ite (.or (.cons (.cmp (.attr (.loc 47) 5) (.cc .notIn (.tup (.cons (.int 0) (.cons (.int 1) .nil))) .nil)) (.cons (.cmp (.attr (.loc 47) 13) (.cc .lt (.int 0) .nil)) (.cons (.cmp (.attr (.loc 47) 12) (.cc .lt (.int 1) .nil)) (.cons (.cmp (.blt .len (.cons (.loc 120) .nil)) (.cc .ne (.bin .mul (.loc 22) (.loc 23)) .nil)) .nil)))))
 (.seq (.ret (.bool true))
 .nil)
 .nil)
 (.seq (.ite (.cmp (.compIf (.loc 145) 145 (.loc 120) (.and (.cons (.cmp (.loc 145) (.cc .ne (.int 0) .nil)) (.cons (.cmp (.loc 145) (.cc .notIn (.glb 136) .nil)) .nil)))) (.cc .ne (.lst .nil) .nil))
 (.seq (.ret (.bool true))
 .nil)
 .nil)
 (.seq (.ite (.or (.cons (.cmp (.tup (.cons (.attr (.loc 47) 16) (.cons (.attr (.loc 47) 15) .nil))) (.cc .ne (.call 119 (.cons (.loc 120) .nil)) .nil)) (.cons (.cmp (.meth .count (.loc 120) (.cons (.int 6) .nil)) (.cc .ne (.int 1) .nil)) (.cons (.cmp (.meth .count (.loc 120) (.cons (.int 14) .nil)) (.cc .ne (.int 1) .nil)) .nil))))
 (.seq (.ret (.bool true))
 .nil)
 .nil)
 (.seq (.ite (.cmp (.compIf (.loc 145) 145 (.bin .add (.slice (.loc 120) .none (.loc 22)) (.slice (.loc 120) (.bin .sub (.blt .len (.cons (.loc 120) .nil)) (.loc 22)) .none)) (.cmp (.bin .mod (.loc 145) (.int 8)) (.cc .eq (.int 1) .nil))) (.cc .ne (.lst .nil) .nil))
 (.seq (.ret (.bool true))
 .nil)
 .nil)
 (.seq (.ite (.or (.cons (.not (.cmp (.int 0) (.cc .le (.attr (.loc 47) 4) (.cc .le (.int 15) .nil)))) (.cons (.cmp (.bin .and (.attr (.loc 47) 4) (.call 137 (.cons (.loc 120) (.cons (.loc 22) (.cons (.loc 129) .nil))))) (.cc .ne (.attr (.loc 47) 4) .nil)) .nil)))
 (.seq (.ret (.bool true))
 .nil)
 .nil)
 (.seq (.ret (.and (.cons (.cmp (.attr (.loc 47) 3) (.cc .ne (.neg (.int 1)) .nil)) (.cons (.cmp (.attr (.loc 47) 3) (.cc .notIn (.call 142 (.cons (.loc 120) (.cons (.loc 22) (.cons (.loc 23) (.cons (.loc 128) (.cons (.attr (.loc 47) 5) .nil)))))) .nil)) .nil))))
 .nil)))))))⟩
@[reducible] noncomputable def fn_law_refused : Fn:= ⟨[47],
 (.seq (.try (.call 80 (.cons (.loc 47) .nil))
 (.seq (.ret (.bool true))
 .nil))
 (.seq (.ret (.bool false))
 .nil))⟩
@[reducible] noncomputable def fn_law_bend : Fn:= ⟨[47, 19, 148],
 (.seq (.ite (.cmp (.bin .mod (.loc 148) (.int 5)) (.cc .eq (.int 1) .nil))
 (.seq (.augsub (.attr (.loc 47) 16) (.bin .mod (.bin .fdiv (.loc 148) (.int 5)) (.int 7)) .xor (.bin .shl (.int 1) (.bin .mod (.bin .fdiv (.loc 148) (.int 35)) (.bin .add (.loc 19) (.int 1)))))
 .nil)
 .nil)
 (.seq (.ite (.cmp (.bin .mod (.loc 148) (.int 5)) (.cc .eq (.int 2) .nil))
 (.seq (.augsub (.attr (.loc 47) 15) (.bin .mod (.bin .fdiv (.loc 148) (.int 5)) (.int 2)) .xor (.bin .shl (.int 1) (.bin .mod (.bin .fdiv (.loc 148) (.int 10)) (.bin .add (.loc 19) (.int 1)))))
 .nil)
 .nil)
 (.seq (.ite (.cmp (.bin .mod (.loc 148) (.int 5)) (.cc .eq (.int 3) .nil))
 (.seq (.setsub (.attr (.loc 47) 17) (.bin .mod (.bin .fdiv (.loc 148) (.int 5)) (.loc 19)) (.bin .sub (.bin .mod (.bin .fdiv (.bin .fdiv (.loc 148) (.int 5)) (.loc 19)) (.int 17)) (.int 1)))
 .nil)
 .nil)
 (.seq (.ite (.cmp (.bin .mod (.loc 148) (.int 5)) (.cc .eq (.int 4) .nil))
 (.seq (.expr (.meth .append (.sub (.lst (.cons (.attr (.loc 47) 17) (.cons (.attr (.loc 47) 16) (.cons (.attr (.loc 47) 15) .nil)))) (.bin .mod (.bin .fdiv (.loc 148) (.int 5)) (.int 3))) (.cons (.int 0) .nil)))
 .nil)
 .nil)
 .nil))))⟩
@[reducible] noncomputable def fn_law_fields : Fn:= ⟨[47, 117, 22, 23, 128, 129, 122],
 (.seq (.assign 120 (.attr (.loc 47) 17))
 (.seq (.assign 19 (.blt .len (.cons (.loc 120) .nil)))
 (.seq (.setattr (.loc 47) 5 (.ite (.cmp (.bin .mod (.bin .fdiv (.call 116 (.cons (.loc 117) (.cons (.int 2) .nil))) (.int 2)) (.int 11)) (.cc .lt (.int 10) .nil)) (.loc 122) (.bin .sub (.int 2) (.bin .mul (.int 3) (.loc 122)))))
 (.seq (.assign 148 (.call 116 (.cons (.loc 117) (.cons (.int 4) .nil))))
 (.seq (.ite (.cmp (.bin .mod (.loc 148) (.int 3)) (.cc .eq (.int 1) .nil))
 (.seq (.setattr (.loc 47) 4 (.bin .and (.call 137 (.cons (.loc 120) (.cons (.loc 22) (.cons (.loc 129) .nil)))) (.bin .mod (.bin .fdiv (.loc 148) (.int 3)) (.int 16))))
 .nil)
 .nil)
 (.seq (.ite (.cmp (.bin .mod (.loc 148) (.int 3)) (.cc .eq (.int 2) .nil))
 (.seq (.setattr (.loc 47) 4 (.bin .sub (.bin .mod (.bin .fdiv (.loc 148) (.int 3)) (.int 18)) (.int 1)))
 .nil)
 .nil)
 (.seq (.assign 148 (.call 116 (.cons (.loc 117) (.cons (.int 3) .nil))))
 (.seq (.ite (.cmp (.bin .mod (.loc 148) (.int 3)) (.cc .eq (.int 1) .nil))
 (.seq (.setattr (.loc 47) 3 (.blt .max (.cons (.bin .add (.lst (.cons (.neg (.int 1)) .nil)) (.call 142 (.cons (.loc 120) (.cons (.loc 22) (.cons (.loc 23) (.cons (.loc 128) (.cons (.loc 122) .nil))))))) .nil)))
 .nil)
 .nil)
 (.seq (.ite (.cmp (.bin .mod (.loc 148) (.int 3)) (.cc .eq (.int 2) .nil))
 (.seq (.setattr (.loc 47) 3 (.bin .sub (.bin .mod (.bin .fdiv (.loc 148) (.int 3)) (.bin .add (.loc 19) (.int 3))) (.int 2)))
 .nil)
 .nil)
 (.seq (.assign 148 (.call 116 (.cons (.loc 117) (.cons (.int 5) .nil))))
 (.seq (.setattr (.loc 47) 13 (.ite (.cmp (.bin .mod (.loc 148) (.int 41)) (.cc .lt (.int 40) .nil)) (.bin .mod (.loc 148) (.int 41)) (.neg (.int 1))))
 (.seq (.setattr (.loc 47) 12 (.bin .sub (.int 40) (.bin .mod (.call 116 (.cons (.loc 117) (.cons (.int 6) .nil))) (.int 41))))
 (.seq (.ite (.cmp (.bin .mod (.bin .fdiv (.call 116 (.cons (.loc 117) (.cons (.int 6) .nil))) (.int 41)) (.int 2)) (.cc .eq (.int 1) .nil))
 (.seq (.expr (.meth .append (.attr (.loc 47) 10) (.cons (.tup (.cons (.int 65) (.cons (.int 0) (.cons (.int 0) (.cons (.neg (.int 1)) (.cons (.loc 148) (.cons (.int 7) .nil))))))) .nil)))
 .nil)
 .nil)
 (.seq (.expr (.call 147 (.cons (.loc 47) (.cons (.loc 19) (.cons (.call 116 (.cons (.loc 117) (.cons (.int 7) .nil))) .nil)))))
 .nil))))))))))))))⟩
@[reducible] noncomputable def fn_law_alter : Fn:= ⟨[151, 118, 22, 23],
 (.seq (.ite (.cmp (.loc 118) (.cc .eq (.int 0) .nil))
 (.seq (.augsub (.attr (.loc 151) 17) (.int 0) .add (.int 1))
 .nil)
 .nil)
 (.seq (.ite (.cmp (.loc 118) (.cc .eq (.int 1) .nil))
 (.seq (.augsub (.attr (.loc 151) 16) (.int 1) .xor (.int 1))
 .nil)
 .nil)
 (.seq (.ite (.cmp (.loc 118) (.cc .eq (.int 2) .nil))
 (.seq (.augsub (.attr (.loc 151) 15) (.int 1) .xor (.int 1))
 .nil)
 .nil)
 (.seq (.ite (.cmp (.loc 118) (.cc .eq (.int 3) .nil))
 (.seq (.setattr (.loc 151) 5 (.bin .sub (.int 1) (.attr (.loc 151) 5)))
 .nil)
 .nil)
 (.seq (.ite (.cmp (.loc 118) (.cc .eq (.int 4) .nil))
 (.seq (.augattr (.loc 151) 4 .add (.int 1))
 .nil)
 .nil)
 (.seq (.ite (.cmp (.loc 118) (.cc .eq (.int 5) .nil))
 (.seq (.augattr (.loc 151) 3 .sub (.int 1))
 .nil)
 .nil)
 (.seq (.ite (.cmp (.loc 118) (.cc .eq (.int 6) .nil))
 (.seq (.augattr (.loc 151) 13 .add (.int 1))
 .nil)
 .nil)
 (.seq (.ite (.cmp (.loc 118) (.cc .eq (.int 7) .nil))
 (.seq (.augattr (.loc 151) 12 .add (.int 1))
 .nil)
 .nil)
 (.seq (.ite (.cmp (.loc 118) (.cc .eq (.int 8) .nil))
 (.seq (.augattr (.loc 151) 11 .xor (.int 1))
 .nil)
 .nil)
 (.seq (.ite (.cmp (.loc 118) (.cc .eq (.int 9) .nil))
 (.seq (.expr (.meth .append (.attr (.loc 151) 10) (.cons (.tup (.cons (.int 66) (.cons (.int 0) (.cons (.int 0) (.cons (.neg (.int 1)) (.cons (.int 0) (.cons (.int 7) .nil))))))) .nil)))
 .nil)
 .nil)
 (.seq (.ite (.cmp (.loc 118) (.cc .eq (.int 10) .nil))
 (.seq (.setattr (.loc 151) 8 (.new 34 (.cons (.loc 23) (.cons (.loc 22) (.cons (.bool false) (.cons (.bool false) .nil))))))
 .nil)
 .nil)
 .nil)))))))))))⟩
@[reducible] noncomputable def fn_law_copied : Fn:= ⟨[47, 118, 22, 23],
 (.seq (.assign 153 (.call 124 (.cons (.loc 47) .nil)))
 (.seq (.assign 151 (.call 61 (.cons (.loc 47) .nil)))
 (.seq (.ite (.or (.cons (.cmp (.call 124 (.cons (.loc 151) .nil)) (.cc .ne (.loc 153) .nil)) (.cons (.not (.call 63 (.cons (.loc 151) (.cons (.loc 47) .nil)))) .nil)))
 (.seq (.ret (.bool false))
 .nil)
 .nil)
 (.seq (.expr (.call 150 (.cons (.loc 151) (.cons (.loc 118) (.cons (.loc 22) (.cons (.loc 23) .nil))))))
 (.seq (.ret (.and (.cons (.not (.call 63 (.cons (.loc 151) (.cons (.loc 47) .nil)))) (.cons (.not (.call 63 (.cons (.loc 47) (.cons (.loc 151) .nil)))) (.cons (.cmp (.call 124 (.cons (.loc 47) .nil)) (.cc .eq (.loc 153) .nil)) .nil)))))
 .nil)))))⟩
@[reducible] noncomputable def fn_law_turns : Fn:= ⟨[47, 22, 23],
 (.seq (.assign 120 (.attr (.loc 47) 17))
 (.seq (.expr (.call 64 (.cons (.loc 47) .nil)))
 (.seq (.ite (.cmp (.attr (.loc 47) 11) (.cc .ne (.call 121 (.cons (.loc 120) (.cons (.loc 22) (.cons (.attr (.loc 47) 5) (.cons (.attr (.loc 47) 4) (.cons (.attr (.loc 47) 3) .nil)))))) .nil))
 (.seq (.ret (.bool false))
 .nil)
 .nil)
 (.seq (.assign 153 (.call 124 (.cons (.loc 47) .nil)))
 (.seq (.assign 155 (.call 82 (.cons (.loc 47) .nil)))
 (.seq (.ite (.cmp (.call 124 (.cons (.loc 47) .nil)) (.cc .ne (.loc 153) .nil))
 (.seq (.ret (.bool false))
 .nil)
 .nil)
 (.seq (.assign 156 (.lst .nil))
 (.seq (.for 89 (.blt .range (.cons (.bin .sub (.loc 23) (.int 1)) (.cons (.neg (.int 1)) (.cons (.neg (.int 1)) .nil))))
 (.seq (.assign 156 (.bin .add (.loc 156) (.comp (.ite (.cmp (.loc 145) (.cc .ne (.int 0) .nil)) (.bin .mod (.bin .add (.loc 145) (.int 8)) (.int 16)) (.int 0)) 145 (.slice (.loc 120) (.bin .mul (.loc 89) (.loc 22)) (.bin .mul (.bin .add (.loc 89) (.int 1)) (.loc 22))))))
 .nil))
 (.seq (.assign 3 (.neg (.int 1)))
 (.seq (.ite (.cmp (.attr (.loc 47) 3) (.cc .ge (.int 0) .nil))
 (.seq (.assign 3 (.bin .add (.bin .mul (.bin .sub (.bin .sub (.loc 23) (.int 1)) (.bin .fdiv (.attr (.loc 47) 3) (.loc 22))) (.loc 22)) (.bin .mod (.attr (.loc 47) 3) (.loc 22))))
 .nil)
 .nil)
 (.seq (.assign 4 (.bin .add (.bin .fdiv (.attr (.loc 47) 4) (.int 4)) (.bin .mul (.bin .mod (.attr (.loc 47) 4) (.int 4)) (.int 4))))
 (.seq (.unpack [16, 15] (.call 119 (.cons (.loc 156) .nil)))
 (.seq (.assign 11 (.call 121 (.cons (.loc 156) (.cons (.loc 22) (.cons (.bin .sub (.int 1) (.attr (.loc 47) 5)) (.cons (.loc 4) (.cons (.loc 3) .nil)))))))
 (.seq (.ite (.cmp (.call 124 (.cons (.loc 155) .nil)) (.cc .ne (.lst (.cons (.loc 156) (.cons (.loc 16) (.cons (.loc 15) (.cons (.lst .nil) (.cons (.bin .sub (.int 1) (.attr (.loc 47) 5)) (.cons (.loc 4) (.cons (.loc 3) (.cons (.attr (.loc 47) 13) (.cons (.attr (.loc 47) 12) (.cons (.loc 11) .nil))))))))))) .nil))
 (.seq (.ret (.bool false))
 .nil)
 .nil)
 (.seq (.setattr (.loc 47) 10 (.lst .nil))
 (.seq (.ret (.and (.cons (.not (.call 146 (.cons (.loc 155) .nil))) (.cons (.call 63 (.cons (.call 82 (.cons (.loc 155) .nil)) (.cons (.loc 47) .nil))) .nil))))
 .nil))))))))))))))))⟩
@[reducible] noncomputable def fn_law : Fn:= ⟨[117],
 (.seq (.assign 117 (.slice (.loc 117) .none (.int 24)))
 (.seq (.unpack [22, 23, 128, 129] (.sub (.call 115 .nil) (.bin .mod (.call 116 (.cons (.loc 117) (.cons (.int 0) .nil))) (.int 4))))
 (.seq (.assign 19 (.bin .mul (.loc 22) (.loc 23)))
 (.seq (.assign 112 (.bin .mul (.int 15) (.loc 19)))
 (.seq (.assign 159 (.comp (.comp (.bin .shl (.int 1) (.bin .add (.bin .mul (.loc 134) (.loc 19)) (.loc 52))) 52 (.blt .range (.cons (.loc 19) .nil))) 134 (.blt .range (.cons (.int 15) .nil))))
 (.seq (.assign 9 (.new 6 (.cons (.loc 159) (.cons (.comp (.bin .shl (.int 1) (.bin .add (.bin .add (.loc 112) (.int 4)) (.loc 87))) 87 (.blt .range (.cons (.loc 22) .nil))) (.cons (.comp (.bin .shl (.loc 89) (.loc 112)) 89 (.blt .range (.cons (.int 16) .nil))) (.cons (.bin .shl (.int 1) (.bin .add (.bin .add (.loc 112) (.int 4)) (.loc 22))) .nil))))))
 (.seq (.assign 47 (.new 20 (.cons (.call 114 (.cons (.loc 22) (.cons (.loc 23) (.cons (.loc 128) (.cons (.loc 129) .nil))))) (.cons (.loc 9) .nil))))
 (.seq (.ite (.not (.call 126 (.cons (.loc 47) (.cons (.bin .mul (.lst (.cons (.int 0) .nil)) (.loc 19)) (.cons (.loc 22) .nil)))))
 (.seq (.ret (.bool false))
 .nil)
 .nil)
 (.seq (.assign 122 (.bin .mod (.call 116 (.cons (.loc 117) (.cons (.int 2) .nil))) (.int 2)))
 (.seq (.assign 120 (.call 127 (.cons (.loc 22) (.cons (.loc 23) (.cons (.loc 128) (.cons (.loc 129) (.cons (.call 116 (.cons (.loc 117) (.cons (.int 1) .nil))) (.cons (.loc 122) .nil))))))))
 (.seq (.for 52 (.blt .range (.cons (.loc 19) .nil))
 (.seq (.ite (.cmp (.sub (.loc 120) (.loc 52)) (.cc .ne (.int 0) .nil))
  (.seq (.expr (.call 51 (.cons (.loc 47) (.cons (.sub (.loc 120) (.loc 52)) (.cons (.loc 52) .nil)))))
  .nil)
  .nil)
 .nil))
 (.seq (.ite (.not (.call 126 (.cons (.loc 47) (.cons (.loc 120) (.cons (.loc 22) .nil)))))
 (.seq (.ret (.bool false))
 .nil)
 .nil)
 (.seq (.for 130 (.slice (.loc 117) (.int 8) (.int 16))
 (.seq (.ite (.or (.cons (.not (.call 131 (.cons (.loc 47) (.cons (.loc 120) (.cons (.loc 130) .nil))))) (.cons (.not (.call 126 (.cons (.loc 47) (.cons (.loc 120) (.cons (.loc 22) .nil))))) .nil)))
  (.seq (.ret (.bool false))
  .nil)
  .nil)
 .nil))
 (.seq (.expr (.call 149 (.cons (.loc 47) (.cons (.loc 117) (.cons (.loc 22) (.cons (.loc 23) (.cons (.loc 128) (.cons (.loc 129) (.cons (.loc 122) .nil)))))))))
 (.seq (.ite (.not (.call 152 (.cons (.loc 47) (.cons (.bin .mod (.call 116 (.cons (.loc 117) (.cons (.int 16) .nil))) (.int 11)) (.cons (.loc 22) (.cons (.loc 23) .nil))))))
 (.seq (.ret (.bool false))
 .nil)
 .nil)
 (.seq (.assign 158 (.call 144 (.cons (.loc 47) (.cons (.loc 22) (.cons (.loc 23) (.cons (.loc 128) (.cons (.loc 129) .nil)))))))
 (.seq (.ite (.cmp (.call 146 (.cons (.loc 47) .nil)) (.cc .ne (.loc 158) .nil))
 (.seq (.ret (.bool false))
 .nil)
 .nil)
 (.seq (.ret (.or (.cons (.loc 158) (.cons (.call 154 (.cons (.loc 47) (.cons (.loc 22) (.cons (.loc 23) .nil)))) .nil))))
 .nil))))))))))))))))))⟩
noncomputable def tab : Tab:= ⟨[(14, .int 0), (48, .int 1), (66, .int 1), (77, .int 4), (60, .int 6), (18, .int 0), (93, .ref 0), (85, .ref 1), (136, .ref 2)],
 [(0, fn_ZobristU_initU), (7, fn_PositionU_initU), (21, fn_GeometryU_initU), (35, fn_more_than_one), (37, fn_highest), (40, fn_lowest), (41, fn_make_piece), (43, fn_side_of), (45, fn_kind_of), (46, fn_state_key), (49, fn_full_key), (51, fn_put_piece), (54, fn_take_piece), (55, fn_shift_piece), (58, fn_occupied), (2, fn_pieces), (59, fn_king_square), (61, fn_copy_position), (63, fn_same_position), (64, fn_settle_key), (65, fn_ep_stands), (69, fn_ep_attacked), (70, fn_check_boards), (72, fn_check_kings), (74, fn_check_pawns), (75, fn_check_rights), (79, fn_check_ep), (80, fn_check_position), (81, fn_turn_square), (82, fn_turn_position), (83, fn_is_growing), (86, fn_add_masks), (91, fn_inner_squares), (94, fn_add_rays), (100, fn_add_pawns), (101, fn_add_knights), (109, fn_add_castles), (114, fn_make_geometry), (115, fn_law_shapes), (116, fn_law_at), (119, fn_law_boards), (121, fn_law_sum), (124, fn_law_row), (126, fn_law_agrees), (127, fn_law_first), (131, fn_law_change), (137, fn_law_rights), (142, fn_law_passed), (144, fn_law_fault), (146, fn_law_refused), (147, fn_law_bend), (149, fn_law_fields), (150, fn_law_alter), (152, fn_law_copied), (154, fn_law_turns), (157, fn_law)],
 [(6, 0), (20, 7), (34, 21)]⟩
noncomputable def uH (sc : List Int) : Hp:= [.tup [.int (0), .int (1), .int (0), .int (-1), .int (1), .int (1), .int (-1), .int (-1)], .tup [.int (1), .int (0), .int (-1), .int (0), .int (1), .int (-1), .int (-1), .int (1)], .tup [.int (1), .int (2), .int (3), .int (4), .int (5), .int (6), .int (9), .int (10), .int (11), .int (12), .int (13), .int (14)], .fro (sc.map .int)]
noncomputable def nmS : List Str := [Str.ofString "Zobrist.__init__", Str.ofString "self", Str.ofString "pieces", Str.ofString "ep", Str.ofString "rights", Str.ofString "side", Str.ofString "Zobrist", Str.ofString "Position.__init__", Str.ofString "geo", Str.ofString "zob", Str.ofString "history", Str.ofString "key", Str.ofString "full", Str.ofString "half", Str.ofString "WHITE", Str.ofString "sides", Str.ofString "kinds", Str.ofString "board", Str.ofString "EMPTY", Str.ofString "size", Str.ofString "Position", Str.ofString "Geometry.__init__", Str.ofString "files", Str.ofString "ranks", Str.ofString "has_double", Str.ofString "has_castling", Str.ofString "rights_lost", Str.ofString "castles", Str.ofString "pawn", Str.ofString "knight", Str.ofString "king", Str.ofString "rays", Str.ofString "rank_masks", Str.ofString "file_masks", Str.ofString "Geometry", Str.ofString "more_than_one", Str.ofString "b", Str.ofString "highest", Str.ofString "square", Str.ofString "width", Str.ofString "lowest", Str.ofString "make_piece", Str.ofString "kind", Str.ofString "side_of", Str.ofString "piece", Str.ofString "kind_of", Str.ofString "state_key", Str.ofString "pos", Str.ofString "BLACK", Str.ofString "full_key", Str.ofString "numbers", Str.ofString "put_piece", Str.ofString "s", Str.ofString "bit", Str.ofString "take_piece", Str.ofString "shift_piece", Str.ofString "a", Str.ofString "bits", Str.ofString "occupied", Str.ofString "king_square", Str.ofString "KING", Str.ofString "copy_position", Str.ofString "new", Str.ofString "same_position", Str.ofString "settle_key", Str.ofString "ep_stands", Str.ofString "PAWN", Str.ofString "ahead", Str.ofString "rank", Str.ofString "ep_attacked", Str.ofString "check_boards", Str.ofString "wrong", Str.ofString "check_kings", Str.ofString "kings", Str.ofString "check_pawns", Str.ofString "check_rights", Str.ofString "index", Str.ofString "ROOK", Str.ofString "wing", Str.ofString "check_ep", Str.ofString "check_position", Str.ofString "turn_square", Str.ofString "turn_position", Str.ofString "is_growing", Str.ofString "d", Str.ofString "STEP_RANKS", Str.ofString "add_masks", Str.ofString "f", Str.ofString "column", Str.ofString "r", Str.ofString "row", Str.ofString "inner_squares", Str.ofString "edge", Str.ofString "STEP_FILES", Str.ofString "add_rays", Str.ofString "ray", Str.ofString "order", Str.ofString "inner", Str.ofString "goal", Str.ofString "delta", Str.ofString "add_pawns", Str.ofString "add_knights", Str.ofString "found", Str.ofString "near", Str.ofString "far", Str.ofString "not_first_two", Str.ofString "not_last_two", Str.ofString "not_first", Str.ofString "not_last", Str.ofString "add_castles", Str.ofString "corner", Str.ofString "way", Str.ofString "base", Str.ofString "start", Str.ofString "make_geometry", Str.ofString "_law_shapes", Str.ofString "_law_at", Str.ofString "script", Str.ofString "k", Str.ofString "_law_boards", Str.ofString "cells", Str.ofString "_law_sum", Str.ofString "who", Str.ofString "total", Str.ofString "_law_row", Str.ofString "lists", Str.ofString "_law_agrees", Str.ofString "_law_first", Str.ofString "double", Str.ofString "wings", Str.ofString "n", Str.ofString "_law_change", Str.ofString "spot", Str.ofString "free", Str.ofString "man", Str.ofString "code", Str.ofString "_law_all", Str.ofString "_law_rights", Str.ofString "i", Str.ofString "room", Str.ofString "first", Str.ofString "home", Str.ofString "_law_passed", Str.ofString "beside", Str.ofString "_law_fault", Str.ofString "c", Str.ofString "_law_refused", Str.ofString "_law_bend", Str.ofString "v", Str.ofString "_law_fields", Str.ofString "_law_alter", Str.ofString "twin", Str.ofString "_law_copied", Str.ofString "before", Str.ofString "_law_turns", Str.ofString "other", Str.ofString "swapped", Str.ofString "law", Str.ofString "fault", Str.ofString "rows"]
def flds : List Nat:= [2, 3, 4, 5, 8, 9, 10, 11, 12, 13, 15, 16, 17, 19, 22, 23, 24, 25, 26, 27, 28, 29, 30, 31, 32, 33, 38]
end Mine.Internal
end
section
open PySem PySem.W PyProof.Rows PySem.Calls
namespace Mine.Internal
noncomputable def nm (i : Nat) : Str := nmS.getD i (Str.ofString "")
noncomputable def iW : Mth -> Str
 | .append => Str.ofString "append"
 | .count => Str.ofString "count"
 | .index => Str.ofString "index"
noncomputable def qC : BOp -> Operator
 | .add => .Add | .sub => .Sub | .mul => .Mult | .fdiv => .FloorDiv | .mod => .Mod | .shl => .LShift | .shr => .RShift | .and => .BitAnd | .or => .BitOr | .xor => .BitXor
noncomputable def mW : COp -> CmpOp
 | .eq => .Eq | .ne => .NotEq | .lt => .Lt | .le => .LtE | .gt => .Gt | .ge => .GtE | .isIn => .In | .notIn => .NotIn | .is => .Is
abbrev Kd:= Str -> Option NameKind
noncomputable def bX : Option NameKind -> Bool
 | some .local => true
 | some .cell => true
 | some .free => true
 | _ => false
noncomputable def rT : Option NameKind -> Bool
 | some .globalImplicit => true
 | _ => false
noncomputable def jh (o : BOp) (op : Operator) : Bool:= decide (op = qC o)
noncomputable def ul (o : COp) (op : CmpOp) : Bool:= decide (op = mW o)
theorem oZ {o : BOp} {op : Operator} (h : jh o op = true) : op = qC o:= dTr h
theorem lg {o : COp} {op : CmpOp} (h : ul o op = true) : op = mW o:= dTr h
noncomputable def uV : Blt -> Str
 | .len => Str.ofString "len"
 | .list => Str.ofString "list"
 | .range => Str.ofString "range"
 | .sum => Str.ofString "sum"
 | .max => Str.ofString "max"
noncomputable def nA (e : PySem.Expr) : Bool:= !Nat.beq e.ctorIdx 22
noncomputable def iR (e : PySem.Expr) : Bool:= !Nat.beq e.ctorIdx 16
noncomputable def qN (e : PySem.Expr) : Bool:= !Nat.beq e.ctorIdx 7
noncomputable def fC (e : PySem.Expr) : Bool:= !Nat.beq e.ctorIdx 26
noncomputable def hM (m : ME) : Bool:= Nat.beq m.ctorIdx 3
noncomputable def rO (x : Nat) (y : Str) : Bool:= Nat.blt x nmS.length && decide (y = nm x)
noncomputable def uF (K : Kd) (sc : Scope) : Kd:= fun x => (sc.names.map fun p => (p.1, match p.2, K p.1 with
 | .free, some .cell => NameKind.cell
 | k, _ => k)).lookup x
noncomputable def pf (K : Kd) (sc : Scope) (y : Str) : Bool:= (match sc.kind with | .function => true | _ => false) && !sc.isGenerator && !sc.isCoroutine &&
 sc.names.all fun p => (match p.2 with
  | .local => (decide (p.1 = y) || !nmS.contains p.1) && match sc.names.lookup p.1 with
   | some .local => true
   | _ => false
  | .cell => decide (p.1 = y) && match sc.names.lookup p.1 with
   | some .cell => true
   | _ => false
  | .free => match K p.1 with
   | some .cell => nmS.contains p.1
   | some .free => nmS.contains p.1
   | _ => false
  | .globalImplicit => match sc.names.lookup p.1 with
   | some .globalImplicit => true
   | _ => false
  | _ => false)
noncomputable def mS (f : Nat) : Bool:= tab.inits.any fun p => Nat.beq p.2 f
theorem bL {a b : Bool} (h : (a && b) = true) : a = true:= (Bool.and_eq_true_iff.mp h).1
theorem bR {a b : Bool} (h : (a && b) = true) : b = true:= (Bool.and_eq_true_iff.mp h).2
theorem bN {a : Bool} (h : (!a) = true) : a = false:= by cases a; rfl; contradiction
theorem bI {a : Bool} (h : (!a) = true) (e : a = true) : False:= by subst e; contradiction
theorem ff {G : Prop} (h : false = true) : G:= nomatch h
theorem mR {m : ME} (h : hM m = true) : m = .none:= by cases m <;> first | rfl | exact ff h
def xQ (n m : Nat) (f : n = m -> Bool) : Bool:= dite (n = m) f fun _ => false
theorem zU {n m : Nat} {f : n = m -> Bool} (h : xQ n m f = true) : ∃ e, f e = true:= by
 unfold xQ at h
 by_cases e : n = m
 ·
  rw [dif_pos e] at h; exact ⟨e, h⟩
 ·
  rw [dif_neg e] at h; contradiction
noncomputable section
noncomputable def iE (e : PySem.Expr) (k : BoolOp -> List PySem.Expr -> Pos -> Bool) : Bool:= xQ e.ctorIdx 0 fun h => PySem.Expr.BoolOp.elim (motive_1:= fun _ => Bool) e h k
theorem uA {P : PySem.Expr -> Prop} {e : PySem.Expr} {k : BoolOp -> List PySem.Expr -> Pos -> Bool} (h : iE e k = true) (c : ∀ x0 x1 x2, k x0 x1 x2 = true -> P (.BoolOp x0 x1 x2)) : P e :=
 have ⟨t, h⟩:= zU h
 PySem.Expr.BoolOp.elim (motive_1:= fun e => ∀ t : e.ctorIdx = 0, PySem.Expr.BoolOp.elim (motive_1:= fun _ => Bool) e t k = true -> P e) e t (fun x0 x1 x2 _ h => c x0 x1 x2 h) t h
noncomputable def vBin (e : PySem.Expr) (k : PySem.Expr -> Operator -> PySem.Expr -> Pos -> Bool) : Bool:= xQ e.ctorIdx 2 fun h => PySem.Expr.BinOp.elim (motive_1:= fun _ => Bool) e h k
theorem iF {P : PySem.Expr -> Prop} {e : PySem.Expr} {k : PySem.Expr -> Operator -> PySem.Expr -> Pos -> Bool} (h : vBin e k = true) (c : ∀ x0 x1 x2 x3, k x0 x1 x2 x3 = true -> P (.BinOp x0 x1 x2 x3)) : P e :=
 have ⟨t, h⟩:= zU h
 PySem.Expr.BinOp.elim (motive_1:= fun e => ∀ t : e.ctorIdx = 2, PySem.Expr.BinOp.elim (motive_1:= fun _ => Bool) e t k = true -> P e) e t (fun x0 x1 x2 x3 _ h => c x0 x1 x2 x3 h) t h
noncomputable def vUn (e : PySem.Expr) (k : UnaryOp -> PySem.Expr -> Pos -> Bool) : Bool:= xQ e.ctorIdx 3 fun h => PySem.Expr.UnaryOp.elim (motive_1:= fun _ => Bool) e h k
theorem sM {P : PySem.Expr -> Prop} {e : PySem.Expr} {k : UnaryOp -> PySem.Expr -> Pos -> Bool} (h : vUn e k = true) (c : ∀ x0 x1 x2, k x0 x1 x2 = true -> P (.UnaryOp x0 x1 x2)) : P e :=
 have ⟨t, h⟩:= zU h
 PySem.Expr.UnaryOp.elim (motive_1:= fun e => ∀ t : e.ctorIdx = 3, PySem.Expr.UnaryOp.elim (motive_1:= fun _ => Bool) e t k = true -> P e) e t (fun x0 x1 x2 _ h => c x0 x1 x2 h) t h
noncomputable def vIf (e : PySem.Expr) (k : PySem.Expr -> PySem.Expr -> PySem.Expr -> Pos -> Bool) : Bool:= xQ e.ctorIdx 5 fun h => PySem.Expr.IfExp.elim (motive_1:= fun _ => Bool) e h k
theorem eZ {P : PySem.Expr -> Prop} {e : PySem.Expr} {k : PySem.Expr -> PySem.Expr -> PySem.Expr -> Pos -> Bool} (h : vIf e k = true) (c : ∀ x0 x1 x2 x3, k x0 x1 x2 x3 = true -> P (.IfExp x0 x1 x2 x3)) : P e :=
 have ⟨t, h⟩:= zU h
 PySem.Expr.IfExp.elim (motive_1:= fun e => ∀ t : e.ctorIdx = 5, PySem.Expr.IfExp.elim (motive_1:= fun _ => Bool) e t k = true -> P e) e t (fun x0 x1 x2 x3 _ h => c x0 x1 x2 x3 h) t h
noncomputable def vLC (e : PySem.Expr) (k : PySem.Expr -> List Comprehension -> Scope -> Pos -> Bool) : Bool:= xQ e.ctorIdx 8 fun h => PySem.Expr.ListComp.elim (motive_1:= fun _ => Bool) e h k
theorem nR {P : PySem.Expr -> Prop} {e : PySem.Expr} {k : PySem.Expr -> List Comprehension -> Scope -> Pos -> Bool} (h : vLC e k = true) (c : ∀ x0 x1 x2 x3, k x0 x1 x2 x3 = true -> P (.ListComp x0 x1 x2 x3)) : P e :=
 have ⟨t, h⟩:= zU h
 PySem.Expr.ListComp.elim (motive_1:= fun e => ∀ t : e.ctorIdx = 8, PySem.Expr.ListComp.elim (motive_1:= fun _ => Bool) e t k = true -> P e) e t (fun x0 x1 x2 x3 _ h => c x0 x1 x2 x3 h) t h
noncomputable def vCmp (e : PySem.Expr) (k : PySem.Expr -> List CmpOp -> List PySem.Expr -> Pos -> Bool) : Bool:= xQ e.ctorIdx 15 fun h => PySem.Expr.Compare.elim (motive_1:= fun _ => Bool) e h k
theorem iC {P : PySem.Expr -> Prop} {e : PySem.Expr} {k : PySem.Expr -> List CmpOp -> List PySem.Expr -> Pos -> Bool} (h : vCmp e k = true) (c : ∀ x0 x1 x2 x3, k x0 x1 x2 x3 = true -> P (.Compare x0 x1 x2 x3)) : P e :=
 have ⟨t, h⟩:= zU h
 PySem.Expr.Compare.elim (motive_1:= fun e => ∀ t : e.ctorIdx = 15, PySem.Expr.Compare.elim (motive_1:= fun _ => Bool) e t k = true -> P e) e t (fun x0 x1 x2 x3 _ h => c x0 x1 x2 x3 h) t h
noncomputable def nT (e : PySem.Expr) (k : PySem.Expr -> List PySem.Expr -> List Keyword -> Pos -> Bool) : Bool:= xQ e.ctorIdx 16 fun h => PySem.Expr.Call.elim (motive_1:= fun _ => Bool) e h k
theorem vF {P : PySem.Expr -> Prop} {e : PySem.Expr} {k : PySem.Expr -> List PySem.Expr -> List Keyword -> Pos -> Bool} (h : nT e k = true) (c : ∀ x0 x1 x2 x3, k x0 x1 x2 x3 = true -> P (.Call x0 x1 x2 x3)) : P e :=
 have ⟨t, h⟩:= zU h
 PySem.Expr.Call.elim (motive_1:= fun e => ∀ t : e.ctorIdx = 16, PySem.Expr.Call.elim (motive_1:= fun _ => Bool) e t k = true -> P e) e t (fun x0 x1 x2 x3 _ h => c x0 x1 x2 x3 h) t h
noncomputable def sN (e : PySem.Expr) (k : Const -> Nat -> Pos -> Bool) : Bool:= xQ e.ctorIdx 19 fun h => PySem.Expr.Constant.elim (motive_1:= fun _ => Bool) e h k
theorem wT {P : PySem.Expr -> Prop} {e : PySem.Expr} {k : Const -> Nat -> Pos -> Bool} (h : sN e k = true) (c : ∀ x0 x1 x2, k x0 x1 x2 = true -> P (.Constant x0 x1 x2)) : P e :=
 have ⟨t, h⟩:= zU h
 PySem.Expr.Constant.elim (motive_1:= fun e => ∀ t : e.ctorIdx = 19, PySem.Expr.Constant.elim (motive_1:= fun _ => Bool) e t k = true -> P e) e t (fun x0 x1 x2 _ h => c x0 x1 x2 h) t h
noncomputable def nU (e : PySem.Expr) (k : PySem.Expr -> Str -> Pos -> Bool) : Bool:= xQ e.ctorIdx 20 fun h => PySem.Expr.Attribute.elim (motive_1:= fun _ => Bool) e h k
theorem vG {P : PySem.Expr -> Prop} {e : PySem.Expr} {k : PySem.Expr -> Str -> Pos -> Bool} (h : nU e k = true) (c : ∀ x0 x1 x2, k x0 x1 x2 = true -> P (.Attribute x0 x1 x2)) : P e :=
 have ⟨t, h⟩:= zU h
 PySem.Expr.Attribute.elim (motive_1:= fun e => ∀ t : e.ctorIdx = 20, PySem.Expr.Attribute.elim (motive_1:= fun _ => Bool) e t k = true -> P e) e t (fun x0 x1 x2 _ h => c x0 x1 x2 h) t h
noncomputable def du (e : PySem.Expr) (k : PySem.Expr -> PySem.Expr -> Pos -> Bool) : Bool:= xQ e.ctorIdx 21 fun h => PySem.Expr.Subscript.elim (motive_1:= fun _ => Bool) e h k
theorem rA {P : PySem.Expr -> Prop} {e : PySem.Expr} {k : PySem.Expr -> PySem.Expr -> Pos -> Bool} (h : du e k = true) (c : ∀ x0 x1 x2, k x0 x1 x2 = true -> P (.Subscript x0 x1 x2)) : P e :=
 have ⟨t, h⟩:= zU h
 PySem.Expr.Subscript.elim (motive_1:= fun e => ∀ t : e.ctorIdx = 21, PySem.Expr.Subscript.elim (motive_1:= fun _ => Bool) e t k = true -> P e) e t (fun x0 x1 x2 _ h => c x0 x1 x2 h) t h
noncomputable def wP (e : PySem.Expr) (k : Str -> Pos -> Bool) : Bool:= xQ e.ctorIdx 23 fun h => PySem.Expr.Name.elim (motive_1:= fun _ => Bool) e h k
theorem yF {P : PySem.Expr -> Prop} {e : PySem.Expr} {k : Str -> Pos -> Bool} (h : wP e k = true) (c : ∀ x0 x1, k x0 x1 = true -> P (.Name x0 x1)) : P e :=
 have ⟨t, h⟩:= zU h
 PySem.Expr.Name.elim (motive_1:= fun e => ∀ t : e.ctorIdx = 23, PySem.Expr.Name.elim (motive_1:= fun _ => Bool) e t k = true -> P e) e t (fun x0 x1 _ h => c x0 x1 h) t h
noncomputable def tz (e : PySem.Expr) (k : List PySem.Expr -> Pos -> Bool) : Bool:= xQ e.ctorIdx 24 fun h => PySem.Expr.List.elim (motive_1:= fun _ => Bool) e h k
theorem nQ {P : PySem.Expr -> Prop} {e : PySem.Expr} {k : List PySem.Expr -> Pos -> Bool} (h : tz e k = true) (c : ∀ x0 x1, k x0 x1 = true -> P (.List x0 x1)) : P e :=
 have ⟨t, h⟩:= zU h
 PySem.Expr.List.elim (motive_1:= fun e => ∀ t : e.ctorIdx = 24, PySem.Expr.List.elim (motive_1:= fun _ => Bool) e t k = true -> P e) e t (fun x0 x1 _ h => c x0 x1 h) t h
noncomputable def vm (e : PySem.Expr) (k : List PySem.Expr -> Nat -> Pos -> Bool) : Bool:= xQ e.ctorIdx 25 fun h => PySem.Expr.Tuple.elim (motive_1:= fun _ => Bool) e h k
theorem oW {P : PySem.Expr -> Prop} {e : PySem.Expr} {k : List PySem.Expr -> Nat -> Pos -> Bool} (h : vm e k = true) (c : ∀ x0 x1 x2, k x0 x1 x2 = true -> P (.Tuple x0 x1 x2)) : P e :=
 have ⟨t, h⟩:= zU h
 PySem.Expr.Tuple.elim (motive_1:= fun e => ∀ t : e.ctorIdx = 25, PySem.Expr.Tuple.elim (motive_1:= fun _ => Bool) e t k = true -> P e) e t (fun x0 x1 x2 _ h => c x0 x1 x2 h) t h
noncomputable def dy (e : PySem.Expr) (k : Option PySem.Expr -> Option PySem.Expr -> Option PySem.Expr -> Pos -> Bool) : Bool:= xQ e.ctorIdx 26 fun h => PySem.Expr.Slice.elim (motive_1:= fun _ => Bool) e h k
theorem aP {P : PySem.Expr -> Prop} {e : PySem.Expr} {k : Option PySem.Expr -> Option PySem.Expr -> Option PySem.Expr -> Pos -> Bool} (h : dy e k = true) (c : ∀ x0 x1 x2 x3, k x0 x1 x2 x3 = true -> P (.Slice x0 x1 x2 x3)) : P e :=
 have ⟨t, h⟩:= zU h
 PySem.Expr.Slice.elim (motive_1:= fun e => ∀ t : e.ctorIdx = 26, PySem.Expr.Slice.elim (motive_1:= fun _ => Bool) e t k = true -> P e) e t (fun x0 x1 x2 x3 _ h => c x0 x1 x2 x3 h) t h
noncomputable def iB (e : Stmt) (k : Option PySem.Expr -> Pos -> Bool) : Bool:= xQ e.ctorIdx 3 fun h => PySem.Stmt.Return.elim (motive_2:= fun _ => Bool) e h k
theorem nP {P : Stmt -> Prop} {e : Stmt} {k : Option PySem.Expr -> Pos -> Bool} (h : iB e k = true) (c : ∀ x0 x1, k x0 x1 = true -> P (.Return x0 x1)) : P e :=
 have ⟨t, h⟩:= zU h
 PySem.Stmt.Return.elim (motive_2:= fun e => ∀ t : e.ctorIdx = 3, PySem.Stmt.Return.elim (motive_2:= fun _ => Bool) e t k = true -> P e) e t (fun x0 x1 _ h => c x0 x1 h) t h
noncomputable def rB (e : Stmt) (k : List PySem.Expr -> PySem.Expr -> Pos -> Bool) : Bool:= xQ e.ctorIdx 5 fun h => PySem.Stmt.Assign.elim (motive_2:= fun _ => Bool) e h k
theorem uB {P : Stmt -> Prop} {e : Stmt} {k : List PySem.Expr -> PySem.Expr -> Pos -> Bool} (h : rB e k = true) (c : ∀ x0 x1 x2, k x0 x1 x2 = true -> P (.Assign x0 x1 x2)) : P e :=
 have ⟨t, h⟩:= zU h
 PySem.Stmt.Assign.elim (motive_2:= fun e => ∀ t : e.ctorIdx = 5, PySem.Stmt.Assign.elim (motive_2:= fun _ => Bool) e t k = true -> P e) e t (fun x0 x1 x2 _ h => c x0 x1 x2 h) t h
noncomputable def pd (e : Stmt) (k : PySem.Expr -> Operator -> PySem.Expr -> Pos -> Bool) : Bool:= xQ e.ctorIdx 7 fun h => PySem.Stmt.AugAssign.elim (motive_2:= fun _ => Bool) e h k
theorem iG {P : Stmt -> Prop} {e : Stmt} {k : PySem.Expr -> Operator -> PySem.Expr -> Pos -> Bool} (h : pd e k = true) (c : ∀ x0 x1 x2 x3, k x0 x1 x2 x3 = true -> P (.AugAssign x0 x1 x2 x3)) : P e :=
 have ⟨t, h⟩:= zU h
 PySem.Stmt.AugAssign.elim (motive_2:= fun e => ∀ t : e.ctorIdx = 7, PySem.Stmt.AugAssign.elim (motive_2:= fun _ => Bool) e t k = true -> P e) e t (fun x0 x1 x2 x3 _ h => c x0 x1 x2 x3 h) t h
noncomputable def vFor (e : Stmt) (k : PySem.Expr -> PySem.Expr -> List Stmt -> List Stmt -> Pos -> Bool) : Bool:= xQ e.ctorIdx 9 fun h => PySem.Stmt.For.elim (motive_2:= fun _ => Bool) e h k
theorem pc {P : Stmt -> Prop} {e : Stmt} {k : PySem.Expr -> PySem.Expr -> List Stmt -> List Stmt -> Pos -> Bool} (h : vFor e k = true) (c : ∀ x0 x1 x2 x3 x4, k x0 x1 x2 x3 x4 = true -> P (.For x0 x1 x2 x3 x4)) : P e :=
 have ⟨t, h⟩:= zU h
 PySem.Stmt.For.elim (motive_2:= fun e => ∀ t : e.ctorIdx = 9, PySem.Stmt.For.elim (motive_2:= fun _ => Bool) e t k = true -> P e) e t (fun x0 x1 x2 x3 x4 _ h => c x0 x1 x2 x3 x4 h) t h
noncomputable def dt (e : Stmt) (k : PySem.Expr -> List Stmt -> List Stmt -> Pos -> Bool) : Bool:= xQ e.ctorIdx 11 fun h => PySem.Stmt.While.elim (motive_2:= fun _ => Bool) e h k
theorem aO {P : Stmt -> Prop} {e : Stmt} {k : PySem.Expr -> List Stmt -> List Stmt -> Pos -> Bool} (h : dt e k = true) (c : ∀ x0 x1 x2 x3, k x0 x1 x2 x3 = true -> P (.While x0 x1 x2 x3)) : P e :=
 have ⟨t, h⟩:= zU h
 PySem.Stmt.While.elim (motive_2:= fun e => ∀ t : e.ctorIdx = 11, PySem.Stmt.While.elim (motive_2:= fun _ => Bool) e t k = true -> P e) e t (fun x0 x1 x2 x3 _ h => c x0 x1 x2 x3 h) t h
noncomputable def vIfS (e : Stmt) (k : PySem.Expr -> List Stmt -> List Stmt -> Pos -> Bool) : Bool:= xQ e.ctorIdx 12 fun h => PySem.Stmt.If.elim (motive_2:= fun _ => Bool) e h k
theorem pb {P : Stmt -> Prop} {e : Stmt} {k : PySem.Expr -> List Stmt -> List Stmt -> Pos -> Bool} (h : vIfS e k = true) (c : ∀ x0 x1 x2 x3, k x0 x1 x2 x3 = true -> P (.If x0 x1 x2 x3)) : P e :=
 have ⟨t, h⟩:= zU h
 PySem.Stmt.If.elim (motive_2:= fun e => ∀ t : e.ctorIdx = 12, PySem.Stmt.If.elim (motive_2:= fun _ => Bool) e t k = true -> P e) e t (fun x0 x1 x2 x3 _ h => c x0 x1 x2 x3 h) t h
noncomputable def dz (e : Stmt) (k : Option PySem.Expr -> Option PySem.Expr -> Pos -> Bool) : Bool:= xQ e.ctorIdx 16 fun h => PySem.Stmt.Raise.elim (motive_2:= fun _ => Bool) e h k
theorem aQ {P : Stmt -> Prop} {e : Stmt} {k : Option PySem.Expr -> Option PySem.Expr -> Pos -> Bool} (h : dz e k = true) (c : ∀ x0 x1 x2, k x0 x1 x2 = true -> P (.Raise x0 x1 x2)) : P e :=
 have ⟨t, h⟩:= zU h
 PySem.Stmt.Raise.elim (motive_2:= fun e => ∀ t : e.ctorIdx = 16, PySem.Stmt.Raise.elim (motive_2:= fun _ => Bool) e t k = true -> P e) e t (fun x0 x1 x2 _ h => c x0 x1 x2 h) t h
noncomputable def vTry (e : Stmt) (k : List Stmt -> List ExceptHandler -> List Stmt -> List Stmt -> Pos -> Bool) : Bool:= xQ e.ctorIdx 17 fun h => PySem.Stmt.Try.elim (motive_2:= fun _ => Bool) e h k
theorem pa {P : Stmt -> Prop} {e : Stmt} {k : List Stmt -> List ExceptHandler -> List Stmt -> List Stmt -> Pos -> Bool} (h : vTry e k = true) (c : ∀ x0 x1 x2 x3 x4, k x0 x1 x2 x3 x4 = true -> P (.Try x0 x1 x2 x3 x4)) : P e :=
 have ⟨t, h⟩:= zU h
 PySem.Stmt.Try.elim (motive_2:= fun e => ∀ t : e.ctorIdx = 17, PySem.Stmt.Try.elim (motive_2:= fun _ => Bool) e t k = true -> P e) e t (fun x0 x1 x2 x3 x4 _ h => c x0 x1 x2 x3 x4 h) t h
noncomputable def cW (e : Stmt) (k : PySem.Expr -> Pos -> Bool) : Bool:= xQ e.ctorIdx 24 fun h => PySem.Stmt.Expr.elim (motive_2:= fun _ => Bool) e h k
theorem nS {P : Stmt -> Prop} {e : Stmt} {k : PySem.Expr -> Pos -> Bool} (h : cW e k = true) (c : ∀ x0 x1, k x0 x1 = true -> P (.Expr x0 x1)) : P e :=
 have ⟨t, h⟩:= zU h
 PySem.Stmt.Expr.elim (motive_2:= fun e => ∀ t : e.ctorIdx = 24, PySem.Stmt.Expr.elim (motive_2:= fun _ => Bool) e t k = true -> P e) e t (fun x0 x1 _ h => c x0 x1 h) t h
noncomputable def ue (e : Stmt) (k : Pos -> Bool) : Bool:= xQ e.ctorIdx 27 fun h => PySem.Stmt.Continue.elim (motive_2:= fun _ => Bool) e h k
theorem fc {P : Stmt -> Prop} {e : Stmt} {k : Pos -> Bool} (h : ue e k = true) (c : ∀ x0, k x0 = true -> P (.Continue x0)) : P e :=
 have ⟨t, h⟩:= zU h
 PySem.Stmt.Continue.elim (motive_2:= fun e => ∀ t : e.ctorIdx = 27, PySem.Stmt.Continue.elim (motive_2:= fun _ => Bool) e t k = true -> P e) e t (fun x0 _ h => c x0 h) t h
end
noncomputable def um (c : Const) (b : Bool) : Bool:= match c with | .none => b | _ => false
noncomputable def cInt (c : Const) (k : Int -> Bool) : Bool:= match c with | .int j => k j | _ => false
noncomputable def lq (c : Const) (k : Bool -> Bool) : Bool:= match c with | .bool j => k j | _ => false
noncomputable def cStr (c : Const) (k : Str -> Bool) : Bool:= match c with | .str j => k j | _ => false
theorem lp {P : Const -> Prop} {e : Const} {b : Bool} (h : um e b = true) (k : b = true -> P .none) : P e:= by cases e <;> first | exact k h | exact ff h
theorem se {P : Const -> Prop} {e : Const} {f : Int -> Bool} (h : cInt e f = true) (k : ∀ j, f j = true -> P (.int j)) : P e:= by cases e <;> first | exact k _ h | exact ff h
theorem eO {P : Const -> Prop} {e : Const} {f : Bool -> Bool} (h : lq e f = true) (k : ∀ j, f j = true -> P (.bool j)) : P e:= by cases e <;> first | exact k _ h | exact ff h
theorem sd {P : Const -> Prop} {e : Const} {f : Str -> Bool} (h : cStr e f = true) (k : ∀ j, f j = true -> P (.str j)) : P e:= by cases e <;> first | exact k _ h | exact ff h
noncomputable def v0 {α : Type} (l : List α) (b : Bool) : Bool:= match l with | [] => b | _ :: _ => false
theorem wE {α : Type} {P : List α -> Prop} {e : List α} {b : Bool} (h : v0 e b = true) (k : b = true -> P []) : P e:= by cases e; exact k h; exact ff h
noncomputable def v1 {α : Type} (l : List α) (f : α -> Bool) : Bool:= match l with | [] => false | x :: r => v0 r (f x)
theorem vN {α : Type} {P : List α -> Prop} {e : List α} {f : α -> Bool} (h : v1 e f = true) (k : ∀ x, f x = true -> P [x]) : P e:= by
 cases e with
 | nil => exact ff h
 | cons x r => exact wE (P:= fun r => P (x :: r)) (b:= f x) h (k x)
noncomputable def v2 {α : Type} (l : List α) (f : α -> α -> Bool) : Bool:= match l with | [] => false | x :: r => v1 r (f x)
theorem fh {α : Type} {P : List α -> Prop} {e : List α} {f : α -> α -> Bool} (h : v2 e f = true) (k : ∀ x y, f x y = true -> P [x, y]) : P e:= by
 cases e with
 | nil => exact ff h
 | cons x r => exact vN (P:= fun r => P (x :: r)) (f:= f x) h (k x)
noncomputable def oN {α : Type} (o : Option α) (b : Bool) : Bool:= match o with | Option.none => b | some _ => false
theorem gZ {α : Type} {P : Option α -> Prop} {e : Option α} {b : Bool} (h : oN e b = true) (k : b = true -> P Option.none) : P e:= by cases e; exact k h; exact ff h
noncomputable def oS {α : Type} (o : Option α) (f : α -> Bool) : Bool:= match o with | Option.none => false | some x => f x
theorem mK {α : Type} {P : Option α -> Prop} {e : Option α} {f : α -> Bool} (h : oS e f = true) (k : ∀ x, f x = true -> P (some x)) : P e:= by cases e; exact ff h; exact k _ h
noncomputable def vq (g : Comprehension) (k : Str -> PySem.Expr -> List PySem.Expr -> Bool) : Bool:= decide (g.is_async = 0) && wP g.target fun y _ => k y g.iter g.ifs
theorem oX {P : Comprehension -> Prop} {e : Comprehension} {k : Str -> PySem.Expr -> List PySem.Expr -> Bool} (h : vq e k = true) (c : ∀ y q iter ifs, k y iter ifs = true -> P ⟨.Name y q, iter, ifs, 0⟩) : P e:= by
 obtain ⟨t, iter, ifs, a⟩:= e
 have e : a = 0:= dTr (bL h)
 subst e
 exact yF (P:= fun t => P ⟨t, iter, ifs, 0⟩) (k:= fun y _ => k y iter ifs) (bR h) fun y q h => c y q iter ifs h
noncomputable def optK (f : PySem.Expr -> Bool) (m : ME) (o : Option PySem.Expr) : Bool:= match o with
 | Option.none => hM m
 | some y => f y
noncomputable def bH (k : Option NameKind) : Bool:= match k with | some .local => true | some .cell => true | _ => false
noncomputable section
mutual
noncomputable def chk : ME -> Kd -> PySem.Expr -> Bool
 | .none, _, e => sN e fun c _ _ => um c true
 | .int i, _, e => sN e fun c _ _ => cInt c fun j => decide (i = j)
 | .bool b, _, e => sN e fun c _ _ => lq c fun c => b == c
 | .loc x, K, e => wP e fun y _ => rO x y && bX (K y)
 | .glb x, K, e => wP e fun y _ => rO x y && rT (K y)
 | .bin o a b, K, e => vBin e fun l op r _ => jh o op && chk a K l && chk b K r
 | .neg a, K, e => vUn e fun o x _ => decide (o = .USub) && chk a K x
 | .inv a, K, e => vUn e fun o x _ => decide (o = .Invert) && chk a K x
 | .not a, K, e => vUn e fun o x _ => decide (o = .Not) && chk a K x
 | .and a, K, e => iE e fun o es _ => decide (o = .And) && (qF a K es && !es.isEmpty)
 | .or a, K, e => iE e fun o es _ => decide (o = .Or) && (qF a K es && !es.isEmpty)
 | .ite c a b, K, e => vIf e fun t x y _ => chk c K t && chk a K x && chk b K y
 | .cmp a r, K, e => vCmp e fun l ops es _ => chk a K l && lO r K ops es && !ops.isEmpty
 | .lst a, K, e => tz e fun es _ => qF a K es
 | .tup a, K, e => vm e fun es _ _ => qF a K es
 | .comp m x it, K, e => vLC e fun elt gs sc _ => v1 gs fun g => vq g fun y iter ifs => v0 ifs (rO x y && chk it K iter && pf K sc y && qN iter && bH (uF K sc y) && bH (sc.names.lookup y) && chk m (uF K sc) elt)
 | .compIf m x it c, K, e => vLC e fun elt gs sc _ => v1 gs fun g => vq g fun y iter ifs => v1 ifs fun t => rO x y && chk it K iter && pf K sc y && qN iter && bH (uF K sc y) && bH (sc.names.lookup y) && chk m (uF K sc) elt && chk c (uF K sc) t
 | .call f a, K, e => nT e fun g es ks _ => wP g fun g _ => v0 ks (rO f g && rT (K g) && (xI f tab.fns).isSome && qF a K es && !mS f)
 | .new c a, K, e => nT e fun g es ks _ => wP g fun g _ => v0 ks (rO c g && rT (K g) && (xI c tab.inits).isSome && qF a K es)
 | .blt k a, K, e => nT e fun g es ks _ => wP g fun g _ => v0 ks (decide (g = uV k) && rT (K g) && qF a K es)
 | .meth k o a, K, e => nT e fun g es ks p => nU g fun x g ap => v0 ks (decide (g = iW k) && chk o K x && iR x && qF a K es && Nat.ble es.length 3 && (ap.endLine == p.line))
 | .attr o a, K, e => nU e fun x g _ => rO a g && flds.contains a && chk o K x && iR x
 | .sub o i, K, e => du e fun x y _ => chk o K x && chk i K y && fC y
 | .slice o lo hi, K, e => du e fun x y _ => dy y fun a b c _ => oN c (chk o K x && optK (fun y => chk lo K y) lo a && optK (fun y => chk hi K y) hi b)
 | .nil, _, _ => true
 | .cons _ _, _, _ => true
 | .cc _ _ _, _, _ => true
noncomputable def qF : ME -> Kd -> List PySem.Expr -> Bool
 | .nil, _, es => v0 es true
 | .cons a r, K, es => match es with
  | e :: t => nA e && chk a K e && qF r K t
  | [] => false
 | _, _, _ => false
noncomputable def lO : ME -> Kd -> List CmpOp -> List PySem.Expr -> Bool
 | .nil, _, ops, es => ops.isEmpty && es.isEmpty
 | .cc o e r, K, ops, es => match ops with
  | [] => false
  | op :: ops' => match es with
   | [] => false
   | x :: es' => ul o op && chk e K x && qN x && lO r K ops' es'
 | _, _, _, _ => false
end
end
end Mine.Internal
namespace Mine.Internal
noncomputable def wI : Option NameKind -> Bool
 | some .local => true
 | some .cell => true
 | _ => false
noncomputable def qu : Option NameKind -> Bool
 | some .local => true
 | _ => false
noncomputable def wJ (e : PySem.Expr) : Bool:= Nat.beq e.ctorIdx 8 || Nat.beq e.ctorIdx 9 || Nat.beq e.ctorIdx 10
noncomputable def fq (K : Kd) (t : Str) (tp : Pos) : PySem.Expr -> Bool
 | .ListComp _ _ sc p => qu (K t) && tp.line == p.line && !(sc.names.any fun q => q.1 == t && (q.2 == .local || q.2 == .cell))
 | _ => false
noncomputable def nB (K : Kd) : List Nat -> List PySem.Expr -> Bool
 | [], es => v0 es true
 | x :: xs, es => match es with
  | [] => false
  | e :: es => wP e fun y _ => rO x y && wI (K y) && nB K xs es
noncomputable def dX (e : PySem.Expr) : Bool:= Nat.beq e.ctorIdx 25
noncomputable def vU : Str := Str.ofString "BadPosition"
noncomputable def uj (e : PySem.Expr) : Bool:= !Nat.beq e.ctorIdx 26
noncomputable def uk : ME -> Bool
 | .nil => true
 | _ => false
noncomputable def uq (m : ME) (b : Bool) : Bool:= match m with | .bool c => b == c | _ => false
noncomputable def retE (m : MS) (b : Bool) : Bool:= match m with | .ret e => uq e b | _ => false
noncomputable def nilS (m : MS) : Bool:= match m with | .nil => true | _ => false
noncomputable def retB (h : MS) (b : Bool) : Bool:= match h with | .seq s r => nilS r && retE s b | _ => false
theorem lr {m : ME} {b : Bool} (h : uq m b = true) : m = .bool b:= by cases m <;> first | exact congrArg ME.bool (eq_of_beq h).symm | exact ff h
theorem pj {m : MS} {b : Bool} (h : retE m b = true) : m = .ret (.bool b):= by cases m <;> first | exact congrArg MS.ret (lr h) | exact ff h
theorem ql {m : MS} (h : nilS m = true) : m = .nil:= by cases m <;> first | rfl | exact ff h
theorem pk {m : MS} {b : Bool} (h : retB m b = true) : m = .seq (.ret (.bool b)) .nil:= by
 cases m <;> first | exact ff h | skip
 rw [ql (bL h), pj (bR h)]
noncomputable def ud (x : ExceptHandler) (k : Str -> Bool -> Bool) : Bool:= match x with
 | .ExceptHandler o n b _ => oS o fun t => wP t fun g _ => oN n (v1 b fun r => iB r fun o _ => oS o fun e => sN e fun c _ _ => lq c fun b => k g b)
theorem fb {P : ExceptHandler -> Prop} {e : ExceptHandler} {k : Str -> Bool -> Bool} (h : ud e k = true)
  (c : ∀ g q b n q1 q2 q3, k g b = true -> P (.ExceptHandler (some (.Name g q)) Option.none [.Return (some (.Constant (.bool b) n q1)) q2] q3)) : P e:= by
 obtain ⟨o, nm, b, q⟩:= e
 refine mK (P:= fun o => P (.ExceptHandler o nm b q)) h fun t h => yF (P:= fun t => P (.ExceptHandler (some t) nm b q)) h fun g gq h => gZ (P:= fun nm => P (.ExceptHandler (some (.Name g gq)) nm b q)) h fun h => ?_
 refine vN (P:= fun b => P (.ExceptHandler (some (.Name g gq)) Option.none b q)) h fun r h => nP (P:= fun r => P (.ExceptHandler (some (.Name g gq)) Option.none [r] q)) h fun o rq h => ?_
 refine mK (P:= fun o => P (.ExceptHandler (some (.Name g gq)) Option.none [.Return o rq] q)) h fun e h => wT (P:= fun e => P (.ExceptHandler (some (.Name g gq)) Option.none [.Return (some e) rq] q)) h fun cc n q1 h => ?_
 exact eO (P:= fun cc => P (.ExceptHandler (some (.Name g gq)) Option.none [.Return (some (.Constant cc n q1)) rq] q)) h fun b h => c _ _ _ _ _ _ _ h
noncomputable section
mutual
noncomputable def chkS : MS -> Kd -> Stmt -> Bool
 | .assign x e, K, s => rB s fun ts v _ => v1 ts fun t => wP t fun y q => rO x y && wI (K y) && chk e K v && (!wJ v || fq K y q v)
 | .unpack xs e, K, s => rB s fun ts v _ => v1 ts fun t => vm t fun es _ _ => nB K xs es && chk e K v && !wJ v && !dX v
 | .setattr o a e, K, s => rB s fun ts v _ => v1 ts fun t => nU t fun x g _ => rO a g && flds.contains a && chk o K x && chk e K v && !wJ v
 | .setsub o i e, K, s => rB s fun ts v _ => v1 ts fun t => du t fun x y _ => chk o K x && chk i K y && uj y && chk e K v && !wJ v
 | .augloc x op e, K, s => pd s fun t o v _ => wP t fun y _ => rO x y && wI (K y) && jh op o && chk e K v
 | .augattr o a op e, K, s => pd s fun t o' v _ => nU t fun x g _ => rO a g && flds.contains a && jh op o' && chk o K x && chk e K v
 | .augsub o i op e, K, s => pd s fun t o' v _ => du t fun x y _ => jh op o' && chk o K x && chk i K y && uj y && chk e K v
 | .expr e, K, s => uk e || cW s fun v _ => chk e K v && !wJ v
 | .ite c a b, K, s => vIfS s fun t x y _ => chk c K t && rW a K x && rW b K y
 | .for x it b, K, s => vFor s fun t iter body e _ => wP t fun y _ => v0 e (rO x y && wI (K y) && chk it K iter && qN iter && rW b K body)
 | .while c b, K, s => dt s fun t body e _ => v0 e (chk c K t && rW b K body)
 | .ret e, K, s => iB s fun o _ => optK (fun v => chk e K v) e o
 | .cont, _, s => ue s fun _ => true
 | .raise e, K, s => dz s fun o c _ => oS o fun r => oN c (nT r fun g as ks _ => wP g fun g _ => v0 ks (v2 as fun t x => sN t fun c _ _ => cStr c fun _ => decide (g = vU) && rT (K g) && chk e K x && nA x))
 | .try e h, K, s => vTry s fun ts hs os fs _ => v1 ts fun t => cW t fun v _ => v0 os (v0 fs (v1 hs fun x => ud x fun g b => decide (g = vU) && rT (K g) && chk e K v && !wJ v && retB h b))
 | .nil, _, _ => false
 | .seq _ _, _, _ => false
noncomputable def rW : MS -> Kd -> List Stmt -> Bool
 | .nil, _, ss => v0 ss true
 | .seq s r, K, ss => match ss with
  | x :: t => chkS s K x && rW r K t
  | [] => false
 | _, _, _ => false
end
end
noncomputable def fe (a : Arguments) (k : List Arg -> Bool) : Bool:= v0 a.posonlyargs (oN a.vararg (v0 a.kwonlyargs (v0 a.kw_defaults (oN a.kwarg (v0 a.defaults (k a.args))))))
theorem gJ {P : Arguments -> Prop} {e : Arguments} {k : List Arg -> Bool} (h : fe e k = true) (c : ∀ as, k as = true -> P ⟨[], as, Option.none, [], [], Option.none, []⟩) : P e:= by
 obtain ⟨a1, a2, a3, a4, a5, a6, a7⟩:= e
 apply wE (e:= a1) h
 intro h
 apply gZ (e:= a3) h
 intro h
 apply wE (e:= a4) h
 intro h
 apply wE (e:= a5) h
 intro h
 apply gZ (e:= a6) h
 intro h
 apply wE (e:= a7) h
 exact c a2
noncomputable def su (ps : List Nat) (a : Arguments) : Bool:= fe a fun as => decide (as.map (·.arg) = ps.map nm) && ps.all fun i => Nat.blt i nmS.length
noncomputable def rz (fn : Fn) (a : Arguments) (body : List Stmt) (sc : Scope) : Bool :=
 su fn.ps a && rW fn.body (fun x => sc.names.lookup x) body && decide (sc.kind = .function) && !sc.isGenerator && !sc.isCoroutine && sc.names.all (fun p => match p.2 with
  | .local => true
  | .cell => nmS.contains p.1
  | .globalImplicit => true
  | _ => false) && decide ((sc.names.map (·.1)).Nodup) && fn.ps.all fun i => wI (sc.names.lookup (nm i))
set_option maxRecDepth 1000000
noncomputable def aA (names : List Str) (cn an vn : Str) (a : Arguments) (body : List Stmt) (sc : Scope) : Bool :=
 (fe a fun as => decide (as.map (·.arg) = names)) &&
 (v2 body fun s1 s2 => cW s1 fun e _ => nT e fun f as ks p => nU f fun c i ap => wP c fun c _ => v2 as fun x y => wP x fun x _ => wP y fun y _ => v0 ks (rB s2 fun ts v _ => v1 ts fun t => nU t fun z b _ => wP z fun z _ => wP v fun v _ =>
   decide (c = cn) && decide (i = ("__init__" : Str)) && decide (x = ("self" : Str)) && decide (y = ("text" : Str)) && decide (z = ("self" : Str)) && decide (b = an) && decide (v = vn) && (ap.endLine == p.line))) &&
  decide (sc.kind = .function) && !sc.isGenerator && !sc.isCoroutine && names.all (fun n => sc.names.lookup n == some .local) && (sc.names.lookup cn == some .globalImplicit)
noncomputable def faT : List (Nat × Addr):= [(0, 109), (7, 144), (21, 300), (35, 21), (37, 28), (40, 35), (41, 81), (43, 88), (45, 95), (46, 123), (49, 130), (51, 158), (54, 165), (55, 172), (58, 179), (2, 186), (59, 193), (61, 200), (63, 207), (64, 214), (65, 221), (69, 228), (70, 235), (72, 242), (74, 249), (75, 256), (79, 263), (80, 270), (81, 277), (82, 284), (83, 314), (86, 321), (91, 328), (94, 335), (100, 342), (101, 349), (109, 356), (114, 363), (115, 370), (116, 378), (119, 385), (121, 390), (124, 397), (126, 402), (127, 409), (131, 414), (137, 421), (142, 426), (144, 431), (146, 438), (147, 445), (149, 452), (150, 459), (152, 466), (154, 471), (157, 476)]
noncomputable def caT : List (Nat × Addr):= [(6, 112), (20, 147), (34, 303)]
noncomputable def tuT : List Addr:= [285, 286, 371]
noncomputable def cb : Addr:= 72
noncomputable def dCls (d : Data) (k : ClassData -> Bool) : Bool:= match d with | .cls c => k c | _ => false
theorem rk {P : Data -> Prop} {e : Data} {k : ClassData -> Bool} (h : dCls e k = true) (c : ∀ x, k x = true -> P (.cls x)) : P e:= by cases e <;> first | exact c _ h | exact ff h
noncomputable def dFn (d : Data) (k : FuncData -> Bool) : Bool:= match d with | .func c => k c | _ => false
theorem dFn_is {P : Data -> Prop} {e : Data} {k : FuncData -> Bool} (h : dFn e k = true) (c : ∀ x, k x = true -> P (.func x)) : P e:= by cases e <;> first | exact c _ h | exact ff h
noncomputable def dSeq (d : Data) (k : Array Value -> Bool) : Bool:= match d with | .seq c _ => k c | _ => false
theorem rj {P : Data -> Prop} {e : Data} {k : Array Value -> Bool} (h : dSeq e k = true) (c : ∀ x n, k x = true -> P (.seq x n)) : P e:= by cases e <;> first | exact c _ _ h | exact ff h
noncomputable def vB (v : Value) (k : String -> Bool) : Bool:= match v with | .builtin n => k n | _ => false
theorem vB_is {P : Value -> Prop} {e : Value} {k : String -> Bool} (h : vB e k = true) (c : ∀ n, k n = true -> P (.builtin n)) : P e:= by cases e <;> first | exact c _ h | exact ff h
noncomputable def vc {α : Type} (l : List α) (f : α -> List α -> Bool) : Bool:= match l with | [] => false | x :: r => f x r
theorem gI {α : Type} {P : List α -> Prop} {e : List α} {f : α -> List α -> Bool} (h : vc e f = true) (c : ∀ x r, f x r = true -> P (x :: r)) : P e:= by cases e; exact ff h; exact c _ _ h
noncomputable def sl6 (s : Array (Option Value)) (k : String -> Bool) : Bool:= vc s.toList fun _ r => vc r fun _ r => vc r fun _ r => vc r fun _ r => vc r fun x r => v1 r fun _ => oS x fun v => vB v k
theorem dG {P : Array (Option Value) -> Prop} {e : Array (Option Value)} {k : String -> Bool} (h : sl6 e k = true) (c : ∀ k0 k1 k2 k3 n k5, k n = true -> P #[k0, k1, k2, k3, some (.builtin n), k5]) : P e:= by
 obtain ⟨l⟩:= e
 apply gI (e:= l) h
 intro k0 l h
 apply gI (e:= l) h
 intro k1 l h
 apply gI (e:= l) h
 intro k2 l h
 apply gI (e:= l) h
 intro k3 l h
 apply gI (e:= l) h
 intro k4 l h
 apply vN (e:= l) h
 intro k5 h
 apply mK (e:= k4) h
 intro v h
 apply vB_is (e:= v) h
 intro n h
 exact c _ _ _ _ _ _ h
noncomputable def qe (o : Option Obj) (k : ClassData -> Array (Option Value) -> Bool) : Bool := oS o fun x => decide (x.cls = .type "type") && dCls x.data fun c => k c x.slots
theorem iP {P : Option Obj -> Prop} {e : Option Obj} {k : ClassData -> Array (Option Value) -> Bool} (h : qe e k = true) (c : ∀ d x s, k x s = true -> P (some ⟨.type "type", d, .cls x, s⟩)) : P e := by
 apply mK (e:= e) h
 intro o h
 obtain ⟨a, d, x, s⟩:= o
 obtain rfl : a = .type "type" := dTr (bL h)
 apply rk (e:= x) (bR h)
 intro x h
 exact c _ _ _ h
noncomputable def oFn (o : Option Obj) (k : FuncData -> Bool) : Bool := oS o fun x => decide (x.cls = .type "function") && dFn x.data k
theorem jj {P : Option Obj -> Prop} {e : Option Obj} {k : FuncData -> Bool} (h : oFn e k = true) (c : ∀ d x s, k x = true -> P (some ⟨.type "function", d, .func x, s⟩)) : P e := by
 apply mK (e:= e) h
 intro o h
 obtain ⟨a, d, x, s⟩:= o
 obtain rfl : a = .type "function" := dTr (bL h)
 apply dFn_is (e:= x) (bR h)
 intro x h
 exact c _ _ _ h
noncomputable def vSt (b : FuncBody) (k : List Stmt -> Bool) : Bool:= match b with | .stmts x => k x | _ => false
theorem dw {e : FuncBody} {k : List Stmt -> Bool} (h : vSt e k = true) : ∃ x, e = .stmts x /\ k x = true:= by cases e; exact ⟨_, rfl, h⟩; exact ff h
noncomputable def qy (K : Frag) (a : Addr) (fn : Fn) : Bool:= oFn (K.lookup a) fun fd => vSt fd.body (fun body => rz fn fd.params body fd.scope) && fd.closure.isEmpty && decide (fd.globals = mainGlobals) && decide (fd.builtins = builtinsNs) &&
   decide (fd.defaults = .none) && codeIn K fd.code fd.qualname && decide fn.ps.Nodup
noncomputable def sV (K : Frag) (a : Addr) (names : List Str) (cn an vn : Str) : Bool:= oFn (K.lookup a) fun fd => vSt fd.body (fun body => aA names cn an vn fd.params body fd.scope) && fd.closure.isEmpty && decide (fd.globals = mainGlobals) && decide (fd.builtins = builtinsNs) &&
   decide (fd.defaults = .none) && codeIn K fd.code fd.qualname
noncomputable def jS (x : Option (Option Value)) (a : Addr) : Bool:= match x with
 | some (some (.ref b)) => Nat.beq b a
 | _ => false
noncomputable def xR (x : Option (Option Value)) : Bool:= match x with
 | some none => true
 | _ => false
noncomputable def aH (K : Frag) (C fI : Addr) : Bool:= qe (K.lookup C) fun cd sl => sl6 sl fun n =>
 decide (cd.mro = [.ref C, .type "object"]) && decide (n = "object.__new__") && cd.hasDict && !cd.abstract && !cd.hasDel && nsOkIn K cd.ns && xR (nsIn K cd.ns "__getattribute__") && xR (nsIn K cd.ns "__setattr__") &&
    flds.all (fun a => xR (nsIn K cd.ns (nm a))) && jS (nsIn K cd.ns "__init__") fI
noncomputable def dZ (K : Frag) (C CE : Addr) (fI : Addr) : Bool:= qe (K.lookup C) fun cd sl => sl6 sl fun n =>
 decide (cd.mro = [.ref C, .ref CE, .type "Exception", .type "BaseException", .type "object"]) && decide (n = "Exception.__new__") && cd.hasDict && !cd.hasDel && nsOkIn K cd.ns && xR (nsIn K cd.ns "__setattr__") &&
    xR (nsIn K cd.ns "square") && xR (nsIn K cd.ns "text") && jS (nsIn K cd.ns "__init__") fI
noncomputable def cA (K : Frag) (CE : Addr) : Bool:= qe (K.lookup CE) fun cd sl => sl6 sl fun _ =>
 decide (cd.mro = [.ref CE, .type "Exception", .type "BaseException", .type "object"]) && !cd.hasDel && nsOkIn K cd.ns && xR (nsIn K cd.ns "__setattr__") && xR (nsIn K cd.ns "square") && xR (nsIn K cd.ns "text")
noncomputable def vOk : V -> Value -> Bool
 | .int i, .int j _ => decide (i = j)
 | .ref n, .ref a => match tuT[n]? with
  | some b => Nat.beq a b
  | none => false
 | _, _ => false
noncomputable def nz : List V -> List Value -> Bool
 | [], [] => true
 | x :: xs, v :: vs => vOk x v && nz xs vs
 | _, _ => false
noncomputable def oTup (o : O) (k : List V -> Bool) : Bool:= match o with | .tup xs => k xs | _ => false
theorem qc {e : O} {k : List V -> Bool} (h : oTup e k = true) : ∃ x, e = .tup x /\ k x = true:= by cases e <;> first | exact ⟨_, rfl, h⟩ | exact ff h
noncomputable def fj (K : Frag) (a : Addr) (o : O) : Bool := oTup o fun xs => oS (K.lookup a) fun x => decide (x.cls = .type "tuple") && dSeq x.data fun vs => nz xs vs.toList
noncomputable def km (K : Frag) (x : Nat) (v : V) : Bool:= match nsIn K mainGlobals (nm x) with
 | some (some u) => vOk v u
 | _ => false
noncomputable abbrev pw:= PySem.Challenge.pw_nt0444_01
noncomputable def viewQ : Program:= view pw [1, 2, 3, 5, 6, 8, 9, 10, 11, 12, 13, 14, 15, 16, 18, 19, 20, 22, 23, 24, 25, 26, 27, 28, 29, 30, 31, 32, 33, 34, 35, 36, 37, 38, 39, 40, 41, 43, 44, 45, 46, 47, 48, 49, 50, 51, 52, 53, 55, 56, 57, 58, 59, 60, 61, 62, 63, 64, 65, 66, 67, 68, 69, 70, 71, 72, 73]
noncomputable def goT (st : SharedT -> Thread -> Option (SharedT × Thread)) (ok : Thread -> Bool) : Nat -> SharedT -> Thread -> Option SharedT
 | 0, _, _ => none
 | n + 1, s, t => match through t with
  | true => some s
  | false => match ok t with
   | false => none
   | true => match st s t with
    | some (s', t') => goT st ok n s' t'
    | none => none
noncomputable def dD (h : List Obj) : BT:= (h.foldl (fun (T : BT × Nat) o => (T.1.ins T.2 o, T.2 + 1)) (.nil, 0)).1
noncomputable def dL (as : List Nat) (h : Heap) : Frag:= as.filterMap fun a => (h.get? a).map fun o => (a, o)
noncomputable def eC (K : Frag) (l : List (Nat × Fn)) : Bool:= l.all (fun p => match xI p.1 faT with | some a => qy K a p.2 | none => false)
noncomputable def kv (K : Frag) : Bool :=
 (tab.glb.all (fun p => km K p.1 p.2) &&
 (faT.all (fun p => mS p.1 || jS (nsIn K mainGlobals (nm p.1)) p.2) &&
 (caT.all (fun p => jS (nsIn K mainGlobals (nm p.1)) p.2) &&
 ([Blt.len, .list, .range, .sum, .max].all (fun k => xR (nsIn K mainGlobals (uV k))) &&
 (jS (nsIn K mainGlobals vU) cb &&
 (jS (nsIn K mainGlobals ("ChessError" : Str)) 52 &&
 (xR (nsIn K mainGlobals ("Exception" : Str)) &&
 (tab.inits.all (fun p => match xI p.1 caT, xI p.2 faT with | some C, some f => aH K C f | _, _ => false) &&
 (dZ K cb 52 69 &&
 (cA K 52 &&
 (sV K 69 ["self", "text", "square"] "ChessError" "square" "square" &&
 (sV K 49 ["self", "text"] "Exception" "text" "text" &&
 (readsIn K 52 (.type "type") && ((uH []).zip tuT).all (fun p => fj K p.2 p.1))))))))))))))
noncomputable def kS : List Nat:= [2, 3, 15, 17, 18, 20, 21, 22, 24, 25, 27, 28, 29, 31, 32, 34, 35, 36, 43, 45, 46, 48, 49, 50, 51, 52, 53, 56, 63, 65, 66, 68, 69, 70, 71, 72, 75, 77, 78, 80, 81, 82, 84, 85, 87, 88, 89, 91, 92, 94, 95, 103, 105, 106, 108, 109, 110, 111, 112, 113, 114, 117, 119, 120, 122, 123, 124, 126, 127, 129, 130, 138, 140, 141, 143, 144, 145, 146, 147, 148, 149, 152, 154, 155, 157, 158, 159, 161, 162, 164, 165, 166, 168, 169, 171, 172, 173, 175, 176, 178, 179, 180, 182, 183, 185, 186, 187, 189, 190, 192, 193, 194, 196, 197, 199, 200, 201, 203, 204, 206, 207, 208, 210, 211, 213, 214, 215, 217, 218, 220, 221, 222, 224, 225, 227, 228, 229, 231, 232, 234, 235, 236, 238, 239, 241, 242, 243, 245, 246, 248, 249, 250, 252, 253, 255, 256, 257, 259, 260, 262, 263, 264, 266, 267, 269, 270, 271, 273, 274, 276, 277, 278, 280, 281, 283, 284, 285, 286, 294, 296, 297, 299, 300, 301, 302, 303, 304, 305, 308, 310, 311, 313, 314, 315, 317, 318, 320, 321, 322, 324, 325, 327, 328, 329, 331, 332, 334, 335, 336, 338, 339, 341, 342, 343, 345, 346, 348, 349, 350, 352, 353, 355, 356, 357, 359, 360, 362, 363, 364, 366, 367, 369, 370, 371, 372, 374, 375, 377, 378, 379, 381, 382, 384, 385, 386, 389, 390, 391, 393, 394, 396, 397, 398, 401, 402, 403, 405, 406, 408, 409, 410, 413, 414, 415, 417, 418, 420, 421, 422, 425, 426, 427, 430, 431, 432, 434, 435, 437, 438, 439, 441, 442, 444, 445, 446, 448, 449, 451, 452, 453, 455, 456, 458, 459, 460, 462, 463, 465, 466, 467, 470, 471, 472, 475, 476]
noncomputable def qb (s : Shared) : Bool × Bool × Bool × Option (Option Value) × Option CFound := (eC (dL kS s.heap) (tab.fns.take 28), eC (dL kS s.heap) (tab.fns.drop 28), kv (dL kS s.heap), specialIn (dL kS s.heap) (.ref 52) "__getattribute__", findCls (dL kS s.heap) (.ref 52) (.type "type") "__init__")
noncomputable def gu (w : World) (os : OsState) : Option SharedT := (goT (Fast.tw10156331382660048174 (Fast.tw11892475500146522536 Fast.tw14364793385576792824) pw w) (Fast.tw6613529449190102663 11 ((boot_heap w.params).nsMap mainGlobals "__annotations__")) 6160 ⟨dD (boot_heap w.params).objs.toList, 11, (boot_heap w.params).life, Array.mk [], boot_drawn, boot_toks, os⟩ (topStub pw))
noncomputable def stB (w : World) (s : SharedT) : Bool:= staticsOk (importedModules pw.main.body) (boot_heap w.params) s.abs.heap && namesBound pw s.abs.heap && gensDone s.abs && laidKept (boot_heap w.params) s.abs.heap
noncomputable def twS (s : Shared):= Fast.tw4187177175401517315 viewQ [] (importedModules pw.main.body) (fun s => xlAt viewQ [] s && recOk (RowW.records PySem.Challenge.rw_nt0444_01.row.toRowW) s) true s
theorem ranA (w : World) (os : OsState) : (gu w os).map (fun s => (stB w s, (twS s.abs).1, (twS s.abs).2.1, (twS s.abs).2.2.1)) = some (true, expectedOf viewQ, bltViewBooted, true):= by kernel_rfl
theorem ranB (w : World) (os : OsState) : (gu w os).map (fun s => (twS s.abs).2.2.2) = some (true, pinGoodD (drecsOf viewQ), plainGoodE viewQ (looseW viewQ []), plainGoodD viewQ [], wideGood viewQ, clsGoodW viewQ []):= by kernel_rfl
theorem ranC (w : World) (os : OsState) : (gu w os).map (fun s => qb s.abs) = some (true, true, true, some (some (.builtin "type.__getattribute__")), some (.val (.ref 49))) := by kernel_rfl
theorem byG {P : Prop} (h : ∀ G : Prop, (P -> G) -> G) : P:= h P id
noncomputable abbrev Adr:= List (Addr × Addr)
noncomputable def RV (ρ : Adr) : V -> Value -> Prop
 | .none, v => v = .none
 | .bool b, v => v = .bool b
 | .int i, v => ∃ t, v = .int i t
 | .ref n, v => ∃ p, ρ[n]? = some p /\ v = .ref p.1
noncomputable def RVs (ρ : Adr) : List V -> List Value -> Prop
 | [], [] => True
 | x :: xs, v :: vs => RV ρ x v /\ RVs ρ xs vs
 | _, _ => False
noncomputable def ORel (ρ : Adr) : Option V -> Option Value -> Prop
 | some x, some v => RV ρ x v
 | .none, .none => True
 | _, _ => False
structure Base where
 hp : Heap
 cls : Nat -> Option Addr
 ad : Adr
 bad : Addr
 fn : Nat -> Option Addr
noncomputable def jQ : O -> Bool
 | .lst _ => true
 | .ins _ _ => true
 | _ => false
noncomputable def RO (B : Base) (ρ : Adr) (p : Addr × Addr) (h : Heap) : O -> Prop
 | .lst xs => p.2 = p.1 /\ ∃ vs ep, h.get? p.1 = some { cls := .type "list", dict := none, data := .seq vs.toArray ep, slots := #[] } /\ RVs ρ xs vs
 | .fro xs => ∃ vs, B.hp.IsList p.1 vs.toArray /\ RVs ρ xs vs
 | .tup xs => ∃ vs, IsTup h p.1 vs.toArray /\ RVs ρ xs vs
 | .rng a b c => ∃ t u v, IsRange h p.1 a b c t u v
 | .ins c fs => ∃ C mA, B.cls c = some C /\ h.Inst p.1 C mA /\ (∀ o, h.get? p.1 = some o -> o.dict = some p.2) /\ Within mA nmS /\ ∀ i, i < nmS.length -> ORel ρ (get i fs) (mA (nm i))
noncomputable def zR (ρ : Adr) (H : Hp) (b : Addr) : Prop:= ∃ (n : Nat) (p : Addr × Addr) (o : O), ρ[n]? = some p /\ H[n]? = some o /\ jQ o = true /\ (b = p.1 \/ b = p.2)
structure St (B : Base) (fr : List Addr) (ρ : Adr) (H : Hp) (h : Heap) : Prop where
 bk : ∀ b o, B.hp.get? b = some o -> h.get? b = some o
 len : ρ.length = H.length
 rep : ∀ (n : Nat) (p : Addr × Addr) (o : O), ρ[n]? = some p -> H[n]? = some o -> RO B ρ p h o
 apart : ∀ (n m : Nat) (p q : Addr × Addr) (o o' : O), ρ[n]? = some p -> ρ[m]? = some q -> H[n]? = some o -> H[m]? = some o' -> jQ o = true -> jQ o' = true -> n ≠ m ->
  p.1 ≠ q.1 /\ p.1 ≠ q.2 /\ p.2 ≠ q.1 /\ p.2 ≠ q.2
 mb : ∀ b, zR ρ H b -> B.hp.get? b = none
 im : ∀ (n : Nat) (p : Addr × Addr) (o : O), ρ[n]? = some p -> H[n]? = some o -> jQ o = false -> ¬ zR ρ H p.1
 frs : ∀ L ∈ fr, (∃ o, h.get? L = some o /\ ∀ vs, o.data ≠ .fields vs) /\ B.hp.get? L = none /\ ¬ zR ρ H L
 ini : ∀ (n : Nat) (p : Addr × Addr), B.ad[n]? = some p -> ρ[n]? = some p
theorem RV.mono {ρ ρ' : Adr} {x : V} {v : Value} (h : RV ρ x v) (he : ∃ more, ρ' = ρ ++ more) : RV ρ' x v:= by
 revert he; refine oE fun more t01 => ?_; obtain rfl:= t01
 cases x with
 | none => exact h
 | bool b => exact h
 | int i => exact h
 | ref n =>
  revert h; refine oEA fun p hp e => ?_
  refine ⟨p, ?_, e⟩
  rw [List.getElem?_append_left (List.getElem?_eq_some_iff.mp hp).1]; exact hp
theorem RVs.mono {ρ ρ' : Adr} (he : ∃ more, ρ' = ρ ++ more) : ∀ {xs : List V} {vs : List Value}, RVs ρ xs vs -> RVs ρ' xs vs
 | [], [], _ => trivial
 | _ :: _, _ :: _, h => ⟨h.1.mono he, RVs.mono he h.2⟩
 | [], _ :: _, h => h.elim
 | _ :: _, [], h => h.elim
theorem ORel.mono {ρ ρ' : Adr} {x : Option V} {v : Option Value} (h : ORel ρ x v) (he : ∃ more, ρ' = ρ ++ more) : ORel ρ' x v:= by
 cases x <;> cases v <;> first | exact h | exact RV.mono h he
theorem RVs.length {ρ : Adr} : ∀ {xs : List V} {vs : List Value}, RVs ρ xs vs -> vs.length = xs.length
 | [], [], _ => rfl
 | _ :: _, _ :: _, h => by simp [RVs.length h.2]
 | [], _ :: _, h => h.elim
 | _ :: _, [], h => h.elim
theorem RVs.append {ρ : Adr} : ∀ {xs ys : List V} {vs ws : List Value}, RVs ρ xs vs -> RVs ρ ys ws -> RVs ρ (xs ++ ys) (vs ++ ws)
 | [], _, [], _, _, h => h
 | _ :: _, _, _ :: _, _, h, h' => ⟨h.1, RVs.append h.2 h'⟩
 | [], _, _ :: _, _, h, _ => h.elim
 | _ :: _, _, [], _, h, _ => h.elim
theorem RVs.get {ρ : Adr} : ∀ {xs : List V} {vs : List Value} (_ : RVs ρ xs vs) {i : Nat} {x : V}, xs[i]? = some x -> ∃ v, vs[i]? = some v /\ RV ρ x v
 | [], [], _, _, _, e => by simp at e
 | x :: _, v :: _, h, 0, y, e => by simp at e; subst e; exact ⟨v, rfl, h.1⟩
 | _ :: _, _ :: _, h, i + 1, y, e => by simpa using RVs.get h.2 (by simpa using e)
 | [], _ :: _, h, _, _, _ => h.elim
 | _ :: _, [], h, _, _, _ => h.elim
theorem RVs.none {ρ : Adr} {xs : List V} {vs : List Value} (h : RVs ρ xs vs) {i : Nat} (e : xs[i]? = .none) : vs[i]? = .none:= by
 rw [List.getElem?_eq_none_iff] at e ⊢; rw [h.length]; exact e
theorem RVs.set {ρ : Adr} {y : V} {w : Value} (hy : RV ρ y w) : ∀ {xs : List V} {vs : List Value} (_ : RVs ρ xs vs) (i : Nat), RVs ρ (xs.set i y) (vs.set i w)
 | [], [], _, _ => trivial
 | _ :: _, _ :: _, h, 0 => ⟨hy, h.2⟩
 | _ :: _, _ :: _, h, i + 1 => ⟨h.1, RVs.set hy h.2 i⟩
 | [], _ :: _, h, _ => h.elim
 | _ :: _, [], h, _ => h.elim
theorem RVs.take {ρ : Adr} : ∀ {xs : List V} {vs : List Value} (_ : RVs ρ xs vs) (k : Nat), RVs ρ (xs.take k) (vs.take k)
 | _, _, _, 0 => by simp [RVs]
 | [], [], _, _ + 1 => trivial
 | _ :: _, _ :: _, h, k + 1 => ⟨h.1, RVs.take h.2 k⟩
 | [], _ :: _, h, _ => h.elim
 | _ :: _, [], h, _ => h.elim
theorem RVs.drop {ρ : Adr} : ∀ {xs : List V} {vs : List Value} (_ : RVs ρ xs vs) (k : Nat), RVs ρ (xs.drop k) (vs.drop k)
 | _, _, h, 0 => h
 | [], [], _, _ + 1 => trivial
 | _ :: _, _ :: _, h, k + 1 => RVs.drop h.2 k
 | [], _ :: _, h, _ => h.elim
 | _ :: _, [], h, _ => h.elim
theorem RVs.ints {ρ : Adr} : ∀ {xs : List V} {vs : List Value} {l : List Int}, RVs ρ xs vs -> jX xs = some l -> IntsAre vs l
 | [], [], l, _, e => by obtain rfl:= si e; exact .nil
 | x :: xs, v :: vs, l, h, e => by
  cases x with
  | int i =>
   simp only [jX] at e
   split at e
   ·
    rename_i l' hl
    obtain rfl:= si e
    refine oE (fun t t01 => ?_) h.1; obtain rfl:= t01
    exact .cons i t (RVs.ints h.2 hl)
   ·
    contradiction
  | _ => simp [jX] at e
 | [], _ :: _, _, h, _ => h.elim
 | _ :: _, [], _, h, _ => h.elim
theorem RO.mono {B : Base} {ρ ρ' : Adr} {p : Addr × Addr} {h : Heap} {o : O} (r : RO B ρ p h o) (he : ∃ more, ρ' = ρ ++ more) : RO B ρ' p h o:= by
 cases o with
 | lst xs => revert r; refine jC fun e vs ep h1 h2 => ?_; exact ⟨e, vs, ep, h1, h2.mono he⟩
 | fro xs => revert r; refine oEA fun vs h1 h2 => ?_; exact ⟨vs, h1, h2.mono he⟩
 | tup xs => revert r; refine oEA fun vs h1 h2 => ?_; exact ⟨vs, h1, h2.mono he⟩
 | rng a b c => exact r
 | ins c fs => revert r; refine yN fun C mA h1 h2 h3 h4 h5 => ?_; exact ⟨C, mA, h1, h2, h3, h4, fun i hi => (h5 i hi).mono he⟩
theorem qv {h h' : Heap} {x C : Addr} {mA : Str -> Option Value} {dx : Addr} (I : h.Inst x C mA) (hd : ∀ o, h.get? x = some o -> o.dict = some dx)
  (k : ∀ b o, (b = x \/ b = dx) -> h.get? b = some o -> h'.get? b = some o) : h'.Inst x C mA /\ ∀ o, h'.get? x = some o -> o.dict = some dx:= by
 revert I; refine vO fun o hx hc hn hr => ?_
 have hx':= k x o (.inl rfl) hx
 refine ⟨⟨o, hx', hc, hn, ?_⟩, fun o' ho' => ?_⟩
 ·
  rcases hr with ⟨e, _⟩ | ⟨d, e, hne, hns⟩
  ·
   rw [hd o hx] at e; contradiction
  ·
   have:= hd o hx; obtain rfl:= s2 e this
   exact .inr ⟨_, e, hne, hns.at fun o' ho' => k _ o' (.inr rfl) ho'⟩
 ·
  obtain rfl:= s2 hx' ho'; exact hd o hx
theorem RO.keep {B : Base} {ρ : Adr} {p : Addr × Addr} {h h' : Heap} {o o' : O} (r : RO B ρ p h o) (k : ∀ b o, (b = p.1 \/ (jQ o' = true /\ b = p.2)) -> h.get? b = some o -> h'.get? b = some o) (hm : o' = o) : RO B ρ p h' o:= by
 subst hm
 cases o' with
 | lst xs => revert r; refine jC fun e vs ep h1 h2 => ?_; exact ⟨e, vs, ep, k _ _ (.inl rfl) h1, h2⟩
 | fro xs => exact r
 | tup xs => revert r; refine oEA fun vs => oEA fun o h1 h1' h2 => ?_; exact ⟨vs, ⟨o, k _ _ (.inl rfl) h1, h1'⟩, h2⟩
 | rng a b c => revert r; refine fA fun t u v h1 => ?_; exact ⟨t, u, v, k _ _ (.inl rfl) h1⟩
 | ins c fs =>
  revert r; refine yN fun C mA h1 h2 h3 h4 h5 => ?_
  have q:= qv h2 h3 fun b o hb => k b o (hb.imp id fun e => ⟨rfl, e⟩)
  exact ⟨C, mA, h1, q.1, q.2, h4, h5⟩
structure Tr (B : Base) (fr : List Addr) (W : Addr -> Prop) (s s' : Shared) (ρ ρ' : Adr) (H H' : Hp) : Prop where
 ext : ∃ more, ρ' = ρ ++ more
 keep : ∀ b o, s.heap.get? b = some o -> ¬ zR ρ H b -> ¬ W b -> (b ∉ fr -> s'.heap.get? b = some o) /\ (b ∈ fr -> ∃ sl, s'.heap.get? b = some { o with slots:= sl })
 foot : ∀ b, zR ρ' H' b -> zR ρ H b \/ s.heap.get? b = none
 dom : ∀ b, s'.heap.get? b = none -> s.heap.get? b = none
 st : St B fr ρ' H' s'.heap
 gens : s'.gens = s.gens
 drawn : s'.drawn = s.drawn
 os : s'.os = s.os
theorem Tr.refl {B : Base} {fr : List Addr} {W : Addr -> Prop} {s : Shared} {ρ : Adr} {H : Hp} (x : St B fr ρ H s.heap) : Tr B fr W s s ρ ρ H H :=
 ⟨⟨[], by simp⟩, fun _ o e _ _ => ⟨fun _ => e, fun _ => ⟨o.slots, e⟩⟩, fun _ h => .inl h, fun _ h => h, x, rfl, rfl, rfl⟩
theorem Tr.trans {B : Base} {fr : List Addr} {W : Addr -> Prop} {s s' s'' : Shared} {ρ ρ' ρ'' : Adr} {H H' H'' : Hp} (x : Tr B fr W s s' ρ ρ' H H') (y : Tr B fr W s' s'' ρ' ρ'' H' H'') : Tr B fr W s s'' ρ ρ'' H H'':= by
 refine ⟨?_, fun b o e hf hw => ?_, fun b hb => ?_, fun b hb => x.dom b (y.dom b hb), y.st, y.gens.trans x.gens, y.drawn.trans x.drawn, y.os.trans x.os⟩
 ·
  refine oE (fun a t01 => ?_) x.ext; obtain rfl:= t01; refine oE (fun b t01 => ?_) y.ext; obtain rfl:= t01; exact ⟨a ++ b, by simp⟩
 ·
  have nf : ¬ zR ρ' H' b:= fun q => by
   refine oO (fun h => ?_) (fun h => ?_) (x.foot b q)
   ·
    exact hf h
   ·
    exact ns h e
  have k1:= x.keep b o e hf hw
  refine ⟨fun hb => ((y.keep b o (k1.1 hb) nf hw).1 hb), fun hb => ?_⟩
  refine oE (fun sl e1 => ?_) (k1.2 hb)
  refine oE (fun sl' e2 => ?_) ((y.keep b _ e1 nf hw).2 hb)
  exact ⟨sl', e2⟩
 ·
  refine oO (fun h => ?_) (fun h => ?_) (y.foot b hb)
  ·
   exact x.foot b h
  ·
   exact .inr (x.dom b h)
theorem Tr.weaken {B : Base} {fr : List Addr} {W W' : Addr -> Prop} {s s' : Shared} {ρ ρ' : Adr} {H H' : Hp} (x : Tr B fr W s s' ρ ρ' H H') (hw : ∀ b, (s.heap.get? b).isSome = true -> W b -> W' b) : Tr B fr W' s s' ρ ρ' H H' :=
 ⟨x.ext, fun b o e hf hn => x.keep b o e hf fun q => hn (hw b (by rw [e]; rfl) q), x.foot, x.dom, x.st, x.gens, x.drawn, x.os⟩
theorem St.same {B : Base} {fr : List Addr} {ρ : Adr} {H : Hp} {h h' : Heap} (x : St B fr ρ H h) (k : ∀ b o, h.get? b = some o -> (zR ρ H b \/ (∃ (n : Nat) (p : Addr × Addr) (o : O), ρ[n]? = some p /\ H[n]? = some o /\ jQ o = false /\ b = p.1)) -> h'.get? b = some o)
  (kb : ∀ b o, B.hp.get? b = some o -> h'.get? b = some o) (kf : ∀ L ∈ fr, ∀ o, h.get? L = some o -> (∀ vs, o.data ≠ .fields vs) -> ∃ o', h'.get? L = some o' /\ ∀ vs, o'.data ≠ .fields vs) : St B fr ρ H h':= by
 refine ⟨kb, x.len, fun n p o hp ho => (x.rep n p o hp ho).keep (fun b o' hb e => k b o' e ?_) rfl, x.apart, x.mb, x.im, fun L hL => ?_, x.ini⟩
 ·
  cases q : jQ o with
  | true => exact .inl ⟨n, p, o, hp, ho, q, hb.imp id fun z => z.2⟩
  | false =>
   rcases hb with rfl | ⟨z, _⟩
   ·
    exact .inr ⟨n, p, o, hp, ho, q, rfl⟩
   ·
    rw [q] at z; contradiction
 ·
  refine fl (x.frs L hL) <| oAA <| oEA fun o h1 h2 h3 h4 => ?_
  exact ⟨kf L hL o h1 h2, h3, h4⟩
section
variable {B : Base} {fr : List Addr} {W : Addr -> Prop} {s s' : Shared} {ρ : Adr} {H : Hp}
theorem tT (x : St B fr ρ H s.heap) {b : Addr} (h : zR ρ H b) : ∃ o, s.heap.get? b = some o:= by
 revert h; refine xZ fun n p o hp ho hm hb => ?_
 have r:= x.rep n p o hp ho
 cases o with
 | lst xs =>
  revert r; refine jC fun e vs ep h1 _ => ?_
  rcases hb with rfl | rfl
  ·
   exact ⟨_, h1⟩
  ·
   rw [e]; exact ⟨_, h1⟩
 | ins c fs =>
  revert r; refine qL fun C mA _ => vO fun o hx hc hn hr h3 _ => ?_
  rcases hb with rfl | rfl
  ·
   exact ⟨o, hx⟩
  ·
   rcases hr with ⟨e, _⟩ | ⟨d, e, hne, hns⟩
   ·
    rw [h3 o hx] at e; contradiction
   ·
    have:= h3 o hx; obtain rfl:= s2 e this
    revert hns; refine pS fun od _ _ q _ => ?_
    exact ⟨od, q⟩
 | fro xs => contradiction
 | tup xs => contradiction
 | rng a b c => contradiction
theorem kK (x : St B fr ρ H s.heap) {n : Nat} {p : Addr × Addr} {o : O} (hp : ρ[n]? = some p) (ho : H[n]? = some o) : ∃ o, s.heap.get? p.1 = some o:= by
 have r:= x.rep n p o hp ho
 cases o with
 | lst xs => revert r; refine jC fun e vs ep h1 _ => ?_; exact ⟨_, h1⟩
 | ins c fs => revert r; refine qL fun C mA _ => vO fun o hx hc hn hr h3 _ => ?_; exact ⟨o, hx⟩
 | fro xs => revert r; refine oEA fun vs => oEA fun o h1 _ _ => ?_; exact ⟨o, x.bk _ _ h1⟩
 | tup xs => revert r; refine oEA fun vs => oEA fun o h1 _ _ => ?_; exact ⟨o, h1⟩
 | rng a b c => revert r; refine fA fun t u v h1 => ?_; exact ⟨_, h1⟩
theorem xT (x : St B fr ρ H s.heap) (k : ∀ b o, s.heap.get? b = some o -> s'.heap.get? b = some o) (g : s'.gens = s.gens) (d : s'.drawn = s.drawn) (o : s'.os = s.os) : Tr B fr W s s' ρ ρ H H:= by
 refine ⟨⟨[], by simp⟩, fun b o e _ _ => ⟨fun _ => k b o e, fun _ => ⟨o.slots, k b o e⟩⟩, fun _ h => .inl h, fun b hb => ?_, ?_, g, d, o⟩
 ·
  cases q : s.heap.get? b with
  | none => rfl
  | some o => rw [k b o q] at hb; contradiction
 ·
  exact x.same (fun b o e _ => k b o e) (fun b o e => k b o (x.bk b o e)) fun L _ o e h => ⟨o, k L o e, h⟩
theorem jJ (x : St B fr ρ H s.heap) (e : s'.heap = s.heap) (g : s'.gens = s.gens) (d : s'.drawn = s.drawn) (o : s'.os = s.os) : Tr B fr W s s' ρ ρ H H :=
 xT x (fun _ _ q => by rw [e]; exact q) g d o
theorem xV {α : Type} {l : List α} {a b : α} {n : Nat} (h : (l ++ [a])[n]? = some b) : l[n]? = some b \/ (n = l.length /\ b = a):= by
 refine oO (fun q => ?_) (fun q => ?_) (Nat.lt_or_ge n l.length)
 ·
  rw [List.getElem?_append_left q] at h; exact .inl h
 ·
  rw [List.getElem?_append_right q] at h
  have : n - l.length = 0:= by
   cases z : n - l.length with
   | zero => rfl
   | succ k => rw [z] at h; simp at h
  rw [this] at h
  simp at h
  exact .inr ⟨by exact at37 q this, h.symm⟩
theorem qI (x : St B fr ρ H s.heap) {p : Addr × Addr} {o : O} (k : ∀ b o, s.heap.get? b = some o -> s'.heap.get? b = some o) (h1 : s.heap.get? p.1 = none) (h2 : s.heap.get? p.2 = none)
  (r : RO B (ρ ++ [p]) p s'.heap o) (g : s'.gens = s.gens) (d : s'.drawn = s.drawn) (os : s'.os = s.os) : Tr B fr W s s' ρ (ρ ++ [p]) H (H ++ [o]):= by
 have ft : ∀ b, zR (ρ ++ [p]) (H ++ [o]) b -> zR ρ H b \/ s.heap.get? b = none:= by
  refine fun b => xZ fun n q o' hq ho hm hb => ?_
  rcases xV hq with hq | ⟨hn, rfl⟩
  ·
   rcases xV ho with ho | ⟨hn, rfl⟩
   ·
    exact .inl ⟨n, q, o', hq, ho, hm, hb⟩
   ·
    have:= (List.getElem?_eq_some_iff.mp hq).1; rw [x.len] at this; exact gE this hn
  ·
   rcases hb with rfl | rfl
   ·
    exact .inr h1
   ·
    exact .inr h2
 have dm : ∀ b, s'.heap.get? b = none -> s.heap.get? b = none:= fun b hb => by
  cases q : s.heap.get? b with
  | none => rfl
  | some o => rw [k b o q] at hb; contradiction
 refine ⟨⟨[p], rfl⟩, fun b o e _ _ => ⟨fun _ => k b o e, fun _ => ⟨o.slots, k b o e⟩⟩, ft, dm, ?_, g, d, os⟩
 have old : ∀ {n : Nat} {q : Addr × Addr} {o' : O}, (ρ ++ [p])[n]? = some q -> (H ++ [o])[n]? = some o' -> (ρ[n]? = some q /\ H[n]? = some o') \/ (q = p /\ o' = o /\ n = H.length):= by
  intro n q o' hq ho
  rcases xV hq with hq | ⟨hn, rfl⟩
  ·
   rcases xV ho with ho | ⟨hn, rfl⟩
   ·
    exact .inl ⟨hq, ho⟩
   ·
    have:= (List.getElem?_eq_some_iff.mp hq).1; rw [x.len] at this; exact gE this hn
  ·
   rcases xV ho with ho | ⟨hn', rfl⟩
   ·
    have:= (List.getElem?_eq_some_iff.mp ho).1; rw [x.len] at hn; exact gE this hn
   ·
    exact .inr ⟨rfl, rfl, hn'⟩
 have dom1 : ∀ {n : Nat} {q : Addr × Addr} {o' : O}, ρ[n]? = some q -> H[n]? = some o' -> jQ o' = true -> q.1 ≠ p.1 /\ q.1 ≠ p.2 /\ q.2 ≠ p.1 /\ q.2 ≠ p.2:= by
  intro n q o' hq ho hm
  refine oE (fun o1 e1 => ?_) (tT x ⟨n, q, o', hq, ho, hm, .inl rfl⟩)
  refine oE (fun o2 e2 => ?_) (tT x ⟨n, q, o', hq, ho, hm, .inr rfl⟩)
  refine ⟨fun z => ?_, fun z => ?_, fun z => ?_, fun z => ?_⟩
  ·
   rw [z, h1] at e1; contradiction
  ·
   rw [z, h2] at e1; contradiction
  ·
   rw [z, h1] at e2; contradiction
  ·
   rw [z, h2] at e2; contradiction
 refine ⟨fun b o e => k b o (x.bk b o e), by simp [x.len], ?_, ?_, ?_, ?_, ?_, fun n q hq => by
  have:= x.ini n q hq
  rw [List.getElem?_append_left (List.getElem?_eq_some_iff.mp this).1]; exact this⟩
 ·
  intro n q o' hq ho
  rcases old hq ho with ⟨hq, ho⟩ | ⟨rfl, rfl, _⟩
  ·
   exact ((x.rep n q o' hq ho).mono ⟨[p], rfl⟩).keep (fun b o _ e => k b o e) rfl
  ·
   exact r
 ·
  intro n m q q' o1 o2 hq hq' ho ho' m1 m2 hne
  rcases old hq ho with ⟨a1, a2⟩ | ⟨a1, a2, hn⟩ <;> rcases old hq' ho' with ⟨b1, b2⟩ | ⟨b1, b2, hn'⟩
  ·
   exact x.apart n m q q' o1 o2 a1 b1 a2 b2 m1 m2 hne
  ·
   rw [b1]; exact dom1 a1 a2 m1
  ·
   have z:= dom1 b1 b2 m2
   rw [a1]
   exact ⟨fun e => z.1 e.symm, fun e => z.2.2.1 e.symm, fun e => z.2.1 e.symm, fun e => z.2.2.2 e.symm⟩
  ·
   exact absurd (hn.trans hn'.symm) hne
 ·
  intro b hb
  refine oO (fun q => ?_) (fun q => ?_) (ft b hb)
  ·
   exact x.mb b q
  ·
   cases z : B.hp.get? b with
   | none => rfl
   | some o => rw [x.bk b o z] at q; contradiction
 ·
  intro n q o' hq ho hm hf
  rcases old hq ho with ⟨hq, ho⟩ | ⟨rfl, rfl, hn⟩
  ·
   refine oO (fun z => ?_) (fun z => ?_) (ft _ hf)
   ·
    exact x.im n q o' hq ho hm z
   ·
    refine oE (fun o1 e1 => ?_) (kK x hq ho)
    exact ns z e1
  ·
   revert hf; refine xZ fun m q' o1 hq' ho' hm' hb => ?_
   rcases old hq' ho' with ⟨hq', ho'⟩ | ⟨rfl, rfl, _⟩
   ·
    have z:= dom1 hq' ho' hm'
    revert hb; refine oO (fun e => ?_) fun e => ?_
    ·
     exact z.1 e.symm
    ·
     exact z.2.2.1 e.symm
   ·
    rw [hm] at hm'; contradiction
 ·
  intro L hL
  refine fl (x.frs L hL) <| oAA <| oEA fun o' e1 e2 e3 e4 => ?_
  refine ⟨⟨o', k L o' e1, e2⟩, e3, fun hf => ?_⟩
  refine oO (fun z => ?_) (fun z => ?_) (ft L hf)
  ·
   exact e4 z
  ·
   exact ns z e1
theorem qx {α : Type} {l : List α} {a b : α} {n m : Nat} (h : (l.set n a)[m]? = some b) : (m = n /\ b = a /\ n < l.length) \/ (m ≠ n /\ l[m]? = some b):= by
 rw [List.getElem?_set] at h
 split at h
 ·
  rename_i e
  split at h
  ·
   rename_i hl
   left
   exact ⟨e.symm, (Option.some.inj h).symm, hl⟩
  ·
   contradiction
 ·
  rename_i e
  right
  exact ⟨Ne.symm e, h⟩
theorem sO (x : St B fr ρ H s.heap) {n : Nat} {p : Addr × Addr} {o o' : O} (hp : ρ[n]? = some p) (ho : H[n]? = some o) (hm : jQ o = true) (hm' : jQ o' = true)
  (k : ∀ b o, b ≠ p.1 -> b ≠ p.2 -> s.heap.get? b = some o -> s'.heap.get? b = some o) (r : RO B ρ p s'.heap o')
  (g : s'.gens = s.gens) (d : s'.drawn = s.drawn) (os : s'.os = s.os) : Tr B fr W s s' ρ ρ H (H.set n o'):= by
 have hn : n < H.length:= (List.getElem?_eq_some_iff.mp ho).1
 have old : ∀ {m : Nat} {q : Addr × Addr} {o1 : O}, ρ[m]? = some q -> (H.set n o')[m]? = some o1 -> (m ≠ n /\ H[m]? = some o1) \/ (m = n /\ q = p /\ o1 = o'):= by
  intro m q o1 hq h1
  rcases qx h1 with ⟨rfl, rfl, _⟩ | ⟨hne, h1⟩
  ·
   rw [hp] at hq; exact .inr ⟨rfl, (Option.some.inj hq).symm, rfl⟩
  ·
   exact .inl ⟨hne, h1⟩
 have ft : ∀ b, zR ρ (H.set n o') b ↔ zR ρ H b:= by
  intro b
  constructor
  ·
   refine xZ fun m q o1 hq h1 hmm hb => ?_
   rcases old hq h1 with ⟨_, h1⟩ | ⟨rfl, rfl, rfl⟩
   ·
    exact ⟨m, q, o1, hq, h1, hmm, hb⟩
   ·
    exact ⟨m, q, o, hq, ho, hm, hb⟩
  ·
   refine xZ fun m q o1 hq h1 hmm hb => ?_
   by_cases e : m = n
   ·
    subst e
    obtain rfl:= s2 hp hq
    exact ⟨m, p, o', hp, by simp [hn], hm', hb⟩
   ·
    exact ⟨m, q, o1, hq, by rw [List.getElem?_set_ne (Ne.symm e)]; exact h1, hmm, hb⟩
 have fp1 : zR ρ H p.1:= ⟨n, p, o, hp, ho, hm, .inl rfl⟩
 have fp2 : zR ρ H p.2:= ⟨n, p, o, hp, ho, hm, .inr rfl⟩
 have kk : ∀ b o, s.heap.get? b = some o -> ¬ zR ρ H b -> s'.heap.get? b = some o:= fun b o e hf => k b o (fun z => hf (z ▸ fp1)) (fun z => hf (z ▸ fp2)) e
 have ap : ∀ {m : Nat} {q : Addr × Addr} {o1 : O}, ρ[m]? = some q -> H[m]? = some o1 -> m ≠ n -> (q.1 ≠ p.1 /\ q.1 ≠ p.2) /\ (jQ o1 = true -> q.2 ≠ p.1 /\ q.2 ≠ p.2):= by
  intro m q o1 hq h1 hne
  cases z : jQ o1 with
  | true => have:= x.apart m n q p o1 o hq hp h1 ho z hm hne; exact ⟨⟨this.1, this.2.1⟩, fun _ => this.2.2⟩
  | false =>
   have:= x.im m q o1 hq h1 z
   exact ⟨⟨fun e => this (e ▸ fp1), fun e => this (e ▸ fp2)⟩, fun e => by contradiction⟩
 refine ⟨⟨[], by simp⟩, fun b o e hf _ => ⟨fun _ => kk b o e hf, fun _ => ⟨o.slots, kk b o e hf⟩⟩, fun b hb => .inl ((ft b).mp hb), fun b hb => ?_, ?_, g, d, os⟩
 ·
  cases q : s.heap.get? b with
  | none => rfl
  | some ob =>
   by_cases h1 : b = p.1 \/ b = p.2
   ·
    exfalso
    cases o' with
    | lst xs =>
     revert r; refine jC fun e vs ep h2 _ => ?_
     rcases h1 with rfl | rfl
     ·
      exact ns hb h2
     ·
      rw [e, h2] at hb; contradiction
    | ins c fs =>
     revert r; refine qL fun C mA _ => vO fun o1 hx hc hn hr h3 _ => ?_
     rcases h1 with rfl | rfl
     ·
      exact ns hb hx
     ·
      rcases hr with ⟨e, _⟩ | ⟨d, e, hne, hns⟩
      ·
       rw [h3 o1 hx] at e; contradiction
      ·
       have:= h3 o1 hx; obtain rfl:= s2 e this
       revert hns; refine pS fun od _ _ q' _ => ?_
       exact ns hb q'
    | fro xs => contradiction
    | tup xs => contradiction
    | rng a b c => contradiction
   ·
    rw [k b ob (fun z => h1 (.inl z)) (fun z => h1 (.inr z)) q] at hb; contradiction
 ·
  refine ⟨fun b o e => kk b o (x.bk b o e) (fun hf => by rw [x.mb b hf] at e; contradiction), by simp [x.len], ?_, ?_, fun b hb => x.mb b ((ft b).mp hb), ?_, ?_, x.ini⟩
  ·
   intro m q o1 hq h1
   rcases old hq h1 with ⟨hne, h1⟩ | ⟨rfl, rfl, rfl⟩
   ·
    have a:= ap hq h1 hne
    exact (x.rep m q o1 hq h1).keep (fun b ob hb e => k b ob (by rcases hb with rfl | ⟨z, rfl⟩; exact a.1.1; exact (a.2 z).1) (by rcases hb with rfl | ⟨z, rfl⟩; exact a.1.2; exact (a.2 z).2) e) rfl
   ·
    exact r
  ·
   intro m m' q q' o1 o2 hq hq' h1 h2 m1 m2 hne
   have f1 : ∃ o1', H[m]? = some o1' /\ jQ o1' = true:= by
    rcases old hq h1 with ⟨_, h1⟩ | ⟨rfl, rfl, rfl⟩
    ·
     exact ⟨o1, h1, m1⟩
    ·
     exact ⟨o, ho, hm⟩
   have f2 : ∃ o2', H[m']? = some o2' /\ jQ o2' = true:= by
    rcases old hq' h2 with ⟨_, h2⟩ | ⟨rfl, rfl, rfl⟩
    ·
     exact ⟨o2, h2, m2⟩
    ·
     exact ⟨o, ho, hm⟩
   revert f1; refine oEA fun o1' a1 a2 => ?_
   revert f2; refine oEA fun o2' b1 b2 => ?_
   exact x.apart m m' q q' o1' o2' hq hq' a1 b1 a2 b2 hne
  ·
   intro m q o1 hq h1 hmm hf
   rcases old hq h1 with ⟨hne, h1⟩ | ⟨rfl, rfl, rfl⟩
   ·
    exact x.im m q o1 hq h1 hmm ((ft _).mp hf)
   ·
    rw [hm'] at hmm; contradiction
  ·
   intro L hL
   refine fl (x.frs L hL) <| oAA <| oEA fun ob e1 e2 e3 e4 => ?_
   exact ⟨⟨ob, kk L ob e1 e4, e2⟩, e3, fun hf => e4 ((ft L).mp hf)⟩
end
noncomputable def Off (ρ : Adr) (H : Hp) (a : Addr) : Prop:= ¬ zR ρ H a /\ ∀ (n : Nat) (p : Addr × Addr), ρ[n]? = some p -> p.1 ≠ a
noncomputable def XC (B : Base) (L : Addr) (ρ : Adr) (H : Hp) (s s' : Shared) (e : Value) : Prop :=
 ∃ (a : Addr) (oe : Obj) (vs : Array Value) (a0 : Value), e = .ref a /\ s.heap.get? a = none /\ s'.heap.get? a = some oe /\ oe.cls = .ref B.bad /\ oe.data = .fields vs /\ vs[0]? = some a0 /\ Off ρ H a /\
  (vs[1]? = some .none \/ ∃ (T : Addr) (oT : Obj) (ts : Array Value), vs[1]? = some (.ref T) /\ T ≠ a /\ s.heap.get? T = none /\ s'.heap.get? T = some oT /\ oT.data = .fields ts /\ Off ρ H T /\ (ts[3]? = some .none \/ ts[3]? = some (rawInt L)))
section
variable (prog : Program) (w : World) (B : Base) (A : Around) (fr : List Addr) (L : Addr) (W : Addr -> Prop)
noncomputable def Does {α β : Type} (t : Sem β) (s : Shared) (ρ : Adr) (H : Hp) (m : Mo α) (rel : Adr -> Hp -> α -> β -> Shared -> Prop) : Prop :=
 match m H with
 | .ok a H' => wpAny (model prog w) A t (fun b s' => ∃ ρ', Tr B fr W s s' ρ ρ' H H' /\ rel ρ' H' a b s') (fun _ _ => False) s
 | .exc H' => wpAny (model prog w) A t (fun _ _ => False) (fun e s' => ∃ ρ', Tr B fr W s s' ρ ρ' H H' /\ XC B L ρ' H' s s' e) s
 | .fail => True
end
section
variable {prog : Program} {w : World} {B : Base} {A : Around} {fr : List Addr} {L : Addr} {W : Addr -> Prop} {s : Shared} {ρ : Adr} {H : Hp} {α β γ δ : Type}
theorem XC.back {s' s'' : Shared} {e : Value} {ρ' ρ'' : Adr} {H' H'' : Hp} (x : XC B L ρ'' H'' s' s'' e) (t : Tr B fr W s s' ρ ρ' H H') : XC B L ρ'' H'' s s'' e:= by
 revert x; refine vS fun a oe vs a0 e1 e2 => wG fun e3 e4 e5 e6 e8 e7 => ?_
 refine ⟨a, oe, vs, a0, e1, t.dom a e2, e3, e4, e5, e6, e8, e7.imp id ?_⟩
 refine xZ fun T oT ts f1 f2 f3 f4 => ?_
 exact ⟨T, oT, ts, f1, f2, t.dom T f3, f4⟩
theorem Does.fail {t : Sem β} {m : Mo α} {rel : Adr -> Hp -> α -> β -> Shared -> Prop} (h : m H = .fail) : Does prog w B A fr L W t s ρ H m rel:= by
 unfold Does; rw [h]; trivial
theorem Does.ok {t : Sem β} {m : Mo α} {rel : Adr -> Hp -> α -> β -> Shared -> Prop} {a : α} {H' : Hp} (h : m H = .ok a H')
  (k : wpAny (model prog w) A t (fun b s' => ∃ ρ', Tr B fr W s s' ρ ρ' H H' /\ rel ρ' H' a b s') (fun _ _ => False) s) : Does prog w B A fr L W t s ρ H m rel:= by
 unfold Does; rw [h]; exact k
theorem Does.exc {t : Sem β} {m : Mo α} {rel : Adr -> Hp -> α -> β -> Shared -> Prop} {H' : Hp} (h : m H = .exc H')
  (k : wpAny (model prog w) A t (fun _ _ => False) (fun e s' => ∃ ρ', Tr B fr W s s' ρ ρ' H H' /\ XC B L ρ' H' s s' e) s) : Does prog w B A fr L W t s ρ H m rel:= by
 unfold Does; rw [h]; exact k
theorem Does.eq {t : Sem β} {m m' : Mo α} {rel : Adr -> Hp -> α -> β -> Shared -> Prop} (h : Does prog w B A fr L W t s ρ H m rel) (e : m' H = m H) : Does prog w B A fr L W t s ρ H m' rel:= by
 unfold Does at h ⊢; rw [e]; exact h
theorem Does.pur {a : α} {b : β} {rel : Adr -> Hp -> α -> β -> Shared -> Prop} (x : St B fr ρ H s.heap) (h : rel ρ H a b s) : Does prog w B A fr L W (pure b) s ρ H (ret a) rel :=
 Does.ok rfl (wpAny_pure ⟨ρ, Tr.refl x, h⟩)
theorem Does.conv {t t' : Sem β} {m : Mo α} {rel : Adr -> Hp -> α -> β -> Shared -> Prop} (h : Does prog w B A fr L W t s ρ H m rel)
  (c : ∀ (Q : β -> Shared -> Prop) (E : Value -> Shared -> Prop), wpAny (model prog w) A t Q E s -> wpAny (model prog w) A t' Q E s) : Does prog w B A fr L W t' s ρ H m rel:= by
 unfold Does at h ⊢
 cases e : m H with
 | ok a H' => rw [e] at h; exact c _ _ h
 | exc H' => rw [e] at h; exact c _ _ h
 | fail => trivial
theorem Does.mono {t : Sem β} {m : Mo α} {rel rel' : Adr -> Hp -> α -> β -> Shared -> Prop} (h : Does prog w B A fr L W t s ρ H m rel)
  (k : ∀ a b ρ' H' s', Tr B fr W s s' ρ ρ' H H' -> rel ρ' H' a b s' -> rel' ρ' H' a b s') : Does prog w B A fr L W t s ρ H m rel':= by
 unfold Does at h ⊢
 cases e : m H with
 | ok a H' => rw [e] at h; exact wpAny_mono h (fun b s' => oEA fun ρ' x y => ⟨ρ', x, k _ _ _ _ _ x y⟩) fun _ _ z => z
 | exc H' => rw [e] at h; exact h
 | fail => trivial
theorem Does.weaken {t : Sem β} {m : Mo α} {W' : Addr -> Prop} {rel : Adr -> Hp -> α -> β -> Shared -> Prop} (h : Does prog w B A fr L W t s ρ H m rel)
  (hw : ∀ b, (s.heap.get? b).isSome = true -> W b -> W' b) : Does prog w B A fr L W' t s ρ H m rel:= by
 unfold Does at h ⊢
 cases e : m H with
 | ok a H' => rw [e] at h; exact wpAny_mono h (fun b s' => oEA fun ρ' x y => ⟨ρ', x.weaken hw, y⟩) fun _ _ z => z
 | exc H' => rw [e] at h; exact wpAny_mono h (fun _ _ z => z) fun _ _ => oEA fun ρ' x y => ⟨ρ', x.weaken hw, y⟩
 | fail => trivial
theorem Does.bind {m : Mo α} {f : α -> Mo γ} {t : Sem β} {g : β -> Sem δ} {rel : Adr -> Hp -> α -> β -> Shared -> Prop} {rel' : Adr -> Hp -> γ -> δ -> Shared -> Prop}
  (h : Does prog w B A fr L W t s ρ H m rel)
  (k : ∀ a b ρ' H' s', Tr B fr W s s' ρ ρ' H H' -> rel ρ' H' a b s' -> Does prog w B A fr L W (g b) s' ρ' H' (f a) rel') :
  Does prog w B A fr L W (t >>= g) s ρ H (bnd m f) rel':= by
 unfold Does at h ⊢
 unfold bnd
 cases e : m H with
 | fail => trivial
 | exc H' => rw [e] at h; exact wpAny_bind (wpAny_mono h (fun _ _ z => z.elim) fun _ _ z => z)
 | ok a H' =>
  rw [e] at h
  dsimp only at h ⊢
  unfold Does at k
  cases e2 : f a H' with
  | fail => trivial
  | ok c H'' =>
   refine wpAny_bind (wpAny_mono h (fun b s' z => ?_) fun _ _ z => z.elim)
   revert z; refine oEA fun ρ' x y => ?_
   have q:= k a b ρ' H' s' x y
   rw [e2] at q
   exact wpAny_mono q (fun b s'' => oEA fun ρ'' x' y' => ⟨ρ'', x.trans x', y'⟩) fun _ _ z => z
  | exc H'' =>
   refine wpAny_bind (wpAny_mono h (fun b s' z => ?_) fun _ _ z => z.elim)
   revert z; refine oEA fun ρ' x y => ?_
   have q:= k a b ρ' H' s' x y
   rw [e2] at q
   exact wpAny_mono q (fun _ _ z => z) fun _ _ => oEA fun ρ'' x' y' => ⟨ρ'', x.trans x', y'.back x⟩
theorem Does.skip {t : Sem β} {g : β -> Sem δ} {m : Mo γ} {P : β -> Shared -> Prop} {rel' : Adr -> Hp -> γ -> δ -> Shared -> Prop} (x : St B fr ρ H s.heap)
  (h : wpAny (model prog w) A t (fun b s' => Tr B fr W s s' ρ ρ H H /\ P b s') (fun _ _ => False) s)
  (k : ∀ b s', Tr B fr W s s' ρ ρ H H -> P b s' -> Does prog w B A fr L W (g b) s' ρ H m rel') : Does prog w B A fr L W (t >>= g) s ρ H m rel':= by
 have h1 : Does prog w B A fr L W t s ρ H (ret ()) (fun ρ' H' _ b s' => (ρ' = ρ /\ H' = H) /\ P b s') :=
  Does.ok rfl (wpAny_mono h (fun b s' z => ⟨ρ, z.1, ⟨rfl, rfl⟩, z.2⟩) fun _ _ z => z)
 exact Does.bind (f:= fun _ => m) h1 fun _ b ρ' H' s' tr z => by
  revert z; refine oA <| oA fun t10 t11 hp => ?_; obtain rfl:= t10; obtain rfl:= t11
  exact k b s' tr hp
theorem Does.at {q : Pos} {u : Sem β} {m : Mo α} {rel : Adr -> Hp -> α -> β -> Shared -> Prop} (h : Does prog w B A fr L W u s ρ H m rel) : Does prog w B A fr L W (standAt q >>= fun _ => u) s ρ H m rel :=
 h.conv fun _ _ z => wpAny_bind (wpAny_standAt z)
theorem Does.hold {vs : List Value} {u : Sem β} {m : Mo α} {rel : Adr -> Hp -> α -> β -> Shared -> Prop} (h : Does prog w B A fr L W u s ρ H m rel) : Does prog w B A fr L W (holding vs u) s ρ H m rel :=
 h.conv fun _ _ z => wpAny_holding z
theorem Does.operate {vs : List Value} {u : Sem Value} {m : Mo α} {rel : Adr -> Hp -> α -> Value -> Shared -> Prop} (h : Does prog w B A fr L W u s ρ H m rel) : Does prog w B A fr L W (operate vs u) s ρ H m rel :=
 h.conv fun _ _ z => wpAny_operate' z
structure EnvI (B : Base) (env : Env) (l : Loc) (ρ : Adr) (H : Hp) (s : Shared) : Prop where
 kind : env.scope.kind = .function
 glob : env.globals = mainGlobals
 bui : env.builtins = builtinsNs
 ns : ∃ m, s.heap.Ns env.locals m /\ ∀ i, i < nmS.length -> env.kindOf (nm i) = some .local -> ORel ρ (get i l) (m (nm i))
 nf : ¬ zR ρ H env.locals
 nb : B.hp.get? env.locals = none
 cells : ∀ i, i < nmS.length -> (env.kindOf (nm i) = some .cell \/ env.kindOf (nm i) = some .free) ->
  ∃ c v, env.cells.lookup (nm i) = some c /\ s.heap.IsCell c v /\ ORel ρ (get i l) v /\ ¬ zR ρ H c /\ B.hp.get? c = none
 inj : ∀ i j c, i < nmS.length -> j < nmS.length -> env.cells.lookup (nm i) = some c -> env.cells.lookup (nm j) = some c -> i = j
theorem IsCell.mono {h h' : Heap} {c : Addr} {v : Option Value} (x : h.IsCell c v) (k : ∀ o, h.get? c = some o -> ∃ o', h'.get? c = some o' /\ o'.data = o.data) : h'.IsCell c v:= by
 revert x; refine oEA fun o ho hd => ?_
 refine oEA (fun o' h1 h2 => ?_) (k o ho)
 exact ⟨o', h1, h2.trans hd⟩
theorem Ns.mono {h h' : Heap} {c : Addr} {m : Str -> Option Value} (x : h.Ns c m) (k : ∀ o, h.get? c = some o -> ∃ o', h'.get? c = some o' /\ o'.data = o.data) : h'.Ns c m:= by
 revert x; refine jN fun o es ep ho hd r => ?_
 refine oEA (fun o' h1 h2 => ?_) (k o ho)
 exact ⟨o', es, ep, h1, h2.trans hd, r⟩
theorem Tr.data {s' : Shared} {ρ' : Adr} {H' : Hp} (t : Tr B fr W s s' ρ ρ' H H') {b : Addr} (hf : ¬ zR ρ H b) (hw : ¬ W b) : ∀ o, s.heap.get? b = some o -> ∃ o', s'.heap.get? b = some o' /\ o'.data = o.data:= by
 intro o e
 have k:= t.keep b o e hf hw
 by_cases q : b ∈ fr
 ·
  refine oE (fun sl h => ?_) (k.2 q); exact ⟨_, h, rfl⟩
 ·
  exact ⟨o, k.1 q, rfl⟩
theorem Tr.nfoot {s' : Shared} {ρ' : Adr} {H' : Hp} (t : Tr B fr W s s' ρ ρ' H H') {b : Addr} {o : Obj} (hf : ¬ zR ρ H b) (e : s.heap.get? b = some o) : ¬ zR ρ' H' b:= fun q => by
 refine oO (fun h => ?_) (fun h => ?_) (t.foot b q)
 ·
  exact hf h
 ·
  exact ns h e
noncomputable def zE : Addr -> Prop:= fun _ => False
noncomputable def Own (env : Env) : Addr -> Prop:= fun b => b = env.locals \/ ∃ i, i < nmS.length /\ env.kindOf (nm i) = some .cell /\ env.cells.lookup (nm i) = some b
theorem EnvI.tr {env : Env} {l : Loc} {s' : Shared} {ρ' : Adr} {H' : Hp} (x : EnvI B env l ρ H s) (t : Tr B fr zE s s' ρ ρ' H H') : EnvI B env l ρ' H' s':= by
 refine oEA (fun m hn hm => ?_) x.ns
 refine ⟨x.kind, x.glob, x.bui, ⟨m, Ns.mono hn (t.data x.nf id), fun i hi hk => (hm i hi hk).mono t.ext⟩, ?_, x.nb, fun i hi hk => ?_, x.inj⟩
 ·
  revert hn; refine pS fun o _ _ ho _ => ?_
  exact t.nfoot x.nf ho
 ·
  refine yN (fun c v h1 h2 h3 h4 h5 => ?_) (x.cells i hi hk)
  refine ⟨c, v, h1, IsCell.mono h2 (t.data h4 id), h3.mono t.ext, ?_, h5⟩
  revert h2; refine oEA fun o ho _ => ?_
  exact t.nfoot h4 ho
end
noncomputable abbrev relV : Adr -> Hp -> V -> Value -> Shared -> Prop:= fun ρ' _ v b _ => RV ρ' v b
noncomputable abbrev relU : Adr -> Hp -> Unit -> Unit -> Shared -> Prop:= fun _ _ _ _ _ => True
noncomputable abbrev relB : Adr -> Hp -> Bool -> Value -> Shared -> Prop:= fun _ _ a b _ => b = .bool a
noncomputable abbrev relT : Adr -> Hp -> Bool -> Bool -> Shared -> Prop:= fun _ _ a b _ => b = a
noncomputable abbrev relVs : Adr -> Hp -> List V -> List Value -> Shared -> Prop:= fun ρ' _ v b _ => RVs ρ' v b
section
variable {prog : Program} {w : World} {B : Base} {A : Around} {fr : List Addr} {L : Addr} {W : Addr -> Prop} {s : Shared} {ρ : Adr} {H : Hp}
theorem tM {a : Int} (h : small a = true) : Builtin.Int.intBits a <= 64:= by
 unfold small at h
 have:= dTr h
 exact intBits_le_64 (Int.lt_trans (by decide) (bdn this).1) (Int.lt_trans (bdn this).2 (by decide))
theorem sP {a b : Int} (h : small b = true) : Builtin.divisionGoesByPylong a b = false:= by
 unfold small at h
 have hb:= dTr h
 unfold Builtin.divisionGoesByPylong
 have : b.natAbs.log2 < 60:= by
  by_cases z : b.natAbs = 0
  ·
   rw [z]; decide
  ·
   exact (Nat.log2_lt z).mpr hb
 have d : (if b == 0 then 0 else b.natAbs.log2 / 30 + 1) <= 300:= by split <;> lia
 simp only [Bool.and_eq_false_iff]
 left
 exact eFa (by exact mh d)
theorem gb {a n : Int} (h0 : 0 <= a) (hn : 0 <= n) (hb : n ≥ ((Builtin.Int.intBits a : Nat) : Int)) : a.fdiv (2 ^ n.toNat) = (if a < 0 then -1 else 0):= by
 rw [if_neg (by exact cL h0)]
 refine oE (fun k t01 => ?_) (Int.eq_ofNat_of_zero_le h0); obtain rfl:= t01
 refine oE (fun m t01 => ?_) (Int.eq_ofNat_of_zero_le hn); obtain rfl:= t01
 have lt : k < 2 ^ m:= by
  unfold Builtin.Int.intBits at hb
  by_cases z : k = 0
  ·
   subst z; exact Nat.two_pow_pos m
  ·
   have e : ((k : Int) == 0) = false:= by simpa using z
   rw [e] at hb
   simp only [Bool.false_eq_true, if_false, Int.natAbs_natCast] at hb
   have h1 : k < 2 ^ (k.log2 + 1):= Nat.lt_log2_self
   exact Nat.lt_of_lt_of_le h1 (Nat.pow_le_pow_right (by decide) (by exact ar84 hb))
 rw [show ((m : Int)).toNat = m from rfl]
 rw [show ((2 : Int) ^ m) = ((2 ^ m : Nat) : Int) from by simp]
 rw [Int.fdiv_eq_ediv_of_nonneg _ (by exact zK)]
 exact Int.ediv_eq_zero_of_lt (by exact h0) (by exact_mod_cast lt)
theorem iop_wp {o : BOp} {a b c : Int} {t u : Tok} {Q : Value -> Shared -> Prop} {E : Value -> Shared -> Prop} (h : iop o a b = some c) (k : Q (.int c s.toks) { s with toks:= s.toks + 1 }) :
  wpAny (model prog w) A (binaryOp (qC o) (.int a t) (.int b u)) Q E s:= by
 cases o with
 | add => obtain rfl:= si h; exact add_int k
 | sub => obtain rfl:= si h; exact sub_int k
 | mul =>
  simp only [iop] at h
  cases z : (small a || small b) with
  | false => rw [z] at h; contradiction
  | true =>
   rw [z] at h; obtain rfl:= si h
   rw [Bool.or_eq_true] at z
   exact mul_int k (z.elim (fun q => IntMulOk.of_left (tM q)) fun q => IntMulOk.of_right (tM q))
 | fdiv =>
  simp only [iop] at h
  cases z : ((!decide (b = 0)) && small b) with
  | false => rw [z] at h; contradiction
  | true =>
   rw [z] at h; obtain rfl:= si h
   rw [Bool.and_eq_true, Bool.not_eq_true', decide_eq_false_iff_not] at z
   exact floordiv_int z.1 k (.inl (sP z.2))
 | mod =>
  simp only [iop] at h
  cases z : (!decide (b = 0)) with
  | false => rw [z] at h; contradiction
  | true =>
   rw [z] at h; obtain rfl:= si h
   rw [Bool.not_eq_true', decide_eq_false_iff_not] at z
   exact mod_int' z k
 | shl =>
  simp only [iop] at h
  cases z : (decide (0 <= b) && decide (b <= 1000000) && small a) with
  | false => rw [z] at h; contradiction
  | true =>
   rw [z] at h; obtain rfl:= si h
   simp only [Bool.and_eq_true, decide_eq_true_eq] at z
   have:= z.2
   unfold small at this
   exact lshift_int_small z.1.1 z.1.2 (by have:= dTr this; exact oF this rfl) k
 | shr =>
  simp only [iop] at h
  cases z : (decide (0 <= a) && decide (0 <= b) && small b) with
  | false => rw [z] at h; contradiction
  | true =>
   rw [z] at h; obtain rfl:= si h
   simp only [Bool.and_eq_true, decide_eq_true_eq] at z
   by_cases q : b ≥ ((Builtin.Int.intBits a : Nat) : Int)
   ·
    rw [gb z.1.1 z.1.2 q] at k
    exact AutoIntOps.rshift_1 (by exact cL z.1.2) q k
   ·
    exact AutoIntOps.rshift_2 (by exact cL z.1.2) q k
 | and => obtain rfl:= si h; exact and_int k
 | or => obtain rfl:= si h; exact or_int k
 | xor => obtain rfl:= si h; exact xor_int k
theorem qw {o : BOp} {a b c : Int} {t u : Tok} {Q : Value -> Shared -> Prop} {E : Value -> Shared -> Prop} (h : aop o a b = some c) (k : Q (.int c s.toks) { s with toks:= s.toks + 1 }) :
  wpAny (model prog w) A (inplaceOp (qC o) (.int a t) (.int b u)) Q E s:= by
 cases o with
 | add => obtain rfl:= si h; exact AutoIntOps.iadd_0 k
 | sub => obtain rfl:= si h; exact AutoIntOps.isub_0 k
 | mul =>
  simp only [aop, iop] at h
  cases z : (small a || small b) with
  | false => rw [z] at h; contradiction
  | true =>
   rw [z] at h; obtain rfl:= si h
   rw [Bool.or_eq_true] at z
   exact AutoIntOps.imul_0 k (z.elim (fun q => IntMulOk.of_left (tM q)) fun q => IntMulOk.of_right (tM q))
 | fdiv =>
  simp only [aop, iop] at h
  cases z : ((!decide (b = 0)) && small b) with
  | false => rw [z] at h; contradiction
  | true =>
   rw [z] at h; obtain rfl:= si h
   rw [Bool.and_eq_true, Bool.not_eq_true', decide_eq_false_iff_not] at z
   exact AutoIntOps.ifloordiv_1 (by simpa using z.1) (by rw [sP z.2]; decide) k
 | mod =>
  simp only [aop, iop] at h
  cases z : (!decide (b = 0)) with
  | false => rw [z] at h; contradiction
  | true =>
   rw [z] at h; obtain rfl:= si h
   rw [Bool.not_eq_true', decide_eq_false_iff_not] at z
   exact AutoIntOps.imod_1 (by simpa using z) k
 | shl => contradiction
 | shr =>
  simp only [aop, iop] at h
  cases z : (decide (0 <= a) && decide (0 <= b) && small b) with
  | false => rw [z] at h; contradiction
  | true =>
   rw [z] at h; obtain rfl:= si h
   simp only [Bool.and_eq_true, decide_eq_true_eq] at z
   by_cases q : b ≥ ((Builtin.Int.intBits a : Nat) : Int)
   ·
    rw [gb z.1.1 z.1.2 q] at k
    exact AutoIntOps.irshift_1 (by exact cL z.1.2) q k
   ·
    exact AutoIntOps.irshift_2 (by exact cL z.1.2) q k
 | and => obtain rfl:= si h; exact iand_int k
 | or => obtain rfl:= si h; exact ior_int k
 | xor => obtain rfl:= si h; exact ixor_int k
end
theorem vC (x y : Nat) (v : V) : ∀ l : Loc, get y (put x v l) = if y = x then some v else get y l
 | [] => by
  simp only [put, get]
  by_cases h : y = x
  ·
   subst h; simp
  ·
   have : Nat.beq x y = false:= by
    cases q : Nat.beq x y with
    | false => rfl
    | true => exact absurd (Nat.eq_of_beq_eq_true q).symm h
   simp [this, h]
 | (z, u) :: r => by
  simp only [put]
  cases q : Nat.beq z x with
  | true =>
   have hz:= Nat.eq_of_beq_eq_true q
   subst hz
   simp only [cond_true, get]
   by_cases h : y = z
   ·
    subst h; simp
   ·
    have : Nat.beq z y = false:= by
     cases q : Nat.beq z y with
     | false => rfl
     | true => exact absurd (Nat.eq_of_beq_eq_true q).symm h
    simp [this, h]
  | false =>
   simp only [cond_false, get]
   cases q2 : Nat.beq z y with
   | true =>
    have hz:= Nat.eq_of_beq_eq_true q2
    subst hz
    have : z ≠ x:= Nat.ne_of_beq_eq_false q
    simp [this]
   | false => simp only [cond_false]; exact vC x y v r
theorem am : nmS.Nodup:= by decide +kernel
theorem iS {i : Nat} (h : i < nmS.length) : nm i = nmS[i]:= by
 unfold nm; rw [List.getD_eq_getElem?_getD, List.getElem?_eq_getElem h]; rfl
theorem dP {i : Nat} (h : i < nmS.length) : nm i ∈ nmS:= by rw [iS h]; exact List.getElem_mem h
theorem tO {i j : Nat} (hi : i < nmS.length) (hj : j < nmS.length) (e : nm i = nm j) : i = j:= by
 rw [iS hi, iS hj] at e
 exact (List.getElem_inj am).mp e
theorem jc {ρ : Adr} {x : Nat} {v : V} {u : Value} {l : Loc} {m : Str -> Option Value} (hx : x < nmS.length) (hv : RV ρ v u) {i : Nat} (hi : i < nmS.length) (h : i ≠ x -> ORel ρ (get i l) (m (nm i))) :
  ORel ρ (get i (put x v l)) (if nm i = nm x then some u else m (nm i)):= by
 rw [vC]
 by_cases e : i = x
 ·
  subst e; simp [ORel, hv]
 ·
  rw [if_neg e, if_neg fun q => e (tO hi hx q)]; exact h e
structure ClassOk (B : Base) (C fI : Addr) : Prop where
 it : ∃ (nam q : Str) (N : Addr) (bs : List Value) (sn : List Str) (sub : List Value) (col : Option Bool) (dd : Option Addr) (k0 k1 k2 k3 k5 : Option Value) (mN : Str -> Option Value),
  B.hp.get? C = some (excClassObj nam q C N bs [.type "object"] true sn sub false col dd k0 k1 k2 k3 k5 "object.__new__") /\ B.hp.Ns N mN /\ mN "__getattribute__" = none /\ mN "__setattr__" = none /\
   (∀ a ∈ flds, mN (nm a) = none) /\ mN "__init__" = some (.ref fI) /\ ∃ oI, B.hp.get? fI = some oI /\ oI.cls = .type "function"
section
variable {prog : Program} {w : World} {B : Base} {A : Around} {fr : List Addr} {L : Addr} {W : Addr -> Prop} {s : Shared} {ρ : Adr} {H : Hp}
theorem uh (a : Nat) (h : a ∈ flds) : typeLookup (.type "object") (nm a) = pure none := by
 have k : ∀ a ∈ flds, fastLookup "object" (nm a) = some none := by decide +kernel
 rw [typeLookup_type, builtinLookup_eq_fast, k a h]
theorem fZ {n c : Nat} {fs : List (Nat × V)} {h : Hp} (e : rU n h = some (c, fs)) : h[n]? = some (.ins c fs):= by
 unfold rU at e
 split at e
 ·
  rename_i c' fs' q; cases e; exact q
 ·
  contradiction
theorem jE {n : Nat} {xs : List V} {h : Hp} (e : zO n h = some xs) : h[n]? = some (.lst xs):= by
 unfold zO at e
 split at e
 ·
  rename_i q; obtain rfl:= si e; exact q
 ·
  contradiction
theorem ae {ρ : Adr} {x : V} {v : Value} (h : RV ρ x v) : handedOut v = pure v:= by
 cases x with
 | none => cases h; rfl
 | bool b => cases h; rfl
 | int i => revert h; refine oE fun t t01 => ?_; obtain rfl:= t01; rfl
 | ref n => revert h; refine oEA fun p _ t02 => ?_; obtain rfl:= t02; rfl
theorem vV {ρ : Adr} {x : V} {o : Option Value} (h : ORel ρ (some x) o) : ∃ v, o = some v /\ RV ρ x v:= by
 cases o with
 | none => exact h.elim
 | some v => exact ⟨v, rfl, h⟩
noncomputable def qA (B : Base) : Prop:= ∀ c C, B.cls c = some C -> ∃ fI, ClassOk B C fI
theorem aE {a : Nat} (h : a ∈ flds) : a < nmS.length:= by
 have k : ∀ a ∈ flds, a < nmS.length:= by decide +kernel
 exact k a h
theorem mU (X : qA B) (x : St B fr ρ H s.heap) {v : V} {a : Nat} {b : Value} {ex : Bool} (hv : RV ρ v b) (ha : a ∈ flds) :
  Does prog w B A fr L W (getAttr b (nm a) ex) s ρ H (jA v a) relV:= by
 cases v with
 | ref n =>
  revert hv; refine oEA fun p hp t02 => ?_; obtain rfl:= t02
  cases e : rU n H with
  | none => exact Does.fail (by delta jA; dsimp only; rw [e] <;> rfl)
  | some cf =>
   obtain ⟨c, fs⟩:= cf
   have ho:= fZ e
   cases e2 : get a fs with
   | none => exact Does.fail (by delta jA; dsimp only; rw [e] <;> (try dsimp only) <;> rw [e2] <;> rfl)
   | some u =>
    refine Does.ok (a:= u) (H':= H) (by delta jA; dsimp only; rw [e] <;> (try dsimp only) <;> rw [e2] <;> rfl) ?_
    refine yN (fun C mA h1 h2 h3 h4 h5 => ?_) (x.rep n p _ hp ho)
    refine oE (fun fI t01 => ?_) (X c C h1); obtain ⟨nam, q, N, bs, sn, sub, col, dd, k0, k1, k2, k3, k5, mN, c1, c2, c3, c4, c5, c6⟩:= t01
    have z:= h5 a (aE ha)
    rw [e2] at z
    refine oEA (fun v' e3 rv => ?_) (vV z)
    obtain ⟨h, g, d, t, os⟩:= s
    exact load_attr (x.bk _ _ c1) (c2.keeps x.bk) c3 (c5 a ha) (uh a ha) h2 e3 (ae rv) ⟨ρ, jJ x rfl rfl rfl rfl, rv⟩
 | none => exact Does.fail rfl
 | bool _ => exact Does.fail rfl
 | int _ => exact Does.fail rfl
theorem nW (X : qA B) (x : St B fr ρ H s.heap) {v u : V} {a : Nat} {b c : Value} (hv : RV ρ v b) (hu : RV ρ u c) (ha : a ∈ flds) :
  Does prog w B A fr L W (setAttr b (nm a) c) s ρ H (setattr v a u) relU:= by
 cases v with
 | ref n =>
  revert hv; refine oEA fun p hp t02 => ?_; obtain rfl:= t02
  cases e : rU n H with
  | none => exact Does.fail (by delta setattr; dsimp only; rw [e] <;> rfl)
  | some cf =>
   obtain ⟨ci, fs⟩:= cf
   have ho:= fZ e
   refine Does.ok (a:= ()) (H':= H.set n (.ins ci (put a u fs))) (by delta setattr; dsimp only; rw [e] <;> rfl) ?_
   refine yN (fun C mA h1 h2 h3 h4 h5 => ?_) (x.rep n p _ hp ho)
   refine oE (fun fI t01 => ?_) (X ci C h1); obtain ⟨nam, q, N, bs, sn, sub, col, dd, k0, k1, k2, k3, k5, mN, c1, c2, c3, c4, c5, c6⟩:= t01
   have hl:= aE ha
   obtain ⟨h, g, d, t, os⟩:= s
   have hxC : p.1 ≠ C:= fun z => by
    revert h2; refine vO fun o hx _ hn _ => ?_
    rw [z, x.bk _ _ c1] at hx
    obtain rfl:= si hx
    exact hn _ rfl
   refine store_attr F.store_object (x.bk _ _ c1) (c2.keeps x.bk) c4 (c5 a ha) (uh a ha) hxC h2 (fun h' tk' i1 i2 i3 => ⟨ρ, ?_, trivial⟩) h4 (by decide)
   refine oEA (fun o0 g0 _ => ?_) (id h2)
   have d0:= h3 o0 g0
   refine oEAAAA (fun o1 g1 _ _ _ g2 => ?_) (i3 o0 g0)
   refine sO x hp ho rfl rfl (fun b o z1 z2 hb => i2 b o z1 (fun o₀ dx q1 q2 => ?_) hb) ?_ rfl rfl rfl
   ·
    obtain rfl:= s2 g0 q1
    obtain rfl:= s2 d0 q2
    exact z2
   ·
    refine ⟨C, _, h1, i1, fun o q1 => ?_, fun y hy => ?_, fun i hi => jc hl hu hi fun _ => h5 i hi⟩
    ·
     obtain rfl:= s2 g1 q1
     exact g2 _ d0
    ·
     by_cases z : y = nm a
     ·
      rw [z]; exact dP hl
     ·
      exact h4 y (by simpa [z] using hy)
 | none => exact Does.fail rfl
 | bool _ => exact Does.fail rfl
 | int _ => exact Does.fail rfl
theorem pN {n : Nat} {xs : List V} {h : Hp} (e : vH n h = some xs) : h[n]? = some (.lst xs) \/ h[n]? = some (.tup xs):= by
 unfold vH at e
 split at e
 ·
  rename_i q; obtain rfl:= si e; exact .inl q
 ·
  rename_i q; obtain rfl:= si e; exact .inr q
 ·
  contradiction
theorem wZ {p : Addr × Addr} {xs : List V} {h : Heap} (r : RO B ρ p h (.lst xs)) : ∃ vs, h.PlainList p.1 vs.toArray /\ RVs ρ xs vs:= by
 revert r; refine jC fun _ vs ep h1 h2 => ?_
 exact ⟨vs, ⟨ep, h1⟩, h2⟩
theorem mT (x : St B fr ρ H s.heap) {v u : V} {b c : Value} (hv : RV ρ v b) (hu : RV ρ u c) :
  Does prog w B A fr L W (getItem b c) s ρ H (yO v u) relV:= by
 cases v with
 | ref n =>
  revert hv; refine oEA fun p hp t02 => ?_; obtain rfl:= t02
  cases u with
  | int k =>
   revert hu; refine oE fun t t01 => ?_; obtain rfl:= t01
   cases e : vH n H with
   | none => exact Does.fail (by delta yO; dsimp only; rw [e] <;> rfl)
   | some xs =>
    cases z : (decide (0 <= k) && small k) with
    | false => exact Does.fail (by delta yO; dsimp only; rw [e] <;> (try dsimp only) <;> rw [z] <;> rfl)
    | true =>
     cases e2 : xs[k.toNat]? with
     | none => exact Does.fail (by delta yO; dsimp only; rw [e] <;> (try dsimp only) <;> rw [z] <;> (try dsimp only) <;> rw [e2] <;> rfl)
     | some y =>
      refine Does.ok (a:= y) (H':= H) (by delta yO; dsimp only; rw [e] <;> (try dsimp only) <;> rw [z] <;> (try dsimp only) <;> rw [e2] <;> rfl) ?_
      rw [Bool.and_eq_true, decide_eq_true_eq] at z
      have hk : k < 2 ^ 63:= by have:= dTr z.2; lia
      refine oO (fun ho => ?_) (fun ho => ?_) (pN e)
      ·
       refine oEA (fun vs h1 h2 => ?_) (wZ (x.rep n p _ hp ho))
       refine oEA (fun v' e3 rv => ?_) (h2.get e2)
       exact wpAny_getItem_list h1.isList z.1 hk (by simpa using e3) ⟨ρ, jJ x rfl rfl rfl rfl, rv⟩
      ·
       refine oEA (fun vs h1 h2 => ?_) (x.rep n p _ hp ho)
       refine oEA (fun v' e3 rv => ?_) (h2.get e2)
       have hl : k.toNat < vs.length:= (List.getElem?_eq_some_iff.mp e3).1
       refine getItem_tuple (j:= k.toNat) h1 (by exact as06 z.1 rfl) hk ?_ (by simpa using e3) ⟨ρ, jJ x rfl rfl rfl rfl, rv⟩
       unfold seqIndex?
       simp only [show ¬ k < 0 from by exact cL z.1, if_false, List.size_toArray]
       rw [if_pos (by simp; lia)]
  | none => exact Does.fail rfl
  | bool _ => exact Does.fail rfl
  | ref _ => exact Does.fail rfl
 | none => exact Does.fail rfl
 | bool _ => exact Does.fail rfl
 | int _ => exact Does.fail rfl
theorem nV (x : St B fr ρ H s.heap) {v u y : V} {b c d : Value} (hv : RV ρ v b) (hu : RV ρ u c) (hy : RV ρ y d) :
  Does prog w B A fr L W (setItem b c d) s ρ H (yR v u y) relU:= by
 cases v with
 | ref n =>
  revert hv; refine oEA fun p hp t02 => ?_; obtain rfl:= t02
  cases u with
  | int k =>
   revert hu; refine oE fun t t01 => ?_; obtain rfl:= t01
   cases e : zO n H with
   | none => exact Does.fail (by delta yR; dsimp only; rw [e] <;> rfl)
   | some xs =>
    cases z : (decide (0 <= k) && decide (k < xs.length) && small k) with
    | false => exact Does.fail (by delta yR; dsimp only; rw [e] <;> (try dsimp only) <;> rw [z] <;> rfl)
    | true =>
     have ho:= jE e
     refine Does.ok (a:= ()) (H':= H.set n (.lst (xs.set k.toNat y))) (by delta yR; dsimp only; rw [e] <;> (try dsimp only) <;> rw [z] <;> rfl) ?_
     simp only [Bool.and_eq_true, decide_eq_true_eq] at z
     have hk : k < 2 ^ 63:= by have:= dTr z.2; lia
     refine jC (fun hp2 vs ep h1 h2 => ?_) (x.rep n p _ hp ho)
     refine ki_setAt (n:= ep) h1 z.1.1 hk (by rw [List.size_toArray, h2.length]; exact z.1.2) ⟨ρ, ?_, trivial⟩
     refine oE (fun ep' hd => ?_) (Obj.data_mapSeq (o := { cls := .type "list", dict := none, data := .seq vs.toArray ep, slots := #[] }) rfl (·.setIfInBounds k.toNat d))
     refine sO x hp ho rfl rfl (fun b o z1 z2 hb => ?_) ⟨hp2, vs.set k.toNat d, ep, ?_, h2.set hy _⟩ rfl rfl rfl
     ·
      exact (Heap.get?_update_other _ _ (Ne.symm z1)).trans hb
     ·
      rw [Heap.get?_update_self _ h1 (Obj.isFreed_of_seq hd)]
      simp [Obj.mapSeq]
  | none => exact Does.fail rfl
  | bool _ => exact Does.fail rfl
  | ref _ => exact Does.fail rfl
 | none => exact Does.fail rfl
 | bool _ => exact Does.fail rfl
 | int _ => exact Does.fail rfl
end
section
variable {prog : Program} {w : World} {B : Base} {A : Around} {fr : List Addr} {L : Addr} {W : Addr -> Prop} {s s' : Shared} {ρ : Adr} {H : Hp}
theorem yM (h : Heap) : h.get? h.objs.size = none:= by
 cases q : h.get? h.objs.size with
 | none => rfl
 | some o => exact absurd (Heap.lt_size q) (Nat.lt_irrefl _)
theorem uS (x : St B fr ρ H s.heap) (p : Addr × Addr) : RV (ρ ++ [p]) (.ref H.length) (.ref p.1):= ⟨p, by rw [<- x.len]; simp, rfl⟩
theorem pU (x : St B fr ρ H s.heap) {xs : List V} {vs : List Value} (h : RVs ρ xs vs) {ep tk : Nat} :
  Tr B fr W s ⟨s.heap.push { cls := .type "list", data := .seq vs.toArray ep }, s.gens, s.drawn, tk, s.os⟩ ρ (ρ ++ [(s.heap.objs.size, s.heap.objs.size)]) H (H ++ [.lst xs]) := by
 refine qI x (fun b o q => Heap.get?_push_of_some _ q) (yM _) (yM _) ?_ rfl rfl rfl
 exact ⟨rfl, vs, ep, Heap.get?_push_size _ rfl, h.mono ⟨_, rfl⟩⟩
theorem aq (x : St B fr ρ H s.heap) {xs : List V} {vs : List Value} (h : RVs ρ xs vs) {tk : Nat} :
  Tr B fr W s ⟨s.heap.push { cls := .type "tuple", data := .seq vs.toArray }, s.gens, s.drawn, tk, s.os⟩ ρ (ρ ++ [(s.heap.objs.size, s.heap.objs.size)]) H (H ++ [.tup xs]) := by
 refine qI x (fun b o q => Heap.get?_push_of_some _ q) (yM _) (yM _) ?_ rfl rfl rfl
 exact ⟨vs, ⟨_, Heap.get?_push_size _ rfl, rfl, 0, rfl⟩, h.mono ⟨_, rfl⟩⟩
theorem uL (o : O) (H : Hp) : zX o H = .fail \/ (zX o H = .ok (.ref H.length) (H ++ [o]) /\ osz o <= 100000):= by
 unfold zX
 cases e : Nat.ble (osz o) 100000 with
 | true => exact .inr ⟨rfl, Nat.le_of_ble_eq_true e⟩
 | false => exact .inl rfl
theorem dR (x : St B fr ρ H s.heap) {xs : List V} {vs : List Value} (h : RVs ρ xs vs) : Does prog w B A fr L W (newList vs) s ρ H (zX (.lst xs)) relV:= by
 rcases uL (.lst xs) H with e | ⟨e, z⟩
 ·
  exact Does.fail e
 ·
  exact Does.ok e (wpAny_newList ⟨_, pU x h, uS x (s.heap.objs.size, s.heap.objs.size)⟩ (by rw [h.length]; simp only [osz, sizeLine] at z ⊢; exact yB z rfl))
theorem fG (x : St B fr ρ H s.heap) {xs : List V} {vs : List Value} (h : RVs ρ xs vs) : Does prog w B A fr L W (newTuple vs) s ρ H (zX (.tup xs)) relV:= by
 rcases uL (.tup xs) H with e | ⟨e, z⟩
 ·
  exact Does.fail e
 ·
  exact Does.ok e (wpAny_newTuple ⟨_, aq x h, uS x (s.heap.objs.size, s.heap.objs.size)⟩ (by rw [h.length]; simp only [osz, sizeLine] at z ⊢; exact yB z rfl))
theorem pJ (x : St B fr ρ H s.heap) {v : V} {b : Value} (hv : RV ρ v b) : Does prog w B A fr L W (truthy b) s ρ H (truth v) relT:= by
 cases v with
 | bool c => cases hv; exact Does.ok rfl (wpAny_truthy_bool ⟨ρ, Tr.refl x, rfl⟩)
 | int i =>
  revert hv; refine oE fun t t01 => ?_; obtain rfl:= t01
  exact Does.ok rfl (P.truthy_int ⟨ρ, Tr.refl x, by by_cases h : i = 0 <;> simp [h]⟩)
 | none => exact Does.fail rfl
 | ref n => exact Does.fail rfl
theorem dI (vs : List Value) (k : Nat) : (List.foldl (fun x1 x2 => x1 ++ x2) #[] (List.replicate k vs.toArray)).toList = (List.replicate k vs).flatten:= by
 have g : ∀ (k : Nat) (acc : Array Value), (List.foldl (fun x1 x2 => x1 ++ x2) acc (List.replicate k vs.toArray)).toList = acc.toList ++ (List.replicate k vs).flatten:= by
  intro k
  induction k with
  | zero => intro acc; simp
  | succ k ih => intro acc; rw [List.replicate_succ, List.foldl_cons, ih, List.replicate_succ]; simp
 simpa using g k #[]
theorem bD {xs : List V} {vs : List Value} (h : RVs ρ xs vs) : ∀ k, RVs ρ (rep xs k) (List.replicate k vs).flatten
 | 0 => trivial
 | k + 1 => by rw [List.replicate_succ, List.flatten_cons]; exact h.append (bD h k)
theorem lw (x : St B fr ρ H s.heap) {o : BOp} {v u : V} {b c : Value} (hv : RV ρ v b) (hu : RV ρ u c) : Does prog w B A fr L W (binaryOp (qC o) b c) s ρ H (yU o v u) relV:= by
 cases v with
 | int i =>
  revert hv; refine oE fun t t01 => ?_; obtain rfl:= t01
  cases u with
  | int k =>
   revert hu; refine oE fun t' t01 => ?_; obtain rfl:= t01
   cases e : iop o i k with
   | none => exact Does.fail (by delta yU; dsimp only; rw [e] <;> rfl)
   | some r => exact Does.ok (a:= .int r) (H':= H) (by delta yU; dsimp only; rw [e] <;> rfl) (iop_wp e ⟨ρ, jJ x rfl rfl rfl rfl, ⟨_, rfl⟩⟩)
  | none => exact Does.fail rfl
  | bool _ => exact Does.fail rfl
  | ref _ => exact Does.fail rfl
 | ref n =>
  revert hv; refine oEA fun p hp t02 => ?_; obtain rfl:= t02
  cases u with
  | ref m =>
   revert hu; refine oEA fun q hq t02 => ?_; obtain rfl:= t02
   cases o with
   | add =>
    cases e1 : zO n H with
    | none => exact Does.fail (by delta yU; dsimp only; rw [e1] <;> rfl)
    | some xs =>
     cases e2 : zO m H with
     | none => exact Does.fail (by delta yU; dsimp only; rw [e1] <;> (try dsimp only) <;> rw [e2] <;> rfl)
     | some ys =>
      have e3 : yU .add (.ref n) (.ref m) H = zX (.lst (xs ++ ys)) H:= (by delta yU; dsimp only; rw [e1] <;> (try dsimp only) <;> rw [e2] <;> rfl)
      refine Does.eq (m:= zX (.lst (xs ++ ys))) ?_ e3
      rcases uL (.lst (xs ++ ys)) H with e | ⟨e, z⟩
      ·
       exact Does.fail e
      ·
       refine jC (fun _ vs ep h1 h2 => ?_) (x.rep n p _ hp (jE e1))
       refine jC (fun _ us ep' g1 g2 => ?_) (x.rep m q _ hq (jE e2))
       refine Does.ok e ?_
       refine concat_meets ⟨_, h1, rfl⟩ ⟨_, g1, rfl⟩ noFill_list_add seq_list_add PySem.F.slot_list_add PySem.F.entry_list_add (PySem.F.args_list_add_2 _ _)
        (list_addW p.1 q.1 vs.toArray us.toArray ep ep' none none #[] #[] (by have:= h2.length; have:= g2.length; simp only [osz, List.length_append] at z; simp only [List.size_toArray, sizeLine]; lia)) ⟨h1, g1, ?_⟩
       have z:= pU (W:= W) (ep:= 0) (tk:= s.toks) x (h2.append g2)
       rw [show (vs ++ us).toArray = vs.toArray ++ us.toArray from by simp] at z
       exact ⟨_, z, uS x (s.heap.objs.size, s.heap.objs.size)⟩
   | _ => exact Does.fail rfl
  | int k =>
   revert hu; refine oE fun t t01 => ?_; obtain rfl:= t01
   cases o with
   | mul =>
    cases e1 : zO n H with
    | none => exact Does.fail (by delta yU; dsimp only; rw [e1] <;> rfl)
    | some xs =>
     cases z : (decide (0 <= k) && decide (k <= 1000) && decide (xs.length <= 10)) with
     | false => exact Does.fail (by delta yU; dsimp only; rw [e1] <;> (try dsimp only) <;> rw [z] <;> rfl)
     | true =>
      have e3 : yU .mul (.ref n) (.int k) H = zX (.lst (rep xs k.toNat)) H:= (by delta yU; dsimp only; rw [e1] <;> (try dsimp only) <;> rw [z] <;> rfl)
      refine Does.eq (m:= zX (.lst (rep xs k.toNat))) ?_ e3
      simp only [Bool.and_eq_true, decide_eq_true_eq] at z
      rcases uL (.lst (rep xs k.toNat)) H with e | ⟨e, _⟩
      ·
       exact Does.fail e
      refine jC (fun _ vs ep h1 h2 => ?_) (x.rep n p _ hp (jE e1))
      have hl:= h2.length
      have hm' : vs.length * k.toNat <= 10 * 1000:= Nat.mul_le_mul (by exact jO hl z.2) (by exact at23 z.1.2)
      have hm : vs.toArray.size * k.toNat <= 10 * 1000:= by rw [List.size_toArray]; exact hm'
      refine Does.ok e ?_
      refine wpAny_binaryOp_repeat_ref (T := "list") (U := "int") (by decide) ⟨_, h1, rfl⟩ (fun s' => typeIs_int s' k t) noFill_list_mul F.fills_int_mul F.slot_int_rmul repeat_list F.slot_int_index.lookup
       (call_meets F.slot_int_rmul (typeIs_int s k t) F.entry_int_rmul (F.args_int_rmul_2 _ _) (int___rmul___int_list k t p.1 vs.toArray ep)
        ⟨h1, rfl, ⟨_, h1, rfl⟩, call_meets F.slot_list_mul ⟨_, h1, rfl⟩ F.entry_list_mul (F.args_list_mul_2 _ _)
         (AutoListH.list___mul___list_int_3 p.1 vs.toArray ep k t (by simp [Builtin.List.listFitsIndex]; lia) (by exact mh (yB hm rfl)) (by simp [Builtin.List.listTooLong, sizeLine]; exact yB hm rfl))
         ⟨h1, ?_⟩⟩)
      have hr : RVs ρ (rep xs k.toNat) (List.foldl (fun x1 x2 => x1 ++ x2) #[] (List.replicate (if vs.toArray.isEmpty = true then 0 else k.toNat) vs.toArray)).toList:= by
       rw [dI]
       split
       ·
        rename_i q
        have : vs = []:= by simpa using q
        subst this
        have : xs = []:= by cases xs with | nil => rfl | cons a b => exact h2.elim
        subst this
        have : ∀ k, rep [] k = []:= fun k => by induction k with | zero => rfl | succ k ih => simpa [rep] using ih
        rw [this]; trivial
       ·
        exact bD h2 _
      have z:= pU (W:= W) (ep:= 0) (tk:= s.toks) x hr
      rw [Array.toArray_toList] at z
      exact ⟨_, z, uS x (s.heap.objs.size, s.heap.objs.size)⟩
   | _ => exact Does.fail rfl
  | none => exact Does.fail rfl
  | bool _ => exact Does.fail rfl
 | none => cases u <;> exact Does.fail rfl
 | bool _ => cases u <;> exact Does.fail rfl
end
theorem qP {α β : Type} {f : α -> Option β} {x : α} {xs : List α} {ds : List β} (h : (x :: xs).mapM f = some ds) : ∃ d r, f x = some d /\ xs.mapM f = some r /\ ds = d :: r:= by
 rw [List.mapM_cons] at h
 cases e : f x with
 | none => rw [e] at h; contradiction
 | some d =>
  rw [e] at h
  cases e2 : xs.mapM f with
  | none =>
   rw [e2] at h; contradiction
  | some r =>
   rw [e2] at h
   exact ⟨d, r, rfl, rfl, by obtain rfl:= si h; rfl⟩
section
variable {prog : Program} {w : World} {B : Base} {A : Around} {fr : List Addr} {L : Addr} {W : Addr -> Prop} {s s' : Shared} {ρ : Adr} {H : Hp}
theorem pD (x : St B fr ρ H s.heap) : ∀ (k : Nat) (v : V) (b : Value) (d : PyData), deep k H v = some d -> RV ρ v b -> ∃ as, Reads s.heap b d as
 | _, .none, b, d, e, hv => by
  cases hv
  cases show d = PyData.none from by (cases ‹Nat› <;> (simp [deep] at e; exact e.symm))
  exact ⟨_, .none⟩
 | _, .bool c, b, d, e, hv => by
  cases hv
  cases show d = PyData.bool c from by (cases ‹Nat› <;> (simp [deep] at e; exact e.symm))
  exact ⟨_, .bool c⟩
 | _, .int i, b, d, e, hv => by
  revert hv; refine oE fun t t01 => ?_; obtain rfl:= t01
  cases show d = PyData.int i from by (cases ‹Nat› <;> (simp [deep] at e; exact e.symm))
  exact ⟨_, .int i t⟩
 | 0, .ref n, b, d, e, hv => by simp [deep] at e
 | k + 1, .ref n, b, d, e, hv => by
  revert hv; refine oEA fun p hp t02 => ?_; obtain rfl:= t02
  have all : ∀ (xs : List V) (vs : List Value) (ds : List PyData), xs.mapM (deep k H) = some ds -> RVs ρ xs vs -> ∃ as, ReadsAll s.heap vs ds as:= by
   intro xs
   induction xs with
   | nil =>
    intro vs ds h1 h2
    cases vs with
    | nil => obtain rfl:= s2 List.mapM_nil h1; exact ⟨_, .nil⟩
    | cons _ _ => exact h2.elim
   | cons y ys ih =>
    intro vs ds h1 h2
    cases vs with
    | nil => exact h2.elim
    | cons u us =>
     refine wQ (fun d r e1 e2 t04 => ?_) (qP h1); obtain rfl:= t04
     refine oE (fun as ha => ?_) (pD x k y u d e1 h2.1)
     refine oE (fun bs hb => ?_) (ih us r e2 h2.2)
     exact ⟨_, .cons ha hb⟩
  simp only [deep] at e
  split at e
  ·
   rename_i xs ho
   split at e
   ·
    rename_i ds hd
    obtain rfl:= si e
    refine jC (fun _ vs ep h1 h2 => ?_) (x.rep n p _ hp ho)
    refine oE (fun as ha => ?_) (all xs vs ds hd h2)
    exact ⟨_, .list h1 rfl rfl (by simpa using ha)⟩
   ·
    contradiction
  ·
   rename_i xs ho
   split at e
   ·
    rename_i ds hd
    obtain rfl:= si e
    refine fl (x.rep n p _ hp ho) <| oEA fun vs => bM fun o h1 hc n' hd' h2 => ?_
    refine oE (fun as ha => ?_) (all xs vs ds hd h2)
    exact ⟨_, .tuple h1 hc hd' (by simpa using ha)⟩
   ·
    contradiction
  ·
   contradiction
theorem mV : ∀ (k : Nat) (v : V) (d : PyData), deep k H v = some d -> d.canLay0 = true /\ d.depth <= k + 1
 | k, .none, d, e => by
  cases show d = PyData.none from by (cases k <;> (simp [deep] at e; exact e.symm))
  exact ⟨by simp [PyData.canLay0], by simp [PyData.depth]⟩
 | k, .bool c, d, e => by
  cases show d = PyData.bool c from by (cases k <;> (simp [deep] at e; exact e.symm))
  exact ⟨by simp [PyData.canLay0], by simp [PyData.depth]⟩
 | k, .int i, d, e => by
  cases show d = PyData.int i from by (cases k <;> (simp [deep] at e; exact e.symm))
  exact ⟨by simp [PyData.canLay0], by simp [PyData.depth]⟩
 | 0, .ref n, d, e => by simp [deep] at e
 | k + 1, .ref n, d, e => by
  have all : ∀ (xs : List V) (ds : List PyData), xs.mapM (deep k H) = some ds -> PyData.canLayAll0 ds = true /\ PyData.depthAll ds <= k + 1:= by
   intro xs
   induction xs with
   | nil => intro ds h1; obtain rfl:= s2 List.mapM_nil h1; simp [PyData.canLayAll0, PyData.depthAll]
   | cons y ys ih =>
    intro ds h1
    refine wQ (fun d r e1 e2 t04 => ?_) (qP h1); obtain rfl:= t04
    have h1:= mV k y d e1
    have h2:= ih r e2
    simp only [PyData.canLayAll0, PyData.depthAll, h1.1, h2.1, Bool.and_self, true_and]
    exact at36 h1.2 h2.2
  simp only [deep] at e
  split at e
  ·
   split at e
   ·
    rename_i ds hd
    obtain rfl:= si e
    have:= all _ _ hd
    simp only [PyData.canLay0, PyData.depth]
    exact ⟨this.1, by exact cM this.2⟩
   ·
    contradiction
  ·
   split at e
   ·
    rename_i ds hd
    obtain rfl:= si e
    have:= all _ _ hd
    simp only [PyData.canLay0, PyData.depth]
    exact ⟨this.1, by exact cM this.2⟩
   ·
    contradiction
  ·
   contradiction
theorem uU {v : V} {d : PyData} (e : deep 4 H v = some d) : SeqAt.shaped d = true:= by
 have h:= mV 4 v d e
 unfold SeqAt.shaped
 rw [h.1, Bool.true_and]
 exact eTr (by exact yB h.2 rfl)
theorem nH (l : List Int) (k : Int) : (l.any fun x => x == k) = decide (k ∈ l):= by
 induction l with
 | nil => rfl
 | cons a r ih =>
  rw [List.any_cons, ih]
  by_cases h : a = k
  ·
   subst h; simp
  ·
   have : (a == k) = false:= by simpa using h
   simp [this, Ne.symm h]
theorem dq (x : St B fr ρ H s.heap) (hu : A.units + 64 < cLine) {v u : V} {b c : Value} {r : Bool} (hv : RV ρ v b) (hw : RV ρ u c) (e : veq H v u = some r) {Q E : Value -> Shared -> Prop} :
  (Q (.bool r) s -> wpAny (model prog w) A (compareOp .Eq b c) Q E s) /\ (Q (.bool (!r)) s -> wpAny (model prog w) A (compareOp .NotEq b c) Q E s):= by
 cases v with
 | int i =>
  cases u with
  | int k =>
   revert hv; refine oE fun t t01 => ?_; obtain rfl:= t01
   revert hw; refine oE fun t' t01 => ?_; obtain rfl:= t01
   obtain rfl:= si e
   have h1 : (i == k) = decide (i = k):= rfl
   refine ⟨fun h => eq_int h, fun h => ne_int ?_⟩
   have : (i != k) = !(decide (i = k)):= rfl
   rw [this]; exact h
  | _ => contradiction
 | bool i =>
  cases u with
  | bool k =>
   cases hv; cases hw
   obtain rfl:= si e
   exact ⟨fun h => eq_bool h, fun h => ne_bool h⟩
  | _ => contradiction
 | ref n =>
  cases u with
  | ref m =>
   simp only [veq] at e
   split at e
   ·
    rename_i d1 d2 e1 e2
    obtain rfl:= si e
    refine oE (fun as ha => ?_) (pD x 4 _ _ _ e1 hv)
    refine oE (fun bs hb => ?_) (pD x 4 _ _ _ e2 hw)
    exact ⟨fun h => eq_dataH ha hb (uU e1) (uU e2) hu h, fun h => ne_dataH ha hb (uU e1) (uU e2) hu h⟩
   ·
    contradiction
  | _ => contradiction
 | none => contradiction
theorem bY (x : St B fr ρ H s.heap) {v u : V} {b c : Value} {r : Bool} (hv : RV ρ v b) (hw : RV ρ u c) (e : isIn H v u = some r) {Q E : Value -> Shared -> Prop} :
  (Q (.bool r) s -> wpAny (model prog w) A (compareOp .In b c) Q E s) /\ (Q (.bool (!r)) s -> wpAny (model prog w) A (compareOp .NotIn b c) Q E s):= by
 cases v with
 | int i =>
  cases u with
  | ref n =>
   revert hv; refine oE fun t t01 => ?_; obtain rfl:= t01
   revert hw; refine oEA fun p hp t02 => ?_; obtain rfl:= t02
   simp only [isIn] at e
   split at e
   ·
    rename_i xs hs
    split at e
    ·
     rename_i l hl
     obtain rfl:= si e
     refine oO (fun ho => ?_) (fun ho => ?_) (pN hs)
     ·
      refine oEA (fun vs h1 h2 => ?_) (wZ (x.rep n p _ hp ho))
      have hi:= h2.ints hl
      exact ⟨fun h => in_list_ints h1.isList hi (by rw [nH]; exact h), fun h => notin_list_ints h1.isList hi (by rw [nH]; exact h)⟩
     ·
      refine oEA (fun vs h1 h2 => ?_) (x.rep n p _ hp ho)
      have hi:= h2.ints hl
      exact ⟨fun h => in_tuple_ints h1 hi (by rw [nH]; exact h), fun h => notin_tuple_ints h1 hi (by rw [nH]; exact h)⟩
    ·
     contradiction
   ·
    contradiction
  | _ => contradiction
 | _ => contradiction
theorem tW (x : St B fr ρ H s.heap) (hu : A.units + 64 < cLine) {o : COp} {v u : V} {b c : Value} (hv : RV ρ v b) (hw : RV ρ u c) :
  Does prog w B A fr L W (compareOp (mW o) b c) s ρ H (zQ o v u) relB:= by
 have fin : ∀ r : Bool, ∃ ρ', Tr B fr W s s ρ ρ' H H /\ relB ρ' H r (.bool r) s:= fun r => ⟨ρ, Tr.refl x, rfl⟩
 cases o with
 | eq =>
  cases e : veq H v u with
  | none => exact Does.fail (by delta zQ; dsimp only; rw [e] <;> rfl)
  | some r => exact Does.ok (a:= r) (H':= H) (by delta zQ; dsimp only; rw [e] <;> rfl) ((dq x hu hv hw e).1 (fin r))
 | ne =>
  cases e : veq H v u with
  | none => exact Does.fail (by delta zQ; dsimp only; rw [e] <;> rfl)
  | some r => exact Does.ok (a:= !r) (H':= H) (by delta zQ; dsimp only; rw [e] <;> rfl) ((dq x hu hv hw e).2 (fin (!r)))
 | isIn =>
  cases e : isIn H v u with
  | none => exact Does.fail (by delta zQ; dsimp only; rw [e] <;> rfl)
  | some r => exact Does.ok (a:= r) (H':= H) (by delta zQ; dsimp only; rw [e] <;> rfl) ((bY x hv hw e).1 (fin r))
 | notIn =>
  cases e : isIn H v u with
  | none => exact Does.fail (by delta zQ; dsimp only; rw [e] <;> rfl)
  | some r => exact Does.ok (a:= !r) (H':= H) (by delta zQ; dsimp only; rw [e] <;> rfl) ((bY x hv hw e).2 (fin (!r)))
 | lt =>
  cases v with
  | int i =>
   cases u with
   | int k => revert hv; refine oE fun t t01 => ?_; obtain rfl:= t01; revert hw; refine oE fun t' t01 => ?_; obtain rfl:= t01; exact Does.ok rfl (lt_int (fin _))
   | _ => exact Does.fail rfl
  | _ => exact Does.fail rfl
 | le =>
  cases v with
  | int i =>
   cases u with
   | int k => revert hv; refine oE fun t t01 => ?_; obtain rfl:= t01; revert hw; refine oE fun t' t01 => ?_; obtain rfl:= t01; exact Does.ok rfl (le_int (fin _))
   | _ => exact Does.fail rfl
  | _ => exact Does.fail rfl
 | gt =>
  cases v with
  | int i =>
   cases u with
   | int k => revert hv; refine oE fun t t01 => ?_; obtain rfl:= t01; revert hw; refine oE fun t' t01 => ?_; obtain rfl:= t01; exact Does.ok rfl (gt_int (fin _))
   | _ => exact Does.fail rfl
  | _ => exact Does.fail rfl
 | ge =>
  cases v with
  | int i =>
   cases u with
   | int k => revert hv; refine oE fun t t01 => ?_; obtain rfl:= t01; revert hw; refine oE fun t' t01 => ?_; obtain rfl:= t01; exact Does.ok rfl (ge_int (fin _))
   | _ => exact Does.fail rfl
  | _ => exact Does.fail rfl
 | is =>
  cases v with
  | none =>
   cases u with
   | none => cases hv; cases hw; exact Does.ok rfl (wpAny_is_self rfl (fin _))
   | _ => exact Does.fail rfl
  | ref n =>
   cases u with
   | none => revert hv; refine oEA fun p hp t02 => ?_; obtain rfl:= t02; cases hw; exact Does.ok rfl (wpAny_is_other rfl (by simp) (fin _))
   | _ => exact Does.fail rfl
  | _ => exact Does.fail rfl
end
section
variable {prog : Program} {w : World} {B : Base} {A : Around} {fr : List Addr} {L : Addr} {W : Addr -> Prop} {s s' : Shared} {ρ : Adr} {H : Hp}
theorem pz {α : Type} (l : List α) (a b : Nat) : (l.drop (min a l.length)).take (min b l.length - min a l.length) = (l.take b).drop a:= by
 rw [List.drop_take]
 refine oO (fun h => ?_) (fun h => ?_) (Nat.le_or_ge a l.length)
 ·
  rw [Nat.min_eq_left h]
  refine oO (fun h2 => ?_) (fun h2 => ?_) (Nat.le_or_ge b l.length)
  ·
   rw [Nat.min_eq_left h2]
  ·
   rw [Nat.min_eq_right h2, List.take_of_length_le (by simp), List.take_of_length_le (by simp; exact ar17 (ar65 (jZ h h2)) h2)]
 ·
  have e1 : l.drop (min a l.length) = []:= List.drop_eq_nil_of_le (by lia)
  have e2 : l.drop a = []:= List.drop_eq_nil_of_le h
  rw [e1, e2, List.take_nil, List.take_nil]
theorem eB {n : Nat} {xs : List V} {h : Hp} (e : oL n h = some xs) : h[n]? = some (.lst xs) \/ h[n]? = some (.fro xs):= by
 unfold oL at e
 split at e
 ·
  rename_i q; obtain rfl:= si e; exact .inl q
 ·
  rename_i q; obtain rfl:= si e; exact .inr q
 ·
  contradiction
theorem ld {lo : V} {vl : Value} {a : Nat} {n : Nat} (h : RV ρ lo vl) (e : eH lo = some a) : ∃ p, IsPart vl p /\ (p.elim 0 (clipAt n)) = min a n:= by
 cases lo with
 | none => cases h; obtain rfl:= si e; exact ⟨_, .none, by simp⟩
 | int i =>
  revert h; refine oE fun t t01 => ?_; obtain rfl:= t01
  simp only [eH] at e
  cases z : (decide (0 <= i) && small i) with
  | false => rw [z] at e; contradiction
  | true =>
   rw [z] at e; obtain rfl:= si e
   simp only [Bool.and_eq_true, decide_eq_true_eq] at z
   refine oE (fun k t01 => ?_) (Int.eq_ofNat_of_zero_le z.1); obtain rfl:= t01
   exact ⟨_, .int _ _, by simp only [Option.elim]; exact clipAt_nat n k⟩
 | _ => contradiction
theorem lf {hi : V} {vu : Value} {b : Nat} {n : Nat} (h : RV ρ hi vu) (e : eI n hi = some b) : ∃ p, IsPart vu p /\ (p.elim n (clipAt n)) = min b n:= by
 cases hi with
 | none => cases h; obtain rfl:= si e; exact ⟨_, .none, by simp⟩
 | int i =>
  revert h; refine oE fun t t01 => ?_; obtain rfl:= t01
  simp only [eI] at e
  cases z : (decide (0 <= i) && small i) with
  | false => rw [z] at e; contradiction
  | true =>
   rw [z] at e; obtain rfl:= si e
   simp only [Bool.and_eq_true, decide_eq_true_eq] at z
   refine oE (fun k t01 => ?_) (Int.eq_ofNat_of_zero_le z.1); obtain rfl:= t01
   exact ⟨_, .int _ _, by simp only [Option.elim]; exact clipAt_nat n k⟩
 | _ => contradiction
theorem ac {xs : List V} {vs : List Value} (h : RVs ρ xs vs) (a b : Nat) : RVs ρ ((xs.take b).drop a) (((vs.drop (min a vs.length)).take (min b vs.length - min a vs.length))):= by
 rw [pz]; exact (h.take b).drop a
theorem cut_ok (x : St B fr ρ H s.heap) {v lo hi : V} {b vl vu : Value} {sl : Addr} (hv : RV ρ v b) (hsl : s.heap.IsSliceOf sl vl vu .none) (hlo : RV ρ lo vl) (hhi : RV ρ hi vu) :
  Does prog w B A fr L W (getItem b (.ref sl)) s ρ H (cut v lo hi) relV:= by
 cases v with
 | ref n =>
  revert hv; refine oEA fun p hp t02 => ?_; obtain rfl:= t02
  cases e : oL n H with
  | none => exact Does.fail (by delta cut; dsimp only; rw [e] <;> rfl)
  | some xs =>
   cases hs : Nat.ble xs.length 100000 with
   | false => exact Does.fail (by delta cut; dsimp only; rw [e] <;> (try dsimp only) <;> rw [hs] <;> rfl)
   | true =>
   have hsz:= Nat.le_of_ble_eq_true hs
   cases e1 : eH lo with
   | none => exact Does.fail (by delta cut; dsimp only; rw [e] <;> (try dsimp only) <;> rw [hs] <;> (try dsimp only) <;> rw [e1] <;> rfl)
   | some a =>
    cases e2 : eI xs.length hi with
    | none => exact Does.fail (by delta cut; dsimp only; rw [e] <;> (try dsimp only) <;> rw [hs] <;> (try dsimp only) <;> rw [e1] <;> (try dsimp only) <;> rw [e2] <;> rfl)
    | some b =>
     have e0 : cut (.ref n) lo hi H = zX (.lst ((xs.take b).drop a)) H:= (by delta cut; dsimp only; rw [e] <;> (try dsimp only) <;> rw [hs] <;> (try dsimp only) <;> rw [e1] <;> (try dsimp only) <;> rw [e2] <;> rfl)
     refine Does.eq (m:= zX (.lst ((xs.take b).drop a))) ?_ e0
     rcases uL (.lst ((xs.take b).drop a)) H with e3 | ⟨e3, z⟩
     ·
      exact Does.fail e3
     refine Does.ok e3 ?_
     have hl : ∃ vs, s.heap.IsList p.1 vs.toArray /\ RVs ρ xs vs:= by
      refine oO (fun ho => ?_) (fun ho => ?_) (eB e)
      ·
       refine oEA (fun vs h1 h2 => ?_) (wZ (x.rep n p _ hp ho))
       exact ⟨vs, h1.isList, h2⟩
      ·
       refine fl (x.rep n p _ hp ho) <| oEA fun vs => oEA fun o h1 h1' h2 => ?_
       exact ⟨vs, ⟨o, x.bk _ _ h1, h1'⟩, h2⟩
     revert hl; refine oEA fun vs h1 h2 => ?_
     have hlen:= h2.length
     refine oEA (fun pl i1 i2 => ?_) (ld (n:= vs.length) hlo e1)
     refine oEA (fun pu j1 j2 => ?_) (lf (n:= vs.length) (by exact hhi) (by rw [hlen]; exact e2))
     refine wpAny_getItem_list_slice h1 hsl i1 j1 .none (by simp) ?_ (by rw [List.size_toArray, hlen]; simp only [sizeLine]; lia)
     have q : slicePick vs.toArray pl pu none = ((vs.drop (min a vs.length)).take (min b vs.length - min a vs.length)).toArray:= by
      rw [slicePick_plain]
      simp only [List.size_toArray, i2, j2]
     rw [q]
     exact ⟨_, pU x (ac h2 a b), uS x (s.heap.objs.size, s.heap.objs.size)⟩
 | none => exact Does.fail rfl
 | bool _ => exact Does.fail rfl
 | int _ => exact Does.fail rfl
end
noncomputable def cJ : Blt -> Value
 | .len => .builtin "len"
 | .list => .type "list"
 | .range => .type "range"
 | .sum => .builtin "sum"
 | .max => .builtin "max"
noncomputable def bS : Mth -> String
 | .append => "list.append"
 | .count => "list.count"
 | .index => "list.index"
noncomputable def oV (a b : Int) : Int:= bif decide (a < b) then b else a
theorem kD : ∀ (l : List Int) (i : Int), (l.foldl oV i) ∈ (i :: l) /\ ∀ a ∈ (i :: l), a <= l.foldl oV i
 | [], i => by simp
 | b :: r, i => by
  have ih:= kD r (oV i b)
  rw [List.foldl_cons]
  have hm : oV i b = i \/ oV i b = b:= by unfold oV; cases decide (i < b) <;> simp
  have h1 : i <= oV i b /\ b <= oV i b:= by
   unfold oV
   by_cases h : i < b
   ·
    rw [eTr h]; simp only [cond_true]; lia
   ·
    rw [eFa h]; simp only [cond_false]; lia
  refine ⟨?_, fun a ha => ?_⟩
  ·
   refine oO (fun e => ?_) (fun e => ?_) (List.mem_cons.mp ih.1)
   ·
    rw [e]; (revert hm; refine oO (fun q => ?_) fun q => ?_) <;> rw [q] <;> simp
   ·
    simp [e]
  ·
   have h2:= ih.2 (oV i b) (by simp)
   rcases List.mem_cons.mp ha with rfl | ha
   ·
    exact as01 h1.1 h2
   ·
    rcases List.mem_cons.mp ha with rfl | ha
    ·
     exact as01 h1.2 h2
    ·
     exact ih.2 a (by simp [ha])
section
variable {prog : Program} {w : World} {B : Base} {A : Around} {fr : List Addr} {L : Addr} {W : Addr -> Prop} {s s' : Shared} {ρ : Adr} {H : Hp}
theorem kA (x : St B fr ρ H s.heap) (a b c : Int) (t u v tk : Nat) :
  Tr B fr W s ⟨s.heap.push { cls := .type "range", data := .fields #[.int a t, .int b u, .int c v] }, s.gens, s.drawn, tk, s.os⟩ ρ (ρ ++ [(s.heap.objs.size, s.heap.objs.size)]) H (H ++ [.rng a b c]) := by
 refine qI x (fun b o q => Heap.get?_push_of_some _ q) (yM _) (yM _) ?_ rfl rfl rfl
 exact ⟨t, u, v, Heap.get?_push_size _ rfl⟩
theorem cH (x : St B fr ρ H s.heap) (hh : A.handled = none) {k : Blt} {vs : List V} {bs : List Value} (hv : RVs ρ vs bs) :
  Does prog w B A fr L W (call (cJ k) bs) s ρ H (builtin k vs) relV:= by
 cases vs with
 | nil => cases k <;> exact Does.fail rfl
 | cons v vs =>
 cases bs with
 | nil => exact hv.elim
 | cons b bs =>
 revert hv; refine oA fun hv hvs => ?_
 cases k with
 | len =>
  cases vs with
  | cons _ _ => cases v <;> exact Does.fail rfl
  | nil =>
  cases bs with
  | cons _ _ => exact hvs.elim
  | nil =>
  cases v with
  | ref n =>
   revert hv; refine oEA fun p hp t02 => ?_; obtain rfl:= t02
   cases e : vH n H with
   | none => exact Does.fail (by delta builtin; dsimp only; rw [e] <;> rfl)
   | some xs =>
    cases z : Nat.ble xs.length 100000 with
    | false => exact Does.fail (by delta builtin; dsimp only; rw [e] <;> (try dsimp only) <;> rw [z] <;> rfl)
    | true =>
     have hz:= Nat.le_of_ble_eq_true z
     refine Does.ok (a:= .int xs.length) (H':= H) (by delta builtin; dsimp only; rw [e] <;> (try dsimp only) <;> rw [z] <;> rfl) ?_
     refine oO (fun ho => ?_) (fun ho => ?_) (pN e)
     ·
      refine oEA (fun vs h1 h2 => ?_) (wZ (x.rep n p _ hp ho))
      have hl:= h2.length
      refine call_len_list h1.isList (by rw [List.size_toArray]; exact yP (ml hl z) rfl) ⟨ρ, jJ x rfl rfl rfl rfl, ⟨_, by rw [List.size_toArray, hl]⟩⟩
     ·
      refine oEA (fun vs h1 h2 => ?_) (x.rep n p _ hp ho)
      have hl:= h2.length
      refine len_tuple h1 (by rw [List.size_toArray]; exact yP (ml hl z) rfl) ⟨ρ, jJ x rfl rfl rfl rfl, ⟨_, by rw [List.size_toArray, hl]⟩⟩
  | none => exact Does.fail rfl
  | bool _ => exact Does.fail rfl
  | int _ => exact Does.fail rfl
 | list =>
  cases vs with
  | cons _ _ => cases v <;> exact Does.fail rfl
  | nil =>
  cases bs with
  | cons _ _ => exact hvs.elim
  | nil =>
  cases v with
  | ref n =>
   revert hv; refine oEA fun p hp t02 => ?_; obtain rfl:= t02
   cases e : zO n H with
   | none => exact Does.fail (by delta builtin; dsimp only; rw [e] <;> rfl)
   | some xs =>
    refine Does.eq (m:= zX (.lst xs)) ?_ (by delta builtin; dsimp only; rw [e] <;> rfl)
    rcases uL (.lst xs) H with e3 | ⟨e3, z⟩
    ·
     exact Does.fail e3
    refine jC (fun _ vs ep h1 h2 => ?_) (x.rep n p _ hp (jE e))
    have hl:= h2.length
    refine Does.ok e3 (call_list_seq p.1 (.inl rfl) h1 rfl rfl (fun h' c' k1 k2 => ⟨ρ ++ [(s.heap.objs.size, s.heap.objs.size)], ?_, uS x (s.heap.objs.size, s.heap.objs.size)⟩) (by simp only [osz] at z; rw [List.size_toArray]; simp only [sizeLine]; exact yB (jO hl z) rfl))
    refine qI x k1 (yM _) (yM _) ⟨rfl, vs, c', k2, h2.mono ⟨_, rfl⟩⟩ rfl rfl rfl
  | none => exact Does.fail rfl
  | bool _ => exact Does.fail rfl
  | int _ => exact Does.fail rfl
 | range =>
  cases v with
  | int a =>
   revert hv; refine oE fun t t01 => ?_; obtain rfl:= t01
   cases vs with
   | nil =>
    cases bs with
    | cons _ _ => exact hvs.elim
    | nil =>
    cases z : small a with
    | false => exact Does.fail (by delta builtin; dsimp only; rw [z] <;> rfl)
    | true =>
     refine Does.eq (m:= zX (.rng 0 a 1)) ?_ (by delta builtin; dsimp only; rw [z] <;> rfl)
     refine Does.ok (a:= .ref H.length) (H':= H ++ [.rng 0 a 1]) rfl (call_range_1 ⟨_, kA x 0 a 1 _ _ _ _, uS x (s.heap.objs.size, s.heap.objs.size)⟩)
   | cons v2 vs =>
    cases bs with
    | nil => exact hvs.elim
    | cons b2 bs =>
    revert hvs; refine oA fun hv2 hvs => ?_
    cases v2 with
    | int b =>
     revert hv2; refine oE fun u t01 => ?_; obtain rfl:= t01
     cases vs with
     | nil => exact Does.fail rfl
     | cons v3 vs =>
      cases bs with
      | nil => exact hvs.elim
      | cons b3 bs =>
      revert hvs; refine oA fun hv3 hvs => ?_
      cases v3 with
      | int c =>
       revert hv3; refine oE fun u3 t01 => ?_; obtain rfl:= t01
       cases vs with
       | cons _ _ => exact Does.fail rfl
       | nil =>
        cases bs with
        | cons _ _ => exact hvs.elim
        | nil =>
        cases z : (small a && small b && decide (c = -1)) with
        | false => exact Does.fail (by delta builtin; dsimp only; rw [z] <;> rfl)
        | true =>
         refine Does.eq (m:= zX (.rng a b c)) ?_ (by delta builtin; dsimp only; rw [z] <;> rfl)
         simp only [Bool.and_eq_true, decide_eq_true_eq] at z
         revert z; refine oA <| oA fun z1 z2 t02 => ?_; obtain rfl:= t02
         have hd : Builtin.divisionGoesByPylong (b - a) (-1) = false:= sP (by decide)
         refine Does.ok (a:= .ref H.length) (H':= H ++ [.rng a b (-1)]) rfl (call_range_3 (by decide) ⟨_, kA x a b (-1) _ _ _ _, uS x (s.heap.objs.size, s.heap.objs.size)⟩ (.inl hd))
      | none => cases vs <;> exact Does.fail rfl
      | bool _ => cases vs <;> exact Does.fail rfl
      | ref _ => cases vs <;> exact Does.fail rfl
    | none => cases vs <;> exact Does.fail rfl
    | bool _ => cases vs <;> exact Does.fail rfl
    | ref _ => cases vs <;> exact Does.fail rfl
  | none => exact Does.fail rfl
  | bool _ => exact Does.fail rfl
  | ref _ => exact Does.fail rfl
 | sum =>
  cases vs with
  | cons _ _ => cases v <;> exact Does.fail rfl
  | nil =>
  cases bs with
  | cons _ _ => exact hvs.elim
  | nil =>
  cases v with
  | ref n =>
   revert hv; refine oEA fun p hp t02 => ?_; obtain rfl:= t02
   cases e : zO n H with
   | none => exact Does.fail (by delta builtin; dsimp only; rw [e] <;> rfl)
   | some xs =>
    cases e2 : jX xs with
    | none => exact Does.fail (by delta builtin; dsimp only; rw [e] <;> (try dsimp only) <;> rw [e2] <;> rfl)
    | some l =>
     refine Does.ok (a:= .int l.sum) (H':= H) (by delta builtin; dsimp only; rw [e] <;> (try dsimp only) <;> rw [e2] <;> rfl) ?_
     refine oEA (fun vs h1 h2 => ?_) (wZ (x.rep n p _ hp (jE e)))
     have hi:= h2.ints e2
     refine oE (fun ys ey => ?_) hi.allInts.items
     have hns : l = ys.toList.map (·.1):= by rw [<- hi.numsOf, <- nums_intItems, <- ey]
     have hl:= h1.isList
     rw [ey] at hl
     refine sum_intListG hh hl fun h' tk t' k1 => ⟨ρ, xT x k1 rfl rfl rfl, ⟨t', ?_⟩⟩
     rw [preSum_eq, List.take_of_length_le (by simp), <- hns]
  | none => exact Does.fail rfl
  | bool _ => exact Does.fail rfl
  | int _ => exact Does.fail rfl
 | max =>
  cases vs with
  | cons _ _ => cases v <;> exact Does.fail rfl
  | nil =>
  cases bs with
  | cons _ _ => exact hvs.elim
  | nil =>
  cases v with
  | ref n =>
   revert hv; refine oEA fun p hp t02 => ?_; obtain rfl:= t02
   cases e : zO n H with
   | none => exact Does.fail (by delta builtin; dsimp only; rw [e] <;> rfl)
   | some xs =>
    cases e2 : jX xs with
    | none => exact Does.fail (by delta builtin; dsimp only; rw [e] <;> (try dsimp only) <;> rw [e2] <;> rfl)
    | some l =>
     cases l with
     | nil => exact Does.fail (by delta builtin; dsimp only; rw [e] <;> (try dsimp only) <;> rw [e2] <;> rfl)
     | cons i l =>
      refine Does.ok (a:= .int (l.foldl oV i)) (H':= H) (by delta builtin; dsimp only; rw [e] <;> (try dsimp only) <;> rw [e2] <;> rfl) ?_
      refine oEA (fun vs h1 h2 => ?_) (wZ (x.rep n p _ hp (jE e)))
      have hi:= h2.ints e2
      refine oE (fun ys ey => ?_) hi.allInts.items
      have hns : (i :: l) = ys.toList.map (·.1):= by rw [<- hi.numsOf, <- nums_intItems, <- ey]
      have hl:= h1.isList
      rw [ey] at hl
      have hlen : ys.size = l.length + 1:= by
       have:= congrArg List.length hns
       simp at this; lia
      refine max_intList hh hl (by exact tu gC (as35 hlen)) fun v h' tk hv k1 => ⟨ρ, xT x k1 rfl rfl rfl, ?_⟩
      refine oE (fun t t01 => ?_) (intItems_at hv); obtain rfl:= t01
      refine ⟨t, ?_⟩
      refine oA (fun g1 g2 => ?_) (argBest_gt (numAt ys) (ys.size - 1))
      have at1 : ∀ j, j < ys.size -> numAt ys j ∈ (i :: l):= fun j hj => by
       rw [hns, numAt]
       rw [Array.getElem?_eq_getElem hj]
       simp only [Option.map_some, Option.getD_some]
       exact List.mem_map_of_mem (by simp)
      have at2 : ∀ a ∈ (i :: l), ∃ j, j < ys.size /\ a = numAt ys j:= fun a ha => by
       rw [hns] at ha
       refine oEA (fun q hq t02 => ?_) (List.mem_map.mp ha); obtain rfl:= t02
       obtain ⟨j, hj, rfl⟩:= List.getElem_of_mem hq
       have hj' : j < ys.size:= by simpa using hj
       exact ⟨j, hj', by rw [numAt, Array.getElem?_eq_getElem hj']; simp⟩
      have m:= kD l i
      have c1:= m.2 _ (at1 _ (by lia : argBest (fun i j => decide (numAt ys i > numAt ys j)) (ys.size - 1) < ys.size))
      refine oEA (fun j hj ej => ?_) (at2 _ m.1)
      have c2:= g2 j (by exact ar49 hj)
      rw [<- ej] at c2
      have : numAt ys (argBest (fun i j => decide (numAt ys i > numAt ys j)) (ys.size - 1)) = l.foldl oV i:= by lia
      rw [this]
  | none => exact Does.fail rfl
  | bool _ => exact Does.fail rfl
  | int _ => exact Does.fail rfl
theorem av (x : St B fr ρ H s.heap) {k : Mth} {v : V} {vs : List V} {b : Value} {bs : List Value} (hb : RV ρ v b) (hv : RVs ρ vs bs) :
  Does prog w B A fr L W (call (.builtin (bS k)) (b :: bs)) s ρ H (yX k v vs) relV:= by
 cases v with
 | ref n =>
  revert hb; refine oEA fun p hp t02 => ?_; obtain rfl:= t02
  cases vs with
  | nil => cases k <;> exact Does.fail rfl
  | cons y vs =>
  cases bs with
  | nil => exact hv.elim
  | cons c bs =>
  revert hv; refine oA fun hy hvs => ?_
  cases vs with
  | cons _ _ => cases k <;> first | exact Does.fail rfl | (cases y <;> exact Does.fail rfl)
  | nil =>
  cases bs with
  | cons _ _ => exact hvs.elim
  | nil =>
  cases k with
  | append =>
   cases e : zO n H with
   | none => exact Does.fail (by delta yX; dsimp only; rw [e] <;> rfl)
   | some xs =>
    cases z : Nat.ble xs.length 100000 with
    | false => exact Does.fail (by delta yX; dsimp only; rw [e] <;> (try dsimp only) <;> rw [z] <;> rfl)
    | true =>
     have hz:= Nat.le_of_ble_eq_true z
     have ho:= jE e
     refine Does.ok (a:= .none) (H':= H.set n (.lst (xs ++ [y]))) (by delta yX; dsimp only; rw [e] <;> (try dsimp only) <;> rw [z] <;> rfl) ?_
     refine jC (fun hp2 vs ep h1 h2 => ?_) (x.rep n p _ hp ho)
     refine wpAny_list_append_plain ⟨ep, h1⟩ (fun h' g1 g2 => ⟨ρ, ?_, rfl⟩) (by have:= h2.length; rw [List.size_toArray]; simp only [sizeLine]; exact yB (ml this z) rfl)
     revert g1; refine oE fun ep' g1 => ?_
     refine sO x hp ho rfl rfl (fun b o z1 _ hb => (g2.2 b z1).trans hb) ⟨hp2, vs ++ [c], ep', ?_, h2.append ⟨hy, trivial⟩⟩ rfl rfl rfl
     rw [g1]; simp
  | count =>
   cases y with
   | int i =>
    revert hy; refine oE fun t t01 => ?_; obtain rfl:= t01
    cases e : zO n H with
    | none => exact Does.fail (by delta yX; dsimp only; rw [e] <;> rfl)
    | some xs =>
     cases e2 : jX xs with
     | none => exact Does.fail (by delta yX; dsimp only; rw [e] <;> (try dsimp only) <;> rw [e2] <;> rfl)
     | some l =>
      refine Does.ok (a:= .int (l.count i)) (H':= H) (by delta yX; dsimp only; rw [e] <;> (try dsimp only) <;> rw [e2] <;> rfl) ?_
      refine oEA (fun vs h1 h2 => ?_) (wZ (x.rep n p _ hp (jE e)))
      exact count_list_ints h1.isList (h2.ints e2) ⟨ρ, jJ x rfl rfl rfl rfl, ⟨_, rfl⟩⟩
   | _ => exact Does.fail rfl
  | index =>
   cases y with
   | int i =>
    revert hy; refine oE fun t t01 => ?_; obtain rfl:= t01
    cases e : zO n H with
    | none => exact Does.fail (by delta yX; dsimp only; rw [e] <;> rfl)
    | some xs =>
     cases e2 : jX xs with
     | none => exact Does.fail (by delta yX; dsimp only; rw [e] <;> (try dsimp only) <;> rw [e2] <;> rfl)
     | some l =>
      cases z : (PyData.layable0 (.list (l.map .int)) && decide (i ∈ l)) with
      | false => exact Does.fail (by delta yX; dsimp only; rw [e] <;> (try dsimp only) <;> rw [e2] <;> (try dsimp only) <;> rw [z] <;> rfl)
      | true =>
       refine Does.ok (a:= .int (l.idxOf i)) (H':= H) (by delta yX; dsimp only; rw [e] <;> (try dsimp only) <;> rw [e2] <;> (try dsimp only) <;> rw [z] <;> rfl) ?_
       simp only [Bool.and_eq_true, decide_eq_true_eq] at z
       refine oEA (fun vs h1 h2 => ?_) (wZ (x.rep n p _ hp (jE e)))
       exact index_list_ints h1.isList (h2.ints e2) z.1 z.2 ⟨ρ, jJ x rfl rfl rfl rfl, ⟨_, rfl⟩⟩
   | _ => exact Does.fail rfl
 | none => cases k <;> exact Does.fail rfl
 | bool _ => cases k <;> exact Does.fail rfl
 | int _ => cases k <;> exact Does.fail rfl
end
theorem uO {M : Model} {A : Around} {α β : Type} {E : Value -> Shared -> Prop} {s : Shared} {m : Sem α} {f : α -> β} {Q : β -> Shared -> Prop} (h : wpAny M A (f <$> m) Q E s) : wpAny M A m (fun a s' => Q (f a) s') E s :=
 fun Γ p hΓ => by have:= h Γ p hΓ; rw [Sem.wp_map] at this; exact this
section
variable {prog : Program} {w : World} {B : Base} {A : Around} {fr : List Addr} {L : Addr} {W : Addr -> Prop} {s : Shared} {ρ : Adr} {H : Hp} {α β γ δ : Type}
theorem Does.seq {m : Mo α} {f : α -> Mo γ} {t : Sem β} {g : β -> Sem δ} {t' : Sem δ} {P : β -> Shared -> Prop} {rel : Adr -> Hp -> α -> β -> Shared -> Prop} {rel' : Adr -> Hp -> γ -> δ -> Shared -> Prop}
  (h : Does prog w B A fr L W t s ρ H m rel)
  (c : ∀ (Q : δ -> Shared -> Prop) (E : Value -> Shared -> Prop), wpAny (model prog w) A t (fun b s' => P b s' /\ wpAny (model prog w) A (g b) Q E s') E s -> wpAny (model prog w) A t' Q E s)
  (k : ∀ a b ρ' H' s', Tr B fr W s s' ρ ρ' H H' -> rel ρ' H' a b s' -> P b s' /\ Does prog w B A fr L W (g b) s' ρ' H' (f a) rel') :
  Does prog w B A fr L W t' s ρ H (bnd m f) rel':= by
 unfold Does at h ⊢
 unfold bnd
 cases e : m H with
 | fail => trivial
 | exc H' => rw [e] at h; exact c _ _ (wpAny_mono h (fun _ _ z => z.elim) fun _ _ z => z)
 | ok a H' =>
  rw [e] at h
  dsimp only at h ⊢
  unfold Does at k
  cases e2 : f a H' with
  | fail => trivial
  | ok v H'' =>
   refine c _ _ (wpAny_mono h (fun b s' z => ?_) fun _ _ z => z.elim)
   revert z; refine oEA fun ρ' x y => ?_
   have q:= k a b ρ' H' s' x y
   rw [e2] at q
   exact ⟨q.1, wpAny_mono q.2 (fun b s'' => oEA fun ρ'' x' y' => ⟨ρ'', x.trans x', y'⟩) fun _ _ z => z⟩
  | exc H'' =>
   refine c _ _ (wpAny_mono h (fun b s' z => ?_) fun _ _ z => z.elim)
   revert z; refine oEA fun ρ' x y => ?_
   have q:= k a b ρ' H' s' x y
   rw [e2] at q
   exact ⟨q.1, wpAny_mono q.2 (fun _ _ z => z) fun _ _ => oEA fun ρ'' x' y' => ⟨ρ'', x.trans x', y'.back x⟩⟩
theorem Does.seq' {m : Mo α} {f : α -> Mo γ} {t : Sem β} {g : β -> Sem δ} {t' : Sem δ} {rel : Adr -> Hp -> α -> β -> Shared -> Prop} {rel' : Adr -> Hp -> γ -> δ -> Shared -> Prop}
  (h : Does prog w B A fr L W t s ρ H m rel)
  (c : ∀ (Q : δ -> Shared -> Prop) (E : Value -> Shared -> Prop), wpAny (model prog w) A t (fun b s' => wpAny (model prog w) A (g b) Q E s') E s -> wpAny (model prog w) A t' Q E s)
  (k : ∀ a b ρ' H' s', Tr B fr W s s' ρ ρ' H H' -> rel ρ' H' a b s' -> Does prog w B A fr L W (g b) s' ρ' H' (f a) rel') :
  Does prog w B A fr L W t' s ρ H (bnd m f) rel' :=
 Does.seq (P:= fun _ _ => True) h (fun Q E z => c Q E (wpAny_mono z (fun _ _ q => q.2) fun _ _ q => q)) fun a b ρ' H' s' x y => ⟨trivial, k a b ρ' H' s' x y⟩
theorem Does.map {m : Mo α} {f : α -> γ} {t : Sem β} {g : β -> δ} {rel : Adr -> Hp -> α -> β -> Shared -> Prop} {rel' : Adr -> Hp -> γ -> δ -> Shared -> Prop}
  (h : Does prog w B A fr L W t s ρ H m rel) (k : ∀ a b ρ' H' s', Tr B fr W s s' ρ ρ' H H' -> rel ρ' H' a b s' -> rel' ρ' H' (f a) (g b) s') :
  Does prog w B A fr L W (g <$> t) s ρ H (bnd m fun a => ret (f a)) rel':= by
 unfold Does at h ⊢
 unfold bnd ret
 cases e : m H with
 | fail => trivial
 | exc H' => rw [e] at h; exact wpAny_map (wpAny_mono h (fun _ _ z => z) fun _ _ z => z)
 | ok a H' => rw [e] at h; exact wpAny_map (wpAny_mono h (fun b s' => oEA fun ρ' x y => ⟨ρ', x, k _ _ _ _ _ x y⟩) fun _ _ z => z)
theorem dF {x : Sem Value} {rest : List (Bool × Sem Value)} {m : Mo V} {ms : Mo (List V)} (h : Does prog w B A fr L W x s ρ H m relV)
  (k : ∀ ρ' H' s', Tr B fr W s s' ρ ρ' H H' -> Does prog w B A fr L W (spliced rest) s' ρ' H' ms relVs) :
  Does prog w B A fr L W (spliced ((false, x) :: rest)) s ρ H (bnd m fun v => bnd ms fun vs => ret (v :: vs)) relVs:= by
 refine Does.seq' (g:= fun v => (fun vs => v :: vs) <$> spliced rest) h (fun Q E z => spliced_cons (wpAny_mono z (fun _ _ q => uO q) fun _ _ q => q)) fun a b ρ' H' s' tr r => ?_
 refine Does.map (k ρ' H' s' tr) fun vs bs ρ'' H'' s'' tr' r' => ⟨r.mono tr'.ext, r'⟩
theorem hU {M : Model} {A : Around} {E : Value -> Shared -> Prop} {f : Value} {ts : List (Bool × Sem Value)} (hp : ∀ t ∈ ts, t.1 = false) {Q : Args -> Shared -> Prop}
  (h : wpAny M A (spliced ts) (fun vs s' => Q ⟨vs, []⟩ s') E s) : wpAny M A (evalArgs f true ts []) Q E s:= by
 cases ts with
 | nil =>
  unfold evalArgs
  show wpAny M A (spliced [] >>= _) Q E s
  refine wpAny_bind (wpAny_mono h (fun vs s' h' => ?_) fun _ _ q => q)
  refine wpAny_bind (wpAny_pure (wpAny_holding ?_))
  exact wpAny_bind (wpAny_pure (wpAny_bind (wpAny_pure (wpAny_pure h'))))
 | cons t ts =>
  obtain ⟨b, x⟩:= t
  have : b = false:= hp _ (.head _)
  subst this
  exact evalArgs_plain h
theorem jT {M : Model} {A : Around} {E : Value -> Shared -> Prop} {f : Value} {pos : Pos} {first : List Value} {ts : List (Bool × Sem Value)} (hp : ∀ t ∈ ts, t.1 = false) {Q : Value -> Shared -> Prop}
  (h : wpAny M A (spliced ts) (fun vs s₁ => (∀ Q' : Keeper -> Shared -> Prop, (Q' .machine s₁ /\ Q' .frame s₁) -> wpAny M A (keeperOf f) Q' E s₁) /\ wpAny M A (call f (first ++ vs) []) Q E s₁) E s) :
  wpAny M A (callWith pos f first ts []) Q E s:= by
 have hany : ts.any (·.1) = false:= by
  rw [List.any_eq_false]; intro x hx; rw [hp x hx]; exact Bool.false_ne_true
 unfold callWith
 refine wpAny_bind (wpAny_holding (hU hp (wpAny_mono h (fun vs s₁ h₁ => wpAny_bind (wpAny_standAt ?_)) fun _ _ x => x)))
 have tail : ∀ {t : Sem Value}, wpAny M A t Q E s₁ -> wpAny M A (t >>= fun r => holding [r] point >>= fun _ => pure r) Q E s₁ :=
  fun ht => wpAny_bind (wpAny_mono ht (fun r s₂ hr => wpAny_bind (wpAny_holding (wpAny_point (wpAny_pure hr)))) fun _ _ x => x)
 simp only [hany, List.any_nil, Bool.or_false]
 refine wpAny_bind (h₁.1 _ ⟨?_, ?_⟩)
 ·
  exact tail h₁.2
 ·
  dsimp only
  split
  ·
   exact tail h₁.2
  ·
   exact tail (by unfold callMarked; exact wpAny_keep h₁.2)
end
theorem yC {α β γ : Type} (m : Mo α) (f : α -> Mo β) (g : β -> Mo γ) : bnd (bnd m f) g = bnd m fun a => bnd (f a) g:= by
 funext h
 unfold bnd
 cases m h <;> rfl
theorem qV {α β : Type} {m : Mo α} {f : α -> Mo β} {H : Hp} (e : m H = .fail) : bnd m f H = .fail:= by delta bnd; rw [e]
theorem nG {α β : Type} {m : Mo α} {f : α -> Mo β} {H H' : Hp} (e : m H = .exc H') : bnd m f H = .exc H':= by delta bnd; rw [e]
theorem tX {α β : Type} {m : Mo α} {f : α -> Mo β} {H H' : Hp} {a : α} (e : m H = .ok a H') : bnd m f H = f a H':= by delta bnd; rw [e]
theorem hV {α β : Type} (a : α) (f : α -> Mo β) : bnd (ret a) f = f a:= rfl
theorem lu {α : Type} (m : Mo α) : bnd m ret = m:= by
 funext h; unfold bnd ret; cases m h <;> rfl
structure GlobOk (T : Tab) (B : Base) : Prop where
 it : ∃ mg mb, B.hp.Ns mainGlobals mg /\ B.hp.Ns builtinsNs mb /\ (∀ x v, get x T.glb = some v -> ∃ u, mg (nm x) = some u /\ RV B.ad v u) /\
  (∀ f a, B.fn f = some a -> mS f = false -> mg (nm f) = some (.ref a)) /\ (∀ c C, B.cls c = some C -> mg (nm c) = some (.ref C)) /\ (∀ k, mg (uV k) = none /\ mb (uV k) = some (cJ k)) /\ mg vU = some (.ref B.bad)
section
variable (prog : Program) (w : World) (B : Base) (A : Around) (fr : List Addr) (L : Addr)
noncomputable def mz (call : Call) : Prop:= ∀ f, (xI f tab.fns).isSome = true -> ∃ a, B.fn f = some a /\ (∃ o fd, B.hp.get? a = some o /\ o.data = .func fd) /\
 ∀ vs bs s ρ H, St B fr ρ H s.heap -> RVs ρ vs bs -> Does prog w B A fr L zE (PySem.call (.ref a) bs) s ρ H (call f vs) relV
noncomputable def bT (T : Tab) (call : Call) (c : Nat) (vs : List V) : Mo V:= match xI c T.inits with
 | some f => bnd (zX (.ins c [])) fun o => bnd (call f (o :: vs)) fun r => match r with
  | .none => ret o
  | _ => bad
 | .none => bad
noncomputable def aK (T : Tab) (call : Call) : Prop:= ∀ c, (xI c tab.inits).isSome = true -> ∃ C fI, B.cls c = some C /\ ClassOk B C fI /\
 ∀ vs bs s ρ H, St B fr ρ H s.heap -> RVs ρ vs bs -> Does prog w B A fr L zE (PySem.call (.ref C) bs) s ρ H (bT T call c vs) relV
end
section
variable {prog : Program} {w : World} {B : Base} {A : Around} {fr : List Addr} {L : Addr} {W : Addr -> Prop} {s : Shared} {ρ : Adr} {H : Hp} {T : Tab} {call : Call}
theorem rv_ini (x : St B fr ρ H s.heap) {v : V} {u : Value} (h : RV B.ad v u) : RV ρ v u:= by
 cases v with
 | ref n => revert h; refine oEA fun p hp e => ?_; exact ⟨p, x.ini n p hp, e⟩
 | none => exact h
 | bool _ => exact h
 | int _ => exact h
theorem xM {x : Nat} {y : Str} (h : rO x y = true) : x < nmS.length /\ y = nm x:= by
 unfold rO at h
 simp only [Bool.and_eq_true, decide_eq_true_eq] at h
 exact ⟨Nat.le_of_ble_eq_true h.1, h.2⟩
theorem rY : ∀ i, i < nmS.length -> (nm i == ("__debug__" : Str)) = false /\ (nm i == ("__classdict__" : Str)) = false := by
 have k : nmS.all (fun x => !(x == ("__debug__" : Str)) && !(x == ("__classdict__" : Str))) = true := by decide +kernel
 intro i hi
 have:= List.all_eq_true.mp k (nm i) (dP hi)
 simp only [Bool.and_eq_true, Bool.not_eq_true'] at this
 exact this
theorem kh {k : Option NameKind} (h : bX k = true) : k = some .local \/ k = some .cell \/ k = some .free:= by
 unfold bX at h
 split at h <;> simp_all
theorem fY {k : Option NameKind} (h : rT k = true) : k = some .globalImplicit:= by
 unfold rT at h
 split at h <;> simp_all
theorem jm {env : Env} {l : Loc} {x : Nat} {q : Pos} {v : V} (hx : x < nmS.length) (hk : bX (env.kindOf (nm x)) = true) (I : EnvI B env l ρ H s) (e : get x l = some v) :
  ∃ u, RV ρ v u /\ ∀ (Q : Value -> Shared -> Prop) (E : Value -> Shared -> Prop), Q u s -> wpAny (model prog w) A (PySem.eval (.Name (nm x) q) env) Q E s:= by
 rcases kh hk with k | k | k
 ·
  refine oEA (fun m hn hm => ?_) I.ns
  have z:= hm x hx k
  rw [e] at z
  refine oEA (fun u h1 h2 => ?_) (vV z)
  exact ⟨u, h2, fun Q E h => wpAny_Name (wpAny_loadName_local I.kind k hn h1 h) (rY x hx).1⟩
 ·
  refine yN (fun c v' h1 h2 h3 _ _ => ?_) (I.cells x hx (.inl k))
  rw [e] at h3
  refine oEA (fun u t01 h4 => ?_) (vV h3); obtain rfl:= t01
  exact ⟨u, h4, fun Q E h => wpAny_Name (wpAny_loadName_cell I.kind k h1 h2 h) (rY x hx).1⟩
 ·
  refine yN (fun c v' h1 h2 h3 _ _ => ?_) (I.cells x hx (.inr k))
  rw [e] at h3
  refine oEA (fun u t01 h4 => ?_) (vV h3); obtain rfl:= t01
  exact ⟨u, h4, fun Q E h => wpAny_Name (wpAny_loadName_free I.kind k h1 h2 h (rY x hx).2) (rY x hx).1⟩
theorem qO {env : Env} {y : Str} {q : Pos} {u : Value} {mg : Str -> Option Value} (x : St B fr ρ H s.heap) (hk : rT (env.kindOf y) = true) (I : EnvI B env l ρ H s) (hg : B.hp.Ns mainGlobals mg) (e : mg y = some u) (hd : (y == ("__debug__" : Str)) = false)
  (Q : Value -> Shared -> Prop) (E : Value -> Shared -> Prop) (h : Q u s) : wpAny (model prog w) A (PySem.eval (.Name y q) env) Q E s :=
 Name_function_global I.kind (fY hk) (loadGlobal_global (by rw [I.glob]; exact hg.keeps x.bk) e h) hd
theorem jp {env : Env} {y : Str} {q : Pos} {u : Value} {mg mb : Str -> Option Value} (x : St B fr ρ H s.heap) (hk : rT (env.kindOf y) = true) (I : EnvI B env l ρ H s) (hg : B.hp.Ns mainGlobals mg) (hb : B.hp.Ns builtinsNs mb) (e : mg y = none) (e2 : mb y = some u) (hd : (y == ("__debug__" : Str)) = false)
  (Q : Value -> Shared -> Prop) (E : Value -> Shared -> Prop) (h : Q u s) : wpAny (model prog w) A (PySem.eval (.Name y q) env) Q E s :=
 Name_function_global I.kind (fY hk) (loadGlobal_builtin (by rw [I.glob]; exact hg.keeps x.bk) e (by rw [I.bui]; exact hb.keeps x.bk) e2 h) hd
section props
variable (prog w B A fr L T call)
noncomputable abbrev Pre (env : Env) (K : Kd) (l : Loc) (ρ : Adr) (H : Hp) (s : Shared) : Prop:= (∀ x, env.kindOf x = K x) /\ EnvI B env l ρ H s /\ St B fr ρ H s.heap
noncomputable def PE (m : ME) : Prop:= ∀ K e, chk m K e = true -> ∀ env l s ρ H, Pre B fr env K l ρ H s -> Does prog w B A fr L zE (PySem.eval e env) s ρ H (eval T call m l) relV
noncomputable def PT (m : ME) : Prop:= ∀ K e, chk m K e = true -> ∀ env l s ρ H, Pre B fr env K l ρ H s -> Does prog w B A fr L zE (isTrue e env (PySem.eval e env)) s ρ H (bnd (eval T call m l) truth) relT
noncomputable def PL (m : ME) : Prop:= ∀ K es, qF m K es = true -> ∀ q env l s ρ H, Pre B fr env K l ρ H s -> Does prog w B A fr L zE (spliced (backTo q (starEach es env))) s ρ H (wR T call m l) relVs
noncomputable def cw (m : ME) : Prop:= ∀ K es, qF m K es = true -> es ≠ [] -> ∀ q env l s ρ H, Pre B fr env K l ρ H s ->
 Does prog w B A fr L zE (boolOp q .And (evalEach es env)) s ρ H (wM T call m l) relV /\ Does prog w B A fr L zE (allTrue .And es env) s ρ H (bnd (wM T call m l) truth) relT
noncomputable def PO (m : ME) : Prop:= ∀ K es, qF m K es = true -> es ≠ [] -> ∀ q env l s ρ H, Pre B fr env K l ρ H s ->
 Does prog w B A fr L zE (boolOp q .Or (evalEach es env)) s ρ H (uJ T call m l) relV /\ Does prog w B A fr L zE (allTrue .Or es env) s ρ H (bnd (uJ T call m l) truth) relT
noncomputable def PC (m : ME) : Prop:= ∀ K ops es, lO m K ops es = true -> ops ≠ [] -> ∀ q env l s ρ H v b, Pre B fr env K l ρ H s -> RV ρ v b ->
 Does prog w B A fr L zE (compareChain q b ops (evalEach es env)) s ρ H (vP T call m l v) relB /\ Does prog w B A fr L zE (testChain q b ops (evalEach es env)) s ρ H (vP T call m l v) relT
end props
theorem Pre.tr {env : Env} {K : Kd} {l : Loc} {s' : Shared} {ρ' : Adr} {H' : Hp} (p : Pre B fr env K l ρ H s) (t : Tr B fr zE s s' ρ ρ' H H') : Pre B fr env K l ρ' H' s' :=
 ⟨p.1, p.2.1.tr t, t.st⟩
theorem dE {m : ME} {K : Kd} {e : PySem.Expr} (he : PE prog w B A fr L T call m) (hc : chk m K e = true) {env : Env} {l : Loc} (p : Pre B fr env K l ρ H s)
  (hi : isTrue e env (PySem.eval e env) = (do let v <- PySem.eval e env; standAt e.pos; holding [v] (truthy v))) : Does prog w B A fr L zE (isTrue e env (PySem.eval e env)) s ρ H (bnd (eval T call m l) truth) relT:= by
 rw [hi]
 exact Does.bind (he K e hc env l s ρ H p) fun a b ρ' H' s' t r => Does.at (Does.hold (pJ t.st r))
end
section
variable {prog : Program} {w : World} {B : Base} {A : Around} {fr : List Addr} {L : Addr} {W : Addr -> Prop} {T : Tab} {call : Call} {a b c m : ME}
theorem nj : PE prog w B A fr L T call .none:= by
 intro K e hc env l s ρ H p
 apply wT (e:= e) hc
 intro c k q hc
 apply lp (e:= c) hc
 intro hc
 exact Does.ok rfl (wpAny_Constant_none ⟨ρ, Tr.refl p.2.2, rfl⟩)
theorem ve {i : Int} : PE prog w B A fr L T call (.int i):= by
 intro K e hc env l s ρ H p
 apply wT (e:= e) hc
 intro c k q hc
 apply se (e:= c) hc
 intro j hc
 have:= dTr hc
 subst this
 exact Does.ok rfl (wpAny_Constant_int ⟨ρ, jJ p.2.2 rfl rfl rfl rfl, ⟨_, rfl⟩⟩)
theorem nt {i : Bool} : PE prog w B A fr L T call (.bool i):= by
 intro K e hc env l s ρ H p
 apply wT (e:= e) hc
 intro c k q hc
 apply eO (e:= c) hc
 intro j hc
 have:= eq_of_beq hc
 subst this
 exact Does.ok rfl (wpAny_Constant_bool ⟨ρ, Tr.refl p.2.2, rfl⟩)
theorem uz {x : Nat} : PE prog w B A fr L T call (.loc x):= by
 intro K e hc env l s ρ H p
 apply yF (e:= e) hc
 intro y q hc
 refine oA (fun hx t01 => ?_) (xM (bL hc)); obtain rfl:= t01
 cases e : get x l with
 | none => exact Does.fail (by show opt _ H = _; rw [e]; rfl)
 | some v =>
  obtain ⟨u, h1, h2⟩:= jm (q:= q) hx (by rw [p.1]; exact (bR hc)) p.2.1 e
  exact Does.ok (a:= v) (H':= H) (by show opt _ H = _; rw [e]; rfl) (h2 _ _ ⟨ρ, Tr.refl p.2.2, h1⟩)
theorem vf (G : GlobOk T B) {x : Nat} : PE prog w B A fr L T call (.glb x):= by
 intro K e hc env l s ρ H p
 apply yF (e:= e) hc
 intro y q hc
 refine oA (fun hx t01 => ?_) (xM (bL hc)); obtain rfl:= t01
 refine qL (fun mg mb g1 g2 g3 _ => ?_) G.it
 cases e : get x T.glb with
 | none => exact Does.fail (by show opt _ H = _; rw [e]; rfl)
 | some v =>
  refine oEA (fun u h1 h2 => ?_) (g3 x v e)
  exact Does.ok (a:= v) (H':= H) (by show opt _ H = _; rw [e]; rfl) (qO p.2.2 (by rw [p.1]; exact (bR hc)) p.2.1 g1 h1 (rY x hx).1 _ _ ⟨ρ, Tr.refl p.2.2, rv_ini p.2.2 h2⟩)
theorem vh {o : BOp} (ha : PE prog w B A fr L T call a) (hb : PE prog w B A fr L T call b) : PE prog w B A fr L T call (.bin o a b):= by
 intro K e hc env l s ρ H p
 apply iF (e:= e) hc
 intro le op re q hc
 have ho:= bL (bL hc)
 have h1:= bR (bL hc)
 have h2:= bR hc
 cases oZ ho
 show Does prog w B A fr L zE (do let a <- PySem.eval le env; let b <- holding [a] (PySem.eval re env); standAt q; operate [a, b] (binaryOp (qC o) a b)) s ρ H (bnd (eval T call a l) fun v => bnd (eval T call b l) fun w => yU o v w) relV
 refine Does.bind (ha K le h1 env l s ρ H p) fun v u ρ1 H1 s1 t1 r1 => ?_
 refine Does.bind (Does.hold (hb K re h2 env l s1 ρ1 H1 (p.tr t1))) fun v2 u2 ρ2 H2 s2 t2 r2 => ?_
 exact Does.at (Does.operate (lw t2.st (r1.mono t2.ext) r2))
theorem uw (ha : PE prog w B A fr L T call a) : PE prog w B A fr L T call (.neg a):= by
 intro K e hc env l s ρ H p
 apply sM (e:= e) hc
 intro o x q hc
 obtain rfl:= dTr (bL hc)
 have hc:= bR hc
 show Does prog w B A fr L zE (do let v <- PySem.eval x env; standAt q; holding [v] (unaryOp .USub v)) s ρ H (bnd (eval T call a l) _) relV
 refine Does.bind (ha K x hc env l s ρ H p) fun v u ρ1 H1 s1 t1 r1 => Does.at (Does.hold ?_)
 cases v with
 | int i =>
  revert r1; refine oE fun t t01 => ?_; obtain rfl:= t01
  exact Does.ok rfl (neg_int ⟨ρ1, jJ t1.st rfl rfl rfl rfl, ⟨_, rfl⟩⟩)
 | _ => exact Does.fail rfl
theorem vd (ha : PE prog w B A fr L T call a) : PE prog w B A fr L T call (.inv a):= by
 intro K e hc env l s ρ H p
 apply sM (e:= e) hc
 intro o x q hc
 obtain rfl:= dTr (bL hc)
 have hc:= bR hc
 show Does prog w B A fr L zE (do let v <- PySem.eval x env; standAt q; holding [v] (unaryOp .Invert v)) s ρ H (bnd (eval T call a l) _) relV
 refine Does.bind (ha K x hc env l s ρ H p) fun v u ρ1 H1 s1 t1 r1 => Does.at (Does.hold ?_)
 cases v with
 | int i =>
  revert r1; refine oE fun t t01 => ?_; obtain rfl:= t01
  exact Does.ok rfl (invert_int ⟨ρ1, jJ t1.st rfl rfl rfl rfl, ⟨_, rfl⟩⟩)
 | _ => exact Does.fail rfl
theorem E_not (ha : PE prog w B A fr L T call a) : PE prog w B A fr L T call (.not a):= by
 intro K e hc env l s ρ H p
 apply sM (e:= e) hc
 intro o x q hc
 obtain rfl:= dTr (bL hc)
 have hc:= bR hc
 show Does prog w B A fr L zE (do let v <- PySem.eval x env; standAt q; holding [v] (unaryOp .Not v)) s ρ H (bnd (bnd (eval T call a l) truth) fun b => ret (.bool (!b))) relV
 rw [yC]
 refine Does.bind (ha K x hc env l s ρ H p) fun v u ρ1 H1 s1 t1 r1 => Does.at (Does.hold ?_)
 have z:= pJ (prog:= prog) (w:= w) (A:= A) (L:= L) (W:= zE) t1.st r1
 unfold Does at z ⊢
 unfold bnd
 cases e : truth v H1 with
 | fail => trivial
 | exc H' => rw [e] at z; exact not_of (wpAny_mono z (fun _ _ q => q.elim) fun _ _ q => q)
 | ok b H' =>
  rw [e] at z
  exact not_of (wpAny_mono z (fun c s' => oEA fun ρ' t q => ⟨ρ', t, by cases q; rfl⟩) fun _ _ q => q)
theorem E_ite (hc' : PT prog w B A fr L T call c) (ha : PE prog w B A fr L T call a) (hb : PE prog w B A fr L T call b) : PE prog w B A fr L T call (.ite c a b):= by
 intro K e hc env l s ρ H p
 apply eZ (e:= e) hc
 intro t x y q hc
 have h1:= bL (bL hc)
 have h2:= bR (bL hc)
 have h3:= bR hc
 show Does prog w B A fr L zE (do if <- isTrue t env (PySem.eval t env) then PySem.eval x env else PySem.eval y env) s ρ H (bnd (bnd (eval T call c l) truth) _) relV
 refine Does.bind (hc' K t h1 env l s ρ H p) fun v u ρ1 H1 s1 t1 r1 => ?_
 cases r1
 cases v with
 | true => exact ha K x h2 env l s1 ρ1 H1 (p.tr t1)
 | false => exact hb K y h3 env l s1 ρ1 H1 (p.tr t1)
theorem T_ite (hc' : PT prog w B A fr L T call c) (ha : PT prog w B A fr L T call a) (hb : PT prog w B A fr L T call b) : PT prog w B A fr L T call (.ite c a b):= by
 intro K e hc env l s ρ H p
 apply eZ (e:= e) hc
 intro t x y q hc
 have h1:= bL (bL hc)
 have h2:= bR (bL hc)
 have h3:= bR hc
 show Does prog w B A fr L zE (do if <- isTrue t env (PySem.eval t env) then isTrue x env (PySem.eval x env) else isTrue y env (PySem.eval y env)) s ρ H (bnd (bnd (bnd (eval T call c l) truth) fun t => match t with
  | true => eval T call a l
  | false => eval T call b l) truth) relT
 rw [yC]
 refine Does.bind (hc' K t h1 env l s ρ H p) fun v u ρ1 H1 s1 t1 r1 => ?_
 cases r1
 cases v with
 | true => exact ha K x h2 env l s1 ρ1 H1 (p.tr t1)
 | false => exact hb K y h3 env l s1 ρ1 H1 (p.tr t1)
theorem T_not (ha : PT prog w B A fr L T call a) : PT prog w B A fr L T call (.not a):= by
 intro K e hc env l s ρ H p
 apply sM (e:= e) hc
 intro o x q hc
 obtain rfl:= dTr (bL hc)
 have hc:= bR hc
 show Does prog w B A fr L zE (do return !(<- isTrue x env (PySem.eval x env))) s ρ H (bnd (bnd (bnd (eval T call a l) truth) fun b => ret (.bool (!b))) truth) relT
 rw [yC]
 refine Does.bind (ha K x hc env l s ρ H p) fun v u ρ1 H1 s1 t1 r1 => ?_
 cases r1
 exact Does.pur t1.st rfl
theorem E_and (ha : cw prog w B A fr L T call a) : PE prog w B A fr L T call (.and a):= by
 intro K e hc env l s ρ H p
 apply uA (e:= e) hc
 intro o es q hc
 obtain rfl:= dTr (bL hc)
 have hc:= bR hc
 exact (ha K es (bL hc) (by rintro rfl; exact ff (bR hc)) q env l s ρ H p).1
theorem T_and (ha : cw prog w B A fr L T call a) : PT prog w B A fr L T call (.and a):= by
 intro K e hc env l s ρ H p
 apply uA (e:= e) hc
 intro o es q hc
 obtain rfl:= dTr (bL hc)
 have hc:= bR hc
 exact (ha K es (bL hc) (by rintro rfl; exact ff (bR hc)) q env l s ρ H p).2
theorem E_or (ha : PO prog w B A fr L T call a) : PE prog w B A fr L T call (.or a):= by
 intro K e hc env l s ρ H p
 apply uA (e:= e) hc
 intro o es q hc
 obtain rfl:= dTr (bL hc)
 have hc:= bR hc
 exact (ha K es (bL hc) (by rintro rfl; exact ff (bR hc)) q env l s ρ H p).1
theorem T_or (ha : PO prog w B A fr L T call a) : PT prog w B A fr L T call (.or a):= by
 intro K e hc env l s ρ H p
 apply uA (e:= e) hc
 intro o es q hc
 obtain rfl:= dTr (bL hc)
 have hc:= bR hc
 exact (ha K es (bL hc) (by rintro rfl; exact ff (bR hc)) q env l s ρ H p).2
theorem E_cmp (ha : PE prog w B A fr L T call a) (hb : PC prog w B A fr L T call b) (hm : ∀ K ops es env, lO b K ops es = true -> markedEach ops es (evalEach es env) = evalEach es env) : PE prog w B A fr L T call (.cmp a b):= by
 intro K e hc env l s ρ H p
 apply iC (e:= e) hc
 intro le ops es q hc
 have h1:= bL (bL hc)
 have h2:= bR (bL hc)
 have h3:= bR hc
 show Does prog w B A fr L zE (do compareChain q (<- PySem.eval le env) ops (markedEach ops es (evalEach es env))) s ρ H (bnd (eval T call a l) fun v => bnd (vP T call b l v) fun b => ret (.bool b)) relV
 rw [hm K ops es env h2]
 refine Does.bind (ha K le h1 env l s ρ H p) fun v u ρ1 H1 s1 t1 r1 => ?_
 have z:= (hb K ops es h2 (by rintro rfl; exact ff h3) q env l s1 ρ1 H1 v u (p.tr t1) r1).1
 unfold Does at z ⊢
 unfold bnd
 cases e : vP T call b l v H1 with
 | fail => trivial
 | exc H' => rw [e] at z; exact z
 | ok b' H' => rw [e] at z; exact z
theorem T_cmp (ha : PE prog w B A fr L T call a) (hb : PC prog w B A fr L T call b) (hm : ∀ K ops es env, lO b K ops es = true -> markedEach ops es (evalEach es env) = evalEach es env) : PT prog w B A fr L T call (.cmp a b):= by
 intro K e hc env l s ρ H p
 apply iC (e:= e) hc
 intro le ops es q hc
 have h1:= bL (bL hc)
 have h2:= bR (bL hc)
 have h3:= bR hc
 show Does prog w B A fr L zE (do testChain q (<- PySem.eval le env) ops (markedEach ops es (evalEach es env))) s ρ H (bnd (bnd (eval T call a l) fun v => bnd (vP T call b l v) fun b => ret (.bool b)) truth) relT
 rw [hm K ops es env h2, yC]
 refine Does.bind (ha K le h1 env l s ρ H p) fun v u ρ1 H1 s1 t1 r1 => ?_
 have z:= (hb K ops es h2 (by rintro rfl; exact ff h3) q env l s1 ρ1 H1 v u (p.tr t1) r1).2
 have e : bnd (bnd (vP T call b l v) fun b => ret (.bool b)) truth = vP T call b l v:= by
  rw [yC]; exact lu _
 rw [e]; exact z
theorem ux (ha : PL prog w B A fr L T call a) : PE prog w B A fr L T call (.lst a):= by
 intro K e hc env l s ρ H p
 apply nQ (e:= e) hc
 intro es q hc
 show Does prog w B A fr L zE (do standAt q; newList (<- spliced (backTo q (starEach es env)))) s ρ H (bnd (wR T call a l) fun vs => zX (.lst vs)) relV
 refine Does.at (Does.bind (ha K es hc q env l s ρ H p) fun v u ρ1 H1 s1 t1 r1 => dR t1.st r1)
theorem ut (ha : PL prog w B A fr L T call a) : PE prog w B A fr L T call (.tup a):= by
 intro K e hc env l s ρ H p
 apply oW (e:= e) hc
 intro es _ q hc
 show Does prog w B A fr L zE (do standAt q; newTuple (<- spliced (backTo q (starEach es env)))) s ρ H (bnd (wR T call a l) fun vs => zX (.tup vs)) relV
 refine Does.at (Does.bind (ha K es hc q env l s ρ H p) fun v u ρ1 H1 s1 t1 r1 => fG t1.st r1)
theorem hY {x : PySem.Expr} (h : iR x = true) (g : Str) (env : Env) (u : Sem Value) : attributeBase x g env u = u:= by
 cases x <;> first | rfl | contradiction
theorem nu (X : qA B) {g : Nat} (ha : PE prog w B A fr L T call a) : PE prog w B A fr L T call (.attr a g):= by
 intro K e hc env l s ρ H p
 apply vG (e:= e) hc
 intro x y q hc
 have h1:= bL (bL (bL hc))
 have h2:= bR (bL (bL hc))
 have h3:= bR (bL hc)
 have h4:= bR hc
 refine oA (fun hx t01 => ?_) (xM h1); obtain rfl:= t01
 have hf : g ∈ flds:= by simpa using h2
 show Does prog w B A fr L zE (do
  let o <- attributeBase x (nm g) env (PySem.eval x env)
  standAt q.atName
  let r <- holding [o] (getAttr o (nm g) true)
  letTemporaryGo x o r
  pure r) s ρ H (bnd (eval T call a l) fun v => jA v g) relV
 rw [hY h4]
 refine Does.bind (ha K x h3 env l s ρ H p) fun v u ρ1 H1 s1 t1 r1 => Does.at ?_
 exact (mU X t1.st r1 hf).conv fun Q E z => wpAny_bind (wpAny_holding (wpAny_mono z (fun r s' q => wpAny_bind (wpAny_letTemporaryGo (wpAny_pure q))) fun _ _ q => q))
theorem fx {xe ye : PySem.Expr} {v : V} {bv bu : Value} {s : Shared} {ρ : Adr} {H : Hp} (hv : RV ρ v bv) (hn : fC ye = true) {m : Mo V} (hm : m H ≠ .fail -> ∃ n p, v = .ref n /\ ρ[n]? = some p /\ (s.TypeIs (.ref p.1) "list" \/ s.TypeIs (.ref p.1) "tuple"))
  (h : Does prog w B A fr L W (getItem bv bu) s ρ H m relV) : Does prog w B A fr L W (subscriptTail xe ye bv bu) s ρ H m relV:= by
 by_cases hf : m H = .fail
 ·
  exact Does.fail hf
 refine wQ (fun n p t02 hp ht => ?_) (hm hf); obtain rfl:= t02
 revert hv; refine oEA fun p' hp' t02 => ?_; obtain rfl:= t02
 obtain rfl:= s2 hp hp'
 have hs : subscripted ye false (.ref p.1) bu = operate [.ref p.1, bu] (getItem (.ref p.1) bu):= by cases ye <;> first | rfl | contradiction
 refine h.conv fun Q E z => ?_
 revert ht; refine oO (fun ht => ?_) fun ht => ?_
 ·
  exact tail_any ht slot_list_getitem.lookup z hs
 ·
  exact tail_any ht F.slot_tuple_getitem.lookup z hs
theorem gj {s : Shared} {ρ : Adr} {H : Hp} (x : St B fr ρ H s.heap) {n : Nat} {p : Addr × Addr} (hp : ρ[n]? = some p) {xs : List V} (h : vH n H = some xs) : s.TypeIs (.ref p.1) "list" \/ s.TypeIs (.ref p.1) "tuple" := by
 refine oO (fun ho => ?_) (fun ho => ?_) (pN h)
 ·
  refine oEA (fun vs h1 _ => ?_) (wZ (x.rep n p _ hp ho))
  exact .inl h1.isList.typeIs
 ·
  refine fl (x.rep n p _ hp ho) <| oEA fun vs => xG fun o h1 h2 _ _ => ?_
  exact .inr ⟨o, h1, h2⟩
theorem uu (ha : PE prog w B A fr L T call a) (hb : PE prog w B A fr L T call b) : PE prog w B A fr L T call (.sub a b):= by
 intro K e hc env l s ρ H p
 apply rA (e:= e) hc
 intro x y q hc
 have h1:= bL (bL hc)
 have h2:= bR (bL hc)
 have h3:= bR hc
 show Does prog w B A fr L zE (do
  let o <- PySem.eval x env
  let i <- holding [o] (PySem.eval y env)
  standAt q
  subscriptTail x y o i) s ρ H (bnd (eval T call a l) fun v => bnd (eval T call b l) fun w => yO v w) relV
 refine Does.bind (ha K x h1 env l s ρ H p) fun v u ρ1 H1 s1 t1 r1 => ?_
 refine Does.bind (Does.hold (hb K y h2 env l s1 ρ1 H1 (p.tr t1))) fun v2 u2 ρ2 H2 s2 t2 r2 => Does.at ?_
 refine fx (r1.mono t2.ext) h3 (fun hne => ?_) (mT t2.st (r1.mono t2.ext) r2)
 cases v with
 | ref n =>
  refine oEA (fun p' hp' _ => ?_) (r1.mono t2.ext)
  refine ⟨n, p', rfl, hp', ?_⟩
  cases z : vH n H2 with
  | none => exact absurd (by cases v2 <;> first | rfl | (delta yO; dsimp only; rw [z])) hne
  | some xs => exact gj t2.st hp' z
 | _ => exact absurd rfl hne
end
section
variable {prog : Program} {w : World} {B : Base} {A : Around} {fr : List Addr} {L : Addr} {W : Addr -> Prop} {T : Tab} {call : Call} {a b c m : ME}
theorem wY {e : PySem.Expr} (h : nA e = true) (t : List PySem.Expr) (env : Env) : starEach (e :: t) env = (false, PySem.eval e env) :: starEach t env:= by
 cases e <;> first | rfl | contradiction
theorem oQ (q : Pos) (t : Sem Value) (r : List (Bool × Sem Value)) : backTo q ((false, t) :: r) = (false, t) :: backTo q r:= rfl
theorem kQ {b : ME} {K : Kd} (h : qF b K [] = true) : b = .nil:= by cases b <;> first | rfl | exact ff h
theorem mY {b : ME} {K : Kd} {x : PySem.Expr} {t : List PySem.Expr} (h : qF b K (x :: t) = true) : ∃ a r, b = .cons a r:= by cases b <;> first | exact ⟨_, _, rfl⟩ | exact ff h
theorem kR {b : ME} {K : Kd} {es : List PySem.Expr} (h : lO b K [] es = true) : es = [] /\ b = .nil:= by cases b <;> first | exact ff h | exact ⟨List.isEmpty_iff.mp h, rfl⟩
theorem mZ {b : ME} {K : Kd} {o : CmpOp} {t : List CmpOp} {es : List PySem.Expr} (h : lO b K (o :: t) es = true) : ∃ o2 x2 r2, b = .cc o2 x2 r2 /\ es ≠ []:= by
 cases b <;> first | exact ff h | skip
 cases es with
 | nil => exact ff h
 | cons _ _ => exact ⟨_, _, _, rfl, by intro h; contradiction⟩
theorem mF {K : Kd} : ∀ {m : ME} {es : List PySem.Expr}, qF m K es = true -> ∀ (q : Pos) (env : Env), ∀ t ∈ backTo q (starEach es env), t.1 = false:= by
 intro m
 induction m with
 | nil =>
  intro es h q env t ht
  cases es with
  | nil => cases ht
  | cons _ _ => exact ff h
 | cons a r _ ih =>
  intro es h q env t ht
  cases es with
  | nil => exact ff h
  | cons e es =>
   rw [wY (bL (bL h)), oQ] at ht
   rcases List.mem_cons.mp ht with rfl | ht
   ·
    rfl
   ·
    exact ih (bR h) q env t ht
 | _ => intro es h; exact ff h
theorem L_nil : PL prog w B A fr L T call .nil:= by
 intro K es hc q env l s ρ H p
 cases es with
 | nil => exact Does.ok rfl (spliced_nil ⟨ρ, Tr.refl p.2.2, trivial⟩)
 | cons _ _ => exact ff hc
theorem L_cons (ha : PE prog w B A fr L T call a) (hb : PL prog w B A fr L T call b) : PL prog w B A fr L T call (.cons a b):= by
 intro K es hc q env l s ρ H p
 cases es with
 | nil => exact ff hc
 | cons e es =>
  rw [wY (bL (bL hc)), oQ]
  exact dF (ha K e (bR (bL hc)) env l s ρ H p) fun ρ' H' s' t => hb K es (bR hc) q env l s' ρ' H' (p.tr t)
theorem A_cons (ha : PE prog w B A fr L T call a) (ha' : PT prog w B A fr L T call a) (hb : cw prog w B A fr L T call b) : cw prog w B A fr L T call (.cons a b):= by
 intro K es hc hne q env l s ρ H p
 cases es with
 | nil => exact ff hc
 | cons e es =>
  cases es with
  | nil =>
   have hb0 : b = .nil:= kQ (bR hc)
   subst hb0
   refine ⟨ha K e (bR (bL hc)) env l s ρ H p, ?_⟩
   refine (ha' K e (bR (bL hc)) env l s ρ H p).conv fun Q E z => ?_
   show wpAny _ _ (isTrue e env (PySem.eval e env) >>= fun t => match BoolOp.And, t with
    | .And, false => pure false
    | .Or, true => pure true
    | _, _ => allTrue .And [] env) Q E s
   exact wpAny_bind (wpAny_mono z (fun t s' q => by cases t <;> exact wpAny_pure q) fun _ _ q => q)
  | cons e2 es =>
   have hb0 : ∃ x y, b = .cons x y:= mY (bR hc)
   revert hb0; refine oEE fun x y t02 => ?_; obtain rfl:= t02
   have r:= fun ρ' H' s' p' => hb K (e2 :: es) (bR hc) (by simp) q env l s' ρ' H' p'
   constructor
   ·
    show Does prog w B A fr L zE (do
     let v <- PySem.eval e env
     standAt q
     let t <- holding [v] (truthy v)
     match BoolOp.And, t with
     | .And, false | .Or, true => pure v
     | _, _ => boolOp q .And (evalEach (e2 :: es) env)) s ρ H (bnd (eval T call a l) fun v => bnd (truth v) fun t => match t with
      | true => wM T call (.cons x y) l
      | false => ret v) relV
    refine Does.bind (ha K e (bR (bL hc)) env l s ρ H p) fun v u ρ1 H1 s1 t1 r1 => Does.at ?_
    refine Does.bind (Does.hold (pJ t1.st r1)) fun t u' ρ2 H2 s2 t2 r2 => ?_
    cases r2
    cases t with
    | true => exact (r ρ2 H2 s2 ((p.tr t1).tr t2)).1
    | false => exact Does.pur t2.st (r1.mono t2.ext)
   ·
    show Does prog w B A fr L zE (isTrue e env (PySem.eval e env) >>= fun t => match BoolOp.And, t with
     | .And, false => pure false
     | .Or, true => pure true
     | _, _ => allTrue .And (e2 :: es) env) s ρ H (bnd (bnd (eval T call a l) fun v => bnd (truth v) fun t => match t with
      | true => wM T call (.cons x y) l
      | false => ret v) truth) relT
    have e0 : (bnd (bnd (eval T call a l) fun v => bnd (truth v) fun t => match t with
      | true => wM T call (.cons x y) l
      | false => ret v) truth) = bnd (bnd (eval T call a l) truth) fun t => match t with
      | true => bnd (wM T call (.cons x y) l) truth
      | false => ret false:= by
     rw [yC, yC]
     refine congrArg _ (funext fun v => ?_)
     rw [yC]
     funext h
     unfold bnd
     cases z : truth v h with
     | fail => rfl
     | exc _ => rfl
     | ok t h' =>
      cases t with
      | true => rfl
      | false =>
       cases v with
       | bool c => cases c <;> first | rfl | (cases z; done)
       | int i =>
        simp only [truth, ret] at z
        simp only [ret, truth]
        injection z with z1 z2
        rw [z1]
       | _ => contradiction
    rw [e0]
    refine Does.bind (ha' K e (bR (bL hc)) env l s ρ H p) fun t u' ρ2 H2 s2 t2 r2 => ?_
    cases r2
    cases t with
    | true => exact (r ρ2 H2 s2 (p.tr t2)).2
    | false => exact Does.pur t2.st rfl
theorem O_cons (ha : PE prog w B A fr L T call a) (ha' : PT prog w B A fr L T call a) (hb : PO prog w B A fr L T call b) : PO prog w B A fr L T call (.cons a b):= by
 intro K es hc hne q env l s ρ H p
 cases es with
 | nil => exact ff hc
 | cons e es =>
  cases es with
  | nil =>
   have hb0 : b = .nil:= kQ (bR hc)
   subst hb0
   refine ⟨ha K e (bR (bL hc)) env l s ρ H p, ?_⟩
   refine (ha' K e (bR (bL hc)) env l s ρ H p).conv fun Q E z => ?_
   show wpAny _ _ (isTrue e env (PySem.eval e env) >>= fun t => match BoolOp.Or, t with
    | .And, false => pure false
    | .Or, true => pure true
    | _, _ => allTrue .Or [] env) Q E s
   exact wpAny_bind (wpAny_mono z (fun t s' q => by cases t <;> exact wpAny_pure q) fun _ _ q => q)
  | cons e2 es =>
   have hb0 : ∃ x y, b = .cons x y:= mY (bR hc)
   revert hb0; refine oEE fun x y t02 => ?_; obtain rfl:= t02
   have r:= fun ρ' H' s' p' => hb K (e2 :: es) (bR hc) (by simp) q env l s' ρ' H' p'
   constructor
   ·
    show Does prog w B A fr L zE (do
     let v <- PySem.eval e env
     standAt q
     let t <- holding [v] (truthy v)
     match BoolOp.Or, t with
     | .And, false | .Or, true => pure v
     | _, _ => boolOp q .Or (evalEach (e2 :: es) env)) s ρ H (bnd (eval T call a l) fun v => bnd (truth v) fun t => match t with
      | true => ret v
      | false => uJ T call (.cons x y) l) relV
    refine Does.bind (ha K e (bR (bL hc)) env l s ρ H p) fun v u ρ1 H1 s1 t1 r1 => Does.at ?_
    refine Does.bind (Does.hold (pJ t1.st r1)) fun t u' ρ2 H2 s2 t2 r2 => ?_
    cases r2
    cases t with
    | false => exact (r ρ2 H2 s2 ((p.tr t1).tr t2)).1
    | true => exact Does.pur t2.st (r1.mono t2.ext)
   ·
    show Does prog w B A fr L zE (isTrue e env (PySem.eval e env) >>= fun t => match BoolOp.Or, t with
     | .And, false => pure false
     | .Or, true => pure true
     | _, _ => allTrue .Or (e2 :: es) env) s ρ H (bnd (bnd (eval T call a l) fun v => bnd (truth v) fun t => match t with
      | true => ret v
      | false => uJ T call (.cons x y) l) truth) relT
    have e0 : (bnd (bnd (eval T call a l) fun v => bnd (truth v) fun t => match t with
      | true => ret v
      | false => uJ T call (.cons x y) l) truth) = bnd (bnd (eval T call a l) truth) fun t => match t with
      | true => ret true
      | false => bnd (uJ T call (.cons x y) l) truth:= by
     rw [yC, yC]
     refine congrArg _ (funext fun v => ?_)
     rw [yC]
     funext h
     unfold bnd
     cases z : truth v h with
     | fail => rfl
     | exc _ => rfl
     | ok t h' =>
      cases t with
      | false => rfl
      | true =>
       cases v with
       | bool c => cases c <;> first | rfl | (cases z; done)
       | int i =>
        simp only [truth, ret] at z
        simp only [ret, truth]
        injection z with z1 z2
        rw [z1]
       | _ => contradiction
    rw [e0]
    refine Does.bind (ha' K e (bR (bL hc)) env l s ρ H p) fun t u' ρ2 H2 s2 t2 r2 => ?_
    cases r2
    cases t with
    | false => exact (r ρ2 H2 s2 (p.tr t2)).2
    | true => exact Does.pur t2.st rfl
theorem qp {op : CmpOp} {e : PySem.Expr} (h : qN e = true) (t : Sem Value) : markedBehindIn op e t = t:= by
 have : behindInMarks op e = false:= by cases e <;> first | rfl | contradiction
 unfold markedBehindIn; rw [this]
theorem kE : ∀ (b : ME) (K : Kd) (ops : List CmpOp) (es : List PySem.Expr) (env : Env), lO b K ops es = true -> markedEach ops es (evalEach es env) = evalEach es env:= by
 intro b
 induction b with
 | nil =>
  intro K ops es env h
  have e1:= List.isEmpty_iff.mp (bL h)
  have e2:= List.isEmpty_iff.mp (bR h)
  subst e1; subst e2
  rfl
 | cc o e r _ ih =>
  intro K ops es env h
  cases ops with
  | nil => exact ff h
  | cons op ops =>
   cases es with
   | nil => exact ff h
   | cons x es =>
    have:= ih K ops es env (bR h)
    cases ops with
    | nil =>
     refine oA (fun t00 _ => ?_) (kR (bR h)); obtain rfl:= t00
     show [markedBehindIn op x (PySem.eval x env)] = _
     rw [qp (bR (bL h))]; rfl
    | cons op2 ops =>
     cases es with
     | nil => refine pS (fun _ _ _ _ z => ?_) (mZ (bR h)); exact absurd rfl z
     | cons x2 es =>
      show PySem.eval x env :: markedEach (op2 :: ops) (x2 :: es) (evalEach (x2 :: es) env) = _
      rw [this]; rfl
 | _ => intro K ops es env h; exact ff h
theorem C_cc {o : COp} (hu : A.units + 64 < cLine) (ha : PE prog w B A fr L T call a) (hb : PC prog w B A fr L T call b) : PC prog w B A fr L T call (.cc o a b):= by
 intro K ops es hc hne q env l s ρ H v bv p hv
 cases ops with
 | nil => exact absurd rfl hne
 | cons op ops =>
  cases es with
  | nil => exact ff hc
  | cons x es =>
   have h1:= bL (bL (bL hc))
   have h2:= bR (bL (bL hc))
   have h4:= bR hc
   cases lg h1
   cases ops with
   | nil =>
    have:= kR h4
    revert this; refine oA fun t00 t01 => ?_; obtain rfl:= t00; obtain rfl:= t01
    constructor
    ·
     show Does prog w B A fr L zE (do
      let rv <- holding [bv] (PySem.eval x env)
      standAt q
      operate [bv, rv] (compareOp (mW o) bv rv)) s ρ H (bnd (eval T call a l) fun w => zQ o v w) relB
     refine Does.bind (Does.hold (ha K x h2 env l s ρ H p)) fun v2 u2 ρ2 H2 s2 t2 r2 => Does.at ?_
     exact (tW t2.st hu (hv.mono t2.ext) r2).conv fun Q E z => wpAny_operate' z
    ·
     show Does prog w B A fr L zE (do
      let rv <- holding [bv] (PySem.eval x env)
      standAt q
      let c <- operate [bv, rv] (compareOp (mW o) bv rv)
      holding [c] (truthy c)) s ρ H (bnd (eval T call a l) fun w => zQ o v w) relT
     refine Does.bind (Does.hold (ha K x h2 env l s ρ H p)) fun v2 u2 ρ2 H2 s2 t2 r2 => Does.at ?_
     have z:= tW (o:= o) (prog:= prog) (w:= w) (L:= L) (W:= zE) t2.st hu (hv.mono t2.ext) r2
     unfold Does at z ⊢
     cases e : zQ o v v2 H2 with
     | fail => trivial
     | exc H' => rw [e] at z; exact wpAny_bind (wpAny_operate' (wpAny_mono z (fun _ _ q => q.elim) fun _ _ q => q))
     | ok b' H' =>
      rw [e] at z
      exact wpAny_bind (wpAny_operate' (wpAny_mono z (fun c s' => oEA fun ρ' t q => by cases q; exact wpAny_holding (wpAny_truthy_bool ⟨ρ', t, rfl⟩)) fun _ _ q => q))
   | cons op2 ops =>
    have hb0:= mZ h4
    revert hb0; refine pS fun o2 x2 r2 t03 hes => ?_; obtain rfl:= t03
    refine oEE (fun x' es' t02 => ?_) (List.exists_cons_of_ne_nil hes); obtain rfl:= t02
    constructor
    ·
     show Does prog w B A fr L zE (do
      let rv <- holding [bv] (PySem.eval x env)
      standAt q
      let c <- holding [bv, rv] (compareOp (mW o) bv rv)
      release [bv, rv] [c]
      if <- holding [c, rv] (truthy c) then compareChain q rv (op2 :: ops) (evalEach (x' :: es') env) else pure c) s ρ H
      (bnd (eval T call a l) fun w => bnd (zQ o v w) fun t => match t with
       | true => vP T call (.cc o2 x2 r2) l w
       | false => ret false) relB
     refine Does.bind (Does.hold (ha K x h2 env l s ρ H p)) fun v2 u2 ρ2 H2 s2 t2 r2' => Does.at ?_
     refine Does.bind (Does.hold (tW t2.st hu (hv.mono t2.ext) r2')) fun t c ρ3 H3 s3 t3 r3 => ?_
     cases r3
     have k : Does prog w B A fr L zE (do if t then compareChain q u2 (op2 :: ops) (evalEach (x' :: es') env) else pure (Value.bool t)) s3 ρ3 H3 (match t with
       | true => vP T call (.cc o2 x2 r2) l v2
       | false => ret false) relB:= by
      cases t with
      | true => exact (hb K (op2 :: ops) (x' :: es') h4 (by simp) q env l s3 ρ3 H3 v2 u2 ((p.tr t2).tr t3) (r2'.mono t3.ext)).1
      | false => exact Does.pur t3.st rfl
     exact k.conv fun Q E z => wpAny_bind (wpAny_releaseD (wpAny_bind (wpAny_holding (wpAny_truthy_bool z))))
    ·
     show Does prog w B A fr L zE (do
      let rv <- holding [bv] (PySem.eval x env)
      standAt q
      let c <- holding [bv, rv] (compareOp (mW o) bv rv)
      release [bv, rv] [c]
      if <- holding [c, rv] (truthy c) then testChain q rv (op2 :: ops) (evalEach (x' :: es') env) else pure false) s ρ H
      (bnd (eval T call a l) fun w => bnd (zQ o v w) fun t => match t with
       | true => vP T call (.cc o2 x2 r2) l w
       | false => ret false) relT
     refine Does.bind (Does.hold (ha K x h2 env l s ρ H p)) fun v2 u2 ρ2 H2 s2 t2 r2' => Does.at ?_
     refine Does.bind (Does.hold (tW t2.st hu (hv.mono t2.ext) r2')) fun t c ρ3 H3 s3 t3 r3 => ?_
     cases r3
     have k : Does prog w B A fr L zE (do if t then testChain q u2 (op2 :: ops) (evalEach (x' :: es') env) else pure false) s3 ρ3 H3 (match t with
       | true => vP T call (.cc o2 x2 r2) l v2
       | false => ret false) relT:= by
      cases t with
      | true => exact (hb K (op2 :: ops) (x' :: es') h4 (by simp) q env l s3 ρ3 H3 v2 u2 ((p.tr t2).tr t3) (r2'.mono t3.ext)).2
      | false => exact Does.pur t3.st rfl
     exact k.conv fun Q E z => wpAny_bind (wpAny_releaseD (wpAny_bind (wpAny_holding (wpAny_truthy_bool z))))
end
section
variable {prog : Program} {w : World} {B : Base} {A : Around} {fr : List Addr} {L : Addr} {W : Addr -> Prop} {T : Tab} {call : Call} {a b c m : ME}
theorem kF {s : Shared} {f : Addr} {o : Obj} {fd : FuncData} (ho : s.heap.get? f = some o) (hd : o.data = .func fd) {M : Model} {E : Value -> Shared -> Prop} (Q : Keeper -> Shared -> Prop) (h : Q .machine s /\ Q .frame s) : wpAny M A (keeperOf (.ref f)) Q E s:= by
 unfold keeperOf
 refine wpAny_bind (wpAny_load ho ?_)
 rw [hd]
 exact wpAny_pure h.2
theorem ll {K : Kd} {g : Str} {gq q : Pos} {es : List PySem.Expr} {f : Value} {mc : List V -> Mo V} {l : Loc} {env : Env} {s : Shared} {ρ : Adr} {H : Hp} (p : Pre B fr env K l ρ H s)
  (hn : ∀ (Q : Value -> Shared -> Prop) (E : Value -> Shared -> Prop), Q f s -> wpAny (model prog w) A (PySem.eval (.Name g gq) env) Q E s)
  (hl : qF a K es = true) (ha : PL prog w B A fr L T call a)
  (hk : ∀ s' ρ' H', St B fr ρ' H' s'.heap -> ∀ (E : Value -> Shared -> Prop) (Q : Keeper -> Shared -> Prop), (Q .machine s' /\ Q .frame s') -> wpAny (model prog w) A (keeperOf f) Q E s')
  (hc : ∀ vs bs s' ρ' H', St B fr ρ' H' s'.heap -> RVs ρ' vs bs -> Does prog w B A fr L zE (PySem.call f bs) s' ρ' H' (mc vs) relV) :
  Does prog w B A fr L zE (PySem.eval (.Call (.Name g gq) es [] q) env) s ρ H (bnd (wR T call a l) mc) relV:= by
 show Does prog w B A fr L zE (PySem.eval (.Name g gq) env >>= fun f => callWith q f [] (backTo q (starEach es env)) []) s ρ H (bnd (wR T call a l) mc) relV
 have h1:= ha K es hl q env l s ρ H p
 refine Does.conv (t:= callWith q f [] (backTo q (starEach es env)) []) ?_ fun Q E z => wpAny_bind (hn _ E z)
 refine Does.seq (P:= fun _ s' => ∀ (E : Value -> Shared -> Prop) (Q : Keeper -> Shared -> Prop), (Q .machine s' /\ Q .frame s') -> wpAny (model prog w) A (keeperOf f) Q E s') (g:= fun bs => PySem.call f bs) h1 (fun Q E z => ?_) fun vs bs ρ' H' s' t r => ⟨hk s' ρ' H' t.st, hc vs bs s' ρ' H' t.st r⟩
 exact jT (mF hl q env) (wpAny_mono z (fun vs s' y => ⟨fun Q' hq => y.1 E Q' hq, y.2⟩) fun _ _ q => q)
theorem nr (G : GlobOk T B) (F : mz prog w B A fr L call) {f : Nat} (ha : PL prog w B A fr L T call a) : PE prog w B A fr L T call (.call f a):= by
 intro K e hc env l s ρ H p
 apply vF (e:= e) hc
 intro g es ks q hc
 apply yF (e:= g) hc
 intro g gq hc
 apply wE (e:= ks) hc
 intro hc
 have h1:= bL (bL (bL (bL hc)))
 have h2:= bR (bL (bL (bL hc)))
 have h3:= bR (bL (bL hc))
 have h4:= bR (bL hc)
 have h5:= bN (bR hc)
 refine oA (fun hx t01 => ?_) (xM h1); obtain rfl:= t01
 refine fl (F f h3) <| xG fun ad f1 => qd fun o fd f2 f3 f4 => ?_
 refine fl G.it <| yN fun mg mb g1 g2 g3 g4 => oAA fun g5 g6 g7 => ?_
 exact ll p (fun Q E z => qO p.2.2 (by rw [p.1]; exact h2) p.2.1 g1 (g4 f ad f1 h5) (rY f hx).1 Q E z) h4 ha (fun s' ρ' H' x E Q hq => kF (x.bk _ _ f2) f3 Q hq) f4
theorem uv (G : GlobOk T B) (F : aK prog w B A fr L T call) {f : Nat} (ha : PL prog w B A fr L T call a) : PE prog w B A fr L T call (.new f a):= by
 intro K e hc env l s ρ H p
 apply vF (e:= e) hc
 intro g es ks q hc
 apply yF (e:= g) hc
 intro g gq hc
 apply wE (e:= ks) hc
 intro hc
 have h1:= bL (bL (bL hc))
 have h2:= bR (bL (bL hc))
 have h3:= bR (bL hc)
 have h4:= bR hc
 refine oA (fun hx t01 => ?_) (xM h1); obtain rfl:= t01
 refine wQ (fun C fI f1 t03 f4 => ?_) (F f h3); obtain ⟨f2⟩:= t03
 refine fl G.it <| yN fun mg mb g1 g2 g3 g4 => oAA fun g5 g6 g7 => ?_
 revert f2; refine xY fun nam q' N bs sn sub => xY fun col dd k0 k1 k2 k3 => qd fun k5 mN c1 _ => ?_
 have e0 : eval T call (.new f a) l = bnd (wR T call a l) (bT T call f):= rfl
 rw [e0]
 exact ll p (fun Q E z => qO p.2.2 (by rw [p.1]; exact h2) p.2.1 g1 (g5 f C f1) (rY f hx).1 Q E z) h4 ha (fun s' ρ' H' x E Q hq => by
  obtain ⟨h, gn, d, t, os⟩:= s'
  exact wpAny_keeperOf_exc (x.bk _ _ c1) hq.1) f4
theorem sf (k : Blt) : (uV k == ("__debug__" : Str)) = false := by cases k <;> decide +kernel
theorem vg (G : GlobOk T B) (hh : A.handled = none) {k : Blt} (ha : PL prog w B A fr L T call a) : PE prog w B A fr L T call (.blt k a):= by
 intro K e hc env l s ρ H p
 apply vF (e:= e) hc
 intro g es ks q hc
 apply yF (e:= g) hc
 intro g gq hc
 apply wE (e:= ks) hc
 intro hc
 obtain rfl:= dTr (bL (bL hc))
 have h2:= bR (bL hc)
 have h4:= bR hc
 refine fl G.it <| yN fun mg mb g1 g2 g3 g4 => oAA fun g5 g6 g7 => ?_
 exact ll p (fun Q E z => jp p.2.2 (by rw [p.1]; exact h2) p.2.1 g1 g2 (g6 k).1 (g6 k).2 (sf k) Q E z) h4 ha
  (fun s' ρ' H' x E Q hq => by cases k <;> exact wpAny_pure hq.1) fun vs bs s' ρ' H' x r => cH x hh r
theorem jr (k : Mth) : Slot "list" (iW k) (bS k) := by cases k; exact slot_list_append; exact PySem.F.slot_list_count; exact PySem.F.slot_list_index
theorem jq (k : Mth) : typeOf (.builtin (bS k)) = pure (.type "method_descriptor") := by cases k <;> kernel_rfl
theorem nk {k : Mth} (hb : PE prog w B A fr L T call b) (ha : PL prog w B A fr L T call a) : PE prog w B A fr L T call (.meth k b a):= by
 intro K e hc env l s ρ H p
 apply vF (e:= e) hc
 intro g es ks q hc
 apply vG (e:= g) hc
 intro x g ap hc
 apply wE (e:= ks) hc
 intro hc
 obtain rfl:= dTr (bL (bL (bL (bL (bL hc)))))
 have h2:= bR (bL (bL (bL (bL hc))))
 have h3:= bR (bL (bL (bL hc)))
 have h4:= bR (bL (bL hc))
 have h5:= bR (bL hc)
 have h6:= bR hc
 have hl:= Nat.le_of_ble_eq_true h5
 show Does prog w B A fr L zE (do
  let ov <- attributeBase x (iW k) env (PySem.eval x env)
  standAt ap.atName
  methodCall x (iW k) ap q env ov (es.length + 0) (backTo q (starEach es env)) []) s ρ H (bnd (eval T call b l) fun v => bnd (pG v) fun _ => bnd (wR T call a l) fun vs => yX k v vs) relV
 rw [hY h3]
 refine Does.bind (hb K x h2 env l s ρ H p) fun v u ρ1 H1 s1 t1 r1 => Does.at ?_
 have pl:= mF h4 q env
 have hform : methodCallForm (es.length + 0) (backTo q (starEach es env)) [] = true:= by
  unfold methodCallForm
  simp only [List.all_nil, Bool.and_true, Bool.and_eq_true, List.all_eq_true, List.isEmpty_nil, if_true, decide_eq_true_eq]
  exact ⟨fun t ht => by rw [pl t ht]; rfl, by exact jH (cq at10 h5) rfl⟩
 have hpos : methodCallPos true x env ap q = pure q:= by
  unfold methodCallPos
  simp [h6]
 have z : ∀ {f : Value}, (∀ s' (E : Value -> Shared -> Prop) (Q : Keeper -> Shared -> Prop), (Q .machine s' /\ Q .frame s') -> wpAny (model prog w) A (keeperOf f) Q E s') ->
   (∀ vs bs s' ρ' H', St B fr ρ' H' s'.heap -> RV ρ' v u -> RVs ρ' vs bs -> Does prog w B A fr L zE (PySem.call f ([u] ++ bs)) s' ρ' H' (yX k v vs) relV) ->
   Does prog w B A fr L zE (callWith q f [u] (backTo q (starEach es env)) []) s1 ρ1 H1 (bnd (wR T call a l) fun vs => yX k v vs) relV:= by
  intro f hk hm
  refine Does.seq' (g:= fun bs => PySem.call f ([u] ++ bs)) (ha K es h4 q env l s1 ρ1 H1 (p.tr t1)) (fun Q E z => ?_) fun vs bs ρ' H' s' t r => hm vs bs s' ρ' H' t.st (r1.mono t.ext) r
  exact jT pl (wpAny_mono z (fun vs s' y => ⟨fun Q' hq => hk s' E Q' hq, y⟩) fun _ _ q => q)
 have z1:= z (f:= .builtin (bS k)) (fun s' E Q hq => wpAny_pure hq.1) fun vs bs s' ρ' H' x rv r => av x rv r
 cases v with
 | ref n =>
  revert r1; refine oEA fun p1 hp t02 => ?_; obtain rfl:= t02
  cases e1 : zO n H1 with
  | some xs =>
   refine jC (fun _ vs ep o1 o2 => ?_) (t1.st.rep n p1 _ hp (jE e1))
   refine Does.eq (m:= bnd (wR T call a l) fun vs => yX k (.ref n) vs) ?_ (by delta bnd pG; dsimp only; rw [e1])
   refine z1.conv fun Q E y => ?_
   unfold methodCall
   refine wpAny_bind (wpAny_holding ?_)
   rw [hform]
   unfold calleeOf
   simp only [if_true]
   refine getMethod_list_of (jr k) (jq k) (show s1.heap.IsList p1.1 vs.toArray from ⟨_, o1, rfl, ep, rfl⟩) ⟨_, o1, rfl⟩ ?_
   rw [hpos]
   exact wpAny_bind (wpAny_pure y)
  | none => exact Does.fail (by delta bnd pG; dsimp only; rw [e1])
 | none => exact Does.fail rfl
 | bool _ => exact Does.fail rfl
 | int _ => exact Does.fail rfl
end
section
variable {prog : Program} {w : World} {B : Base} {A : Around} {fr : List Addr} {L : Addr} {W : Addr -> Prop} {T : Tab} {call : Call} {a b c m : ME}
theorem jg (ha : PE prog w B A fr L T call a) {K : Kd} {o : Option PySem.Expr} (hc : (match o with | Option.none => hM a | some y => chk a K y) = true) {env : Env} {l : Loc} {s : Shared} {ρ : Adr} {H : Hp} (p : Pre B fr env K l ρ H s) :
  Does prog w B A fr L zE (valueOrNone (evalOpt o env)) s ρ H (eval T call a l) relV:= by
 cases o with
 | none =>
  have : a = .none:= mR hc
  subst this
  exact Does.ok rfl (wpAny_pure ⟨ρ, Tr.refl p.2.2, rfl⟩)
 | some y => exact ha K y hc env l s ρ H p
theorem kt {s : Shared} {ρ : Adr} {H : Hp} (x : St B fr ρ H s.heap) {n : Nat} {p : Addr × Addr} (hp : ρ[n]? = some p) {xs : List V} (h : oL n H = some xs) : s.TypeIs (.ref p.1) "list" := by
 refine oO (fun ho => ?_) (fun ho => ?_) (eB h)
 ·
  refine oEA (fun vs h1 _ => ?_) (wZ (x.rep n p _ hp ho))
  exact h1.isList.typeIs
 ·
  refine fl (x.rep n p _ hp ho) <| oEA fun vs => xG fun o h1 h2 _ _ => ?_
  exact ⟨o, x.bk _ _ h1, h2⟩
theorem aL (hm : PE prog w B A fr L T call m) (ha : PE prog w B A fr L T call a) (hb : PE prog w B A fr L T call b) : PE prog w B A fr L T call (.slice m a b):= by
 intro K e hc env l s ρ H p
 apply rA (e:= e) hc
 intro x y q hc
 apply aP (e:= y) hc
 intro lo hi st qs hc
 apply gZ (e:= st) hc
 intro hc
 have h1:= bL (bL hc)
 have h2:= bR (bL hc)
 have h3:= bR hc
 show Does prog w B A fr L zE (do
  let o <- PySem.eval x env
  let i <- holding [o] (do
   let l <- valueOrNone (evalOpt lo env)
   let u <- holding [l] (valueOrNone (evalOpt hi env))
   let s <- holding [l, u] (valueOrNone (evalOpt Option.none env))
   newFields "slice" [l, u, s])
  standAt q
  subscriptTail x (.Slice lo hi Option.none qs) o i) s ρ H (bnd (eval T call m l) fun v => bnd (eval T call a l) fun x => bnd (eval T call b l) fun y => cut v x y) relV
 refine Does.bind (hm K x h1 env l s ρ H p) fun v u ρ1 H1 s1 t1 r1 => ?_
 have e0 : (bnd (eval T call a l) fun x => bnd (eval T call b l) fun y => cut v x y) = bnd (bnd (eval T call a l) fun x => bnd (eval T call b l) fun y => ret (x, y)) fun p => cut v p.1 p.2:= by
  rw [yC]
  refine congrArg _ (funext fun x => ?_)
  rw [yC]; rfl
 rw [e0]
 refine Does.bind (rel:= fun ρ' _ (q : V × V) i s' => ∃ sl ua ub, i = Value.ref sl /\ s'.heap.IsSliceOf sl ua ub .none /\ RV ρ' q.1 ua /\ RV ρ' q.2 ub) (Does.hold ?_) fun q' i ρ4 H4 s4 t4 r4 => Does.at ?_
 ·
  refine Does.bind (jg ha h2 (p.tr t1)) fun va ua ρ2 H2 s2 t2 r2 => ?_
  refine Does.bind (Does.hold (jg hb h3 ((p.tr t1).tr t2))) fun vb ub ρ3 H3 s3 t3 r3 => ?_
  refine Does.ok rfl (wpAny_bind (wpAny_holding (wpAny_pure ?_)))
  refine wpAny_newObj_type ⟨ρ3, xT t3.st (fun b o e => Heap.get?_push_of_some _ e) rfl rfl rfl, _, ua, ub, rfl, ?_, r2.mono t3.ext, r3⟩ (by simp [sizeOk, sizeLine])
  exact ⟨_, Heap.get?_push_size _ rfl, rfl, rfl⟩
 ·
  revert r4; refine xZ fun sl ua ub t03 h5 r2 r3 => ?_; obtain rfl:= t03
  have rv:= r1.mono t4.ext
  have z:= cut_ok (prog:= prog) (w:= w) (A:= A) (L:= L) (W:= zE) (lo:= q'.1) (hi:= q'.2) t4.st rv h5 r2 r3
  cases v with
  | ref n =>
   revert rv; refine oEA fun p1 hp t02 => ?_; obtain rfl:= t02
   cases e1 : oL n H4 with
   | none => exact Does.fail (by delta cut; dsimp only; rw [e1] <;> rfl)
   | some xs => exact z.conv fun Q E y => tail_any (kt t4.st hp e1) slot_list_getitem.lookup y rfl
  | none => exact Does.fail rfl
  | bool _ => exact Does.fail rfl
  | int _ => exact Does.fail rfl
end
noncomputable def XT (B : Base) (ρ : Adr) (H : Hp) (s s' : Shared) (e fl : Value) : Prop :=
 ∃ (a : Addr) (oe : Obj) (vs : Array Value) (a0 : Value) (T : Addr) (oT : Obj) (ts : Array Value), e = .ref a /\ s.heap.get? a = none /\ s'.heap.get? a = some oe /\ oe.cls = .ref B.bad /\ oe.data = .fields vs /\ vs[0]? = some a0 /\ Off ρ H a /\
  vs[1]? = some (.ref T) /\ T ≠ a /\ s.heap.get? T = none /\ s'.heap.get? T = some oT /\ oT.data = .fields ts /\ Off ρ H T /\ ts[3]? = some fl
structure FrI (A : Around) (fr : List Addr) (env : Env) (L : Addr) : Prop where
 it : ∃ outer, A.frames = some (env :: outer) /\ ∀ x ∈ env :: outer, x.scope.kind ≠ .module /\ ∃ L, x.frame = some L /\ L ∈ fr
 fl : env.frame = some L
section
variable {prog : Program} {w : World} {M : Model} {B : Base} {A : Around} {fr : List Addr} {L : Addr} {W : Addr -> Prop} {s s' s'' : Shared} {ρ ρ' : Adr} {H H' : Hp} {e : Value} {env : Env}
theorem XT.flying (x : XT B ρ H s s' e .none) : XC B L ρ H s s' e:= by
 revert x; refine xY fun a oe vs a0 T oT => tN fun ts e1 e2 e3 e4 e5 => tD fun e6 e7 f1 f2 f3 f4 f5 f6 f7 => ?_
 exact ⟨a, oe, vs, a0, e1, e2, e3, e4, e5, e6, e7, .inr ⟨T, oT, ts, f1, f2, f3, f4, f5, f6, .inl f7⟩⟩
theorem XT.held (x : XT B ρ H s s' e (rawInt L)) : XC B L ρ H s s' e:= by
 revert x; refine xY fun a oe vs a0 T oT => tN fun ts e1 e2 e3 e4 e5 => tD fun e6 e7 f1 f2 f3 f4 f5 f6 f7 => ?_
 exact ⟨a, oe, vs, a0, e1, e2, e3, e4, e5, e6, e7, .inr ⟨T, oT, ts, f1, f2, f3, f4, f5, f6, .inr f7⟩⟩
theorem tV {base h : Heap} (x : St B fr ρ H h) (hb : ∀ L ∈ fr, base.get? L = none) : ∀ {l : List Env}, (∀ x ∈ l, x.scope.kind ≠ .module /\ ∃ L, x.frame = some L /\ L ∈ fr) -> h.FunFrames base l
 | [], _ => trivial
 | env :: r, hl => by
  refine oAEA (fun h1 L h2 h3 => ?_) (hl env (.head _))
  refine fl (x.frs L h3) <| oA <| oEA fun o f1 f2 _ => ?_
  exact ⟨h1, ⟨L, o, h2, hb L h3, f1, f2⟩, tV x hb fun y hy => hl y (.tail _ hy)⟩
theorem vR (x : St B fr ρ H s.heap) {a : Addr} (h : s.heap.get? a = none) : Off ρ H a:= by
 refine ⟨fun q => ?_, fun n p hp e => ?_⟩
 ·
  refine oE (fun o ho => ?_) (tT x q)
  exact ns h ho
 ·
  have hn : n < H.length:= by rw [<- x.len]; exact (List.getElem?_eq_some_iff.mp hp).1
  cases q : jQ (H[n]) with
  | true =>
   refine oE (fun o ho => ?_) (tT x ⟨n, p, H[n], hp, List.getElem?_eq_getElem hn, q, .inl rfl⟩)
   rw [e, h] at ho; contradiction
  | false =>
   refine oE (fun o ho => ?_) (kK x hp (List.getElem?_eq_getElem hn))
   rw [e, h] at ho; contradiction
theorem St.side (x : St B fr ρ H s.heap) {X : Addr -> Prop} (hX : ∀ b, X b -> B.hp.get? b = none /\ Off ρ H b)
  (k : ∀ b o, s.heap.get? b = some o -> ¬ X b -> b ∉ fr -> s'.heap.get? b = some o)
  (ks : ∀ b o, s.heap.get? b = some o -> b ∈ fr -> ∃ sl, s'.heap.get? b = some { o with slots:= sl }) : St B fr ρ H s'.heap:= by
 refine ⟨fun b o hb => ?_, x.len, fun n p o hp ho => ?_, x.apart, x.mb, x.im, fun L hL => ?_, x.ini⟩
 ·
  refine k b o (x.bk b o hb) (fun q => ?_) fun q => ?_
  ·
   rw [(hX b q).1] at hb; contradiction
  ·
   rw [(x.frs b q).2.1] at hb; contradiction
 ·
  have r:= x.rep n p o hp ho
  have hx : ¬ X p.1:= fun q => (hX _ q).2.2 n p hp rfl
  cases q : jQ o with
  | true =>
   refine r.keep (o':= o) (fun b ob hb e => k b ob e ?_ ?_) rfl
   ·
    have : zR ρ H b:= ⟨n, p, o, hp, ho, q, hb.imp id fun z => z.2⟩
    exact fun z => (hX b z).2.1 this
   ·
    have : zR ρ H b:= ⟨n, p, o, hp, ho, q, hb.imp id fun z => z.2⟩
    exact fun z => (x.frs b z).2.2 this
  | false =>
   cases o with
   | lst xs => contradiction
   | ins c fs => contradiction
   | fro xs => exact r
   | tup xs =>
    revert r; refine oEA fun vs => oEA fun ot h1 h1' h2 => ?_
    by_cases z : p.1 ∈ fr
    ·
     refine oE (fun sl h3 => ?_) (ks _ _ h1 z)
     exact ⟨vs, ⟨_, h3, h1'⟩, h2⟩
    ·
     exact ⟨vs, ⟨ot, k _ _ h1 hx z, h1'⟩, h2⟩
   | rng a b c =>
    revert r; refine fA fun t u v h1 => ?_
    refine ⟨t, u, v, k _ _ h1 hx fun z => ?_⟩
    refine fl (x.frs _ z) <| oA <| oEA fun ob f1 f2 _ => ?_
    obtain rfl:= s2 h1 f1
    exact f2 _ rfl
 ·
  refine fl (x.frs L hL) <| oA <| oEA fun o h1 h2 h3 => ?_
  refine oE (fun sl h4 => ?_) (ks L o h1 hL)
  exact ⟨⟨_, h4, h2⟩, h3⟩
theorem Tr.side (x : St B fr ρ H s.heap) (t : Tr B fr W s s' ρ ρ' H H') {X : Addr -> Prop} (hX : ∀ b, X b -> s.heap.get? b = none /\ Off ρ' H' b)
  (k : ∀ b o, s'.heap.get? b = some o -> ¬ X b -> b ∉ fr -> s''.heap.get? b = some o)
  (ks : ∀ b o, s'.heap.get? b = some o -> b ∈ fr -> ∃ sl, s''.heap.get? b = some { o with slots:= sl })
  (g : s''.gens = s'.gens) (d : s''.drawn = s'.drawn) (os : s''.os = s'.os) : Tr B fr W s s'' ρ ρ' H H':= by
 refine ⟨t.ext, fun b o e hf hw => ?_, t.foot, fun b hb => ?_, t.st.side (fun b hb => ⟨?_, (hX b hb).2⟩) k ks, g.trans t.gens, d.trans t.drawn, os.trans t.os⟩
 ·
  have z:= t.keep b o e hf hw
  have nx : ¬ X b:= fun q => by rw [(hX b q).1] at e; contradiction
  refine ⟨fun hb => k b o (z.1 hb) nx hb, fun hb => ?_⟩
  refine oE (fun sl h1 => ?_) (z.2 hb)
  refine oE (fun sl' h2 => ?_) (ks _ _ h1 hb)
  exact ⟨sl', h2⟩
 ·
  by_cases q : X b
  ·
   exact (hX b q).1
  ·
   refine t.dom b ?_
   cases e : s'.heap.get? b with
   | none => rfl
   | some o =>
    by_cases z : b ∈ fr
    ·
     refine oE (fun sl h2 => ?_) (ks _ _ e z)
     exact ns hb h2
    ·
     rw [k b o e q z] at hb; contradiction
 ·
  cases e : B.hp.get? b with
  | none => rfl
  | some o => have:= x.bk b o e; rw [(hX b hb).1] at this; contradiction
theorem mL {base : Heap} {a : Addr} {cls a0 : Value} {h' : Heap} {l : List Env} {hid : List Addr} (x : St B fr ρ H s.heap) (t : Tr B fr W s s' ρ ρ' H H')
  (ha : s.heap.get? a = none) (hoa : Off ρ' H' a) (hcl : cls = .ref B.bad)
  (hh : ∀ b ∈ hid, (s.heap.get? b = none /\ Off ρ' H' b) \/ b ∈ fr) (hbase : base = hideAll s'.heap hid)
  (N : Heap.NotedW base l a cls a0 (rawInt L) s'.heap h') :
  Tr B fr W s ⟨h', s'.gens, s'.drawn, s'.toks, s'.os⟩ ρ ρ' H H' /\ XT B ρ' H' s ⟨h', s'.gens, s'.drawn, s'.toks, s'.os⟩ (.ref a) (rawInt L):= by
 revert N; refine yW fun k1 k2 => pR fun oe vs T oT ts e1 => wF <| oA fun e2 e3 e4 e5 e6 e7 e8 e9 e10 k4 => ?_
 subst hbase
 subst hcl
 have hTfr : T ∉ fr:= fun q => by
  refine fl (t.st.frs T q) <| oA <| oEA fun o f1 f2 _ => ?_
  refine oE (fun sl f3 => ?_) (k4 T o f1 f2)
  obtain rfl:= s2 e8 f3
  exact f2 _ e9
 have hT : s.heap.get? T = none /\ Off ρ' H' T:= by
  by_cases q : T ∈ hid
  ·
   refine oO (fun z => ?_) (fun z => ?_) (hh T q)
   ·
    exact z
   ·
    exact absurd z hTfr
  ·
   have : s'.heap.get? T = none:= by
    cases z : s'.heap.get? T with
    | none => rfl
    | some o => rw [hideAll_get hid z q] at e6; contradiction
   exact ⟨t.dom T this, vR t.st this⟩
 refine ⟨Tr.side x t (X:= fun b => b ∈ hid /\ b ∉ fr) (fun b hb => ?_) (fun b o e nx nf => k1 b o (hideAll_get hid e fun q => nx ⟨q, nf⟩)) (fun b o e hb => ?_) rfl rfl rfl,
  ⟨a, oe, vs, a0, T, oT, ts, rfl, ha, e1, e2, e4, e3, hoa, e5, e7, hT.1, e8, e9, hT.2, e10⟩⟩
 ·
  refine oO (fun z => ?_) (fun z => ?_) (hh b hb.1)
  ·
   exact z
  ·
   exact absurd z hb.2
 ·
  refine fl (t.st.frs b hb) <| oA <| oEA fun o' f1 f2 _ => ?_
  obtain rfl:= s2 e f1
  exact k4 b o e f2
theorem mM {Q : Unit -> Shared -> Prop} {E : Value -> Shared -> Prop} (x : St B fr ρ H s.heap) (t : Tr B fr W s s' ρ ρ' H H') (F : FrI A fr env L) (c : XC B L ρ' H' s s' e)
  (k : ∀ s'', Tr B fr W s s'' ρ ρ' H H' -> XT B ρ' H' s s'' e (rawInt L) -> Q () s'') : wpAny M A (noteFrame e env) Q E s':= by
 revert c; refine vS fun a oe vs a0 t04 e2 => wG fun e3 e4 e5 e6 e7 c => ?_; obtain rfl:= t04
 refine oEA (fun outer f1 f2 => ?_) F.it
 rcases c with c | ⟨T, oT, ts, g1, g2, g3, g4, g5, g6, c⟩
 ·
  have hb : ∀ L ∈ fr, (hideAll s'.heap (a :: fr)).get? L = none:= fun L hL => hideAll_none _ (.tail _ hL)
  unfold noteFrame
  simp only [F.fl]
  refine wpAny_bind (wpAny_field e3 e5 c ?_)
  rw [if_neg (by decide)]
  refine wpAny_entryW (base:= hideAll s'.heap (a :: fr)) f1 (tV t.st hb f2) F.fl e3 (fun b o h => of_hideAll _ h) (hideAll_none _ (.head _)) e5 (Array.getElem?_eq_some_iff.mp c).1 e6 fun h' N => ?_
  have z:= mL x t e2 e7 e4 (fun b hb => by
   rcases List.mem_cons.mp hb with rfl | hb
   ·
    exact .inl ⟨e2, e7⟩
   ·
    exact .inr hb) rfl N
  exact k _ z.1 z.2
 ·
  revert c; refine oO (fun c => ?_) fun c => ?_
  ·
   have hb : ∀ L ∈ fr, (hideAll s'.heap (a :: T :: fr)).get? L = none:= fun L hL => hideAll_none _ (.tail _ (.tail _ hL))
   refine wpAny_noteFrame_onW (base:= hideAll s'.heap (a :: T :: fr)) (cls:= oe.cls) (a0:= a0) f1 (tV t.st hb f2) F.fl ⟨oe, vs, T, oT, ts, e3, ⟨rfl, e6⟩, e5, g1, hideAll_none _ (.tail _ (.head _)), g2, g4, g5, c⟩
    (fun b o h => of_hideAll _ h) (hideAll_none _ (.head _)) fun h' N => ?_
   have z:= mL x t e2 e7 e4 (fun b hb => by
    rcases List.mem_cons.mp hb with rfl | hb
    ·
     exact .inl ⟨e2, e7⟩
    ·
     rcases List.mem_cons.mp hb with rfl | hb
     ·
      exact .inl ⟨g3, g6⟩
     ·
      exact .inr hb) rfl N
   exact k _ z.1 z.2
  ·
   exact wpAny_noteFrame_againW (base:= hideAll s'.heap [T]) (cls:= oe.cls) (a0:= a0) F.fl ⟨oe, vs, T, oT, ts, e3, ⟨rfl, e6⟩, e5, g1, hideAll_none _ (.head _), g2, g4, g5, c⟩
    (k _ t ⟨a, oe, vs, a0, T, oT, ts, rfl, e2, e3, e4, e5, e6, e7, g1, g2, g3, g4, g5, g6, c⟩)
theorem rJ {Q : Unit -> Shared -> Prop} {E : Value -> Shared -> Prop} {fo : Option Addr} {fl : Value} (x : St B fr ρ H s.heap) (t : Tr B fr W s s' ρ ρ' H H') (c : XT B ρ' H' s s' e fl)
  (k : ∀ s'', Tr B fr W s s'' ρ ρ' H H' -> XT B ρ' H' s s'' e (fo.elim Value.none fun f => rawInt f) -> Q () s'') : wpAny M A (setFlight e fo) Q E s':= by
 revert c; refine xY fun a oe vs a0 T oT => tN fun ts t17 e2 e3 e4 e5 => tD fun e6 e7 f1 f2 f3 f4 f5 f6 f7 => ?_; obtain rfl:= t17
 have hsz : 3 < ts.size:= (Array.getElem?_eq_some_iff.mp f7).1
 unfold setFlight
 refine wpAny_bind (wpAny_field e3 e5 f1 ?_)
 rw [if_pos (show (Value.ref T != Value.none) = true from by simp)]
 refine wpAny_setField f4 f5 hsz ?_
 have other : ∀ b, b ≠ T -> (s'.heap.update T (Obj.mapFields (·.setIfInBounds 3 (fo.elim Value.none fun f => rawInt f)))).get? b = s'.heap.get? b:= fun b hb => Heap.get?_update_other _ _ (Ne.symm hb)
 have hTfr : T ∉ fr:= fun q => by
  obtain ⟨⟨o, g1, g2⟩, _⟩:= t.st.frs T q
  obtain rfl:= s2 f4 g1
  exact g2 _ f5
 refine k _ (Tr.side x t (X:= fun b => b = T) (fun b hb => ?_) (fun b o e nx nf => ?_) (fun b o e hb => ?_) rfl rfl rfl)
  ⟨a, oe, vs, a0, T, _, _, rfl, e2, (other a (Ne.symm f2)).trans e3, e4, e5, e6, e7, f1, f2, f3, Heap.get?_update_self _ f4 (Obj.isFreed_of_fields (Obj.data_mapFields f5 _)), Obj.data_mapFields f5 _, f6, by simp [hsz]⟩
 ·
  rw [hb]; exact ⟨f3, f6⟩
 ·
  exact (other b nx).trans e
 ·
  exact ⟨o.slots, (other b fun q => hTfr (q ▸ hb)).trans e⟩
theorem dU {Q : Unit -> Shared -> Prop} {E : Value -> Shared -> Prop} (x : St B fr ρ H s.heap) (t : Tr B fr W s s' ρ ρ' H H') (F : FrI A fr env L) (c : XC B L ρ' H' s s' e)
  (k : ∀ s'', Tr B fr W s s'' ρ ρ' H H' -> XT B ρ' H' s s'' e .none -> Q () s'') : wpAny M A (leaving env e) Q E s':= by
 unfold leaving
 exact wpAny_bind (mM x t F c fun s1 t1 c1 => rJ (fo:= none) x t1 c1 fun s2 t2 c2 => k s2 t2 c2)
theorem sh {E : Value -> Shared -> Prop} (x : St B fr ρ H s.heap) (t : Tr B fr W s s' ρ ρ' H H') (F : FrI A fr env L) {fl : Value} (c : XT B ρ' H' s s' e fl)
  (k : ∀ s'', Tr B fr W s s'' ρ ρ' H H' -> XT B ρ' H' s s'' e (rawInt L) -> E e s'') : cameBackBy M A env E e s':= by
 unfold cameBackBy
 have c':= c
 revert c; refine xY fun a oe vs a0 T oT => tN fun ts t17 e2 e3 e4 e5 => tD fun e6 e7 f1 f2 f3 f4 f5 f6 f7 => ?_; obtain rfl:= t17
 refine wpAny_bind (wpAny_field e3 e5 f1 ?_)
 rw [if_neg (show ¬ ((Value.ref T == Value.none) = true) from by simp)]
 rw [F.fl]
 exact rJ (fo:= some L) x t c' fun s2 t2 c2 => k s2 t2 c2
theorem eQ {E : Value -> Shared -> Prop} (x : St B fr ρ H s.heap) (t : Tr B fr W s s' ρ ρ' H H') (F : FrI A fr env L) (c : XC B L ρ' H' s s' e)
  (k : ∀ s'', Tr B fr W s s'' ρ ρ' H H' -> XC B L ρ' H' s s'' e -> E e s'') : notedBy M A env (fun e s' => cameBackBy M A env E e s') e s':= by
 unfold notedBy
 exact mM x t F c fun s1 t1 c1 => sh x t1 F c1 fun s2 t2 c2 => k s2 t2 c2.held
end
noncomputable def mD (x : Int) (left : Nat) (st : Int) : List V:= bif decide (st = 1) then vA x left else xX x left
theorem iL : ∀ (i n : Nat) (x : Int), (vA x n).drop i = vA (x + i) (n - i)
 | 0, n, x => by simp
 | i + 1, 0, x => by simp [vA]
 | i + 1, n + 1, x => by
  rw [vA, List.drop_succ_cons, iL i n]
  congr 1
  ·
   lia
  ·
   lia
theorem nZ : ∀ (i n : Nat) (x : Int), (xX x n).drop i = xX (x - i) (n - i)
 | 0, n, x => by simp
 | i + 1, 0, x => by simp [xX]
 | i + 1, n + 1, x => by
  rw [xX, List.drop_succ_cons, nZ i n]
  congr 1
  ·
   lia
  ·
   lia
theorem gX {x : Int} {st : Int} : mD x 0 st = []:= by unfold mD; cases decide (st = 1) <;> rfl
theorem oG {x : Int} {n : Nat} {st : Int} (h : st = 1 \/ st = -1) : mD x (n + 1) st = .int x :: mD (x + st) n st:= by
 rcases h with rfl | rfl
 ·
  rfl
 ·
  rfl
noncomputable def ItAt (B : Base) (ρ : Adr) (H : Hp) (s : Shared) (src : Src) (i : Nat) (I : Addr) : Prop :=
 ¬ zR ρ H I /\ B.hp.get? I = none /\ match src with
 | .ls n => ∃ p, ρ[n]? = some p /\ s.heap.IsListIter I p.1 i
 | .fix xs => (∃ t vs, s.heap.IsTupleIter I t i /\ IsTup s.heap t vs.toArray /\ RVs ρ xs vs /\ ¬ zR ρ H t) \/
   (∃ x left st, IsRangeIter s.heap I x left st /\ (st = 1 \/ st = -1) /\ xs.drop i = mD x left.toNat st)
section
variable {prog : Program} {w : World} {M : Model} {B : Base} {A : Around} {fr : List Addr} {L : Addr} {W : Addr -> Prop} {s s' s'' s0 : Shared} {ρ ρ' ρ0 : Adr} {H H' H0 : Hp} {e : Value} {env : Env} {src : Src} {i : Nat} {I : Addr} {E : Value -> Shared -> Prop}
theorem ItAt.obj (x : ItAt B ρ H s src i I) : ∃ o vs, s.heap.get? I = some o /\ o.data = .fields vs /\ o.cls ≠ .type "tuple" /\ o.cls ≠ .type "range" := by
 revert x; refine oAA fun _ _ x => ?_
 cases src with
 | ls n => revert x; refine jk fun p _ o ho hc hd => ?_; exact ⟨o, _, ho, hd, by rw [hc]; simp, by rw [hc]; simp⟩
 | fix xs =>
  rcases x with ⟨t, vs, ⟨o, ho, hc, hd⟩, _⟩ | ⟨x, l, st, h, _⟩
  ·
   exact ⟨o, _, ho, hd, by rw [hc]; simp, by rw [hc]; simp⟩
  ·
   exact ⟨_, _, h, rfl, by simp, by simp⟩
theorem ItAt.off (x : ItAt B ρ H s src i I) (st : St B fr ρ H s.heap) : Off ρ H I:= by
 refine ⟨x.1, fun n p hp e => ?_⟩
 refine qL (fun o vs ho hd c1 c2 => ?_) x.obj
 have hn : n < H.length:= by rw [<- st.len]; exact (List.getElem?_eq_some_iff.mp hp).1
 have hH:= List.getElem?_eq_getElem hn
 cases q : jQ (H[n]) with
 | true => exact x.1 ⟨n, p, H[n], hp, hH, q, .inl e.symm⟩
 | false =>
  have r:= st.rep n p _ hp hH
  generalize H[n] = oo at r q
  cases oo with
  | lst xs => contradiction
  | ins c fs => contradiction
  | fro xs =>
   revert r; refine oEA fun vs => oEA fun o' h1 _ _ => ?_
   rw [e, x.2.1] at h1; contradiction
  | tup xs =>
   revert r; refine oEA fun vs => xG fun o' h1 h2 _ _ => ?_
   rw [e, ho] at h1; obtain rfl:= si h1
   exact c1 h2
  | rng a b c =>
   revert r; refine fA fun t u v h1 => ?_
   have h2 : s.heap.get? p.1 = some _:= h1
   rw [e, ho] at h2; obtain rfl:= si h2
   exact c2 rfl
theorem ItAt.tr (x : ItAt B ρ H s src i I) (st : St B fr ρ H s.heap) (t : Tr B fr W s s' ρ ρ' H H') (hW : ∀ b o, W b -> s.heap.get? b = some o -> (∀ vs, o.data ≠ .fields vs) /\ ∀ vs n, o.data ≠ .seq vs n) : ItAt B ρ' H' s' src i I:= by
 refine qL (fun o vs ho hd _ _ => ?_) x.obj
 have hI : I ∉ fr:= fun q => by
  refine fl (st.frs I q) <| oA <| oEA fun o' f1 f2 _ => ?_
  obtain rfl:= s2 ho f1
  exact f2 _ hd
 have kI : ∀ o, s.heap.get? I = some o -> s'.heap.get? I = some o:= fun o' q => (t.keep I o' q x.1 fun z => (hW I o z ho).1 _ hd).1 hI
 revert x; refine oAA fun x1 x2 x3 => ?_
 refine ⟨t.nfoot x1 ho, x2, ?_⟩
 refine oE (fun more hm => ?_) t.ext
 cases src with
 | ls n =>
  revert x3; refine oEAEA fun p hp o' h1 h2 => ?_
  refine ⟨p, ?_, o', kI _ h1, h2⟩
  rw [hm, List.getElem?_append_left (List.getElem?_eq_some_iff.mp hp).1]; exact hp
 | fix xs =>
  rcases x3 with ⟨tt, vs', ⟨o', h1, h2⟩, ⟨ot, g1, g2, n, g3⟩, g4, g5⟩ | ⟨y, l, sp, h, r⟩
  ·
   have wt : ¬ W tt:= fun z => (hW tt ot z g1).2 _ _ g3
   refine .inl ⟨tt, vs', ⟨o', kI _ h1, h2⟩, ?_, g4.mono ⟨more, hm⟩, t.nfoot g5 g1⟩
   by_cases q : tt ∈ fr
   ·
    refine oE (fun sl f => ?_) ((t.keep tt ot g1 g5 wt).2 q)
    exact ⟨_, f, g2, n, g3⟩
   ·
    exact ⟨ot, (t.keep tt ot g1 g5 wt).1 q, g2, n, g3⟩
  ·
   exact .inr ⟨y, l, sp, kI _ h, r⟩
theorem EnvI.side {l : Loc} (x : EnvI B env l ρ H s) (k : ∀ b o, s.heap.get? b = some o -> (∀ vs, o.data ≠ .fields vs) -> s'.heap.get? b = some o) : EnvI B env l ρ H s':= by
 refine fl x.ns <| oEA fun m => jN fun o es ep ho hd r hm => ?_
 refine ⟨x.kind, x.glob, x.bui, ⟨m, ⟨o, es, ep, k _ _ ho fun vs q => by (rw [hd] at q; contradiction), hd, r⟩, hm⟩, x.nf, x.nb, fun i hi hk => ?_, x.inj⟩
 refine fl (x.cells i hi hk) <| yN fun c v h1 => oEA fun oc h2 h2' h3 h4 h5 => ?_
 exact ⟨c, v, h1, ⟨oc, k _ _ h2 fun vs q => by (rw [h2'] at q; contradiction), h2'⟩, h3, h4, h5⟩
theorem rI (x0 : St B fr ρ0 H0 s0.heap) (t : Tr B fr W s0 s ρ0 ρ H0 H) (h0 : s0.heap.get? I = none) (it : ItAt B ρ H s src i I) {h' : Heap} {tk : Nat} (k : Heap.ExtBut I s.heap h') :
  Tr B fr W s0 ⟨h', s.gens, s.drawn, tk, s.os⟩ ρ0 ρ H0 H /\ ∀ b o, s.heap.get? b = some o -> (∀ vs, o.data ≠ .fields vs) -> h'.get? b = some o:= by
 refine qL (fun o vs ho hd _ _ => ?_) it.obj
 refine ⟨Tr.side x0 t (X:= fun b => b = I) (fun b hb => ?_) (fun b o e nx _ => k b o nx e) (fun b o' e hb => ?_) rfl rfl rfl, fun b o' e hn => k b o' (fun q => ?_) e⟩
 ·
  rw [hb]; exact ⟨h0, it.off t.st⟩
 ·
  refine ⟨o'.slots, k b o' (fun q => ?_) e⟩
  refine fl (t.st.frs b hb) <| oA <| oEA fun o2 f1 f2 _ => ?_
  rw [q, ho] at f1; obtain rfl:= si f1
  exact f2 _ hd
 ·
  rw [q, ho] at e; obtain rfl:= si e
  exact hn _ hd
theorem lZ {v : V} {Q : Option Value -> Shared -> Prop} (x0 : St B fr ρ0 H0 s0.heap) (t : Tr B fr W s0 s ρ0 ρ H0 H) (h0 : s0.heap.get? I = none) (it : ItAt B ρ H s src i I) (hn : jV src i H = some (some v))
  (k : ∀ u s', RV ρ v u -> Tr B fr W s0 s' ρ0 ρ H0 H -> (∀ b o, s.heap.get? b = some o -> (∀ vs, o.data ≠ .fields vs) -> s'.heap.get? b = some o) -> ItAt B ρ H s' src (i + 1) I -> Q (some u) s') : wpAny (model prog w) A (pyNext (.ref I)) Q E s:= by
 have it0:= it
 revert it; refine oAA fun i1 i2 i3 => ?_
 refine qL (fun oI _ hoI hdI _ _ => ?_) it0.obj
 cases src with
 | ls n =>
  revert i3; refine oEA fun p hp hit => ?_
  unfold jV at hn
  dsimp only at hn
  cases e : zO n H with
  | none => rw [e] at hn; contradiction
  | some xs =>
   rw [e] at hn
   have hx : xs[i]? = some v:= Option.some.inj hn
   unfold zO at e
   split at e
   ·
    rename_i xs' hH
    obtain rfl:= si e
    refine jC (fun e1 vs ep g1 g2 => ?_) (t.st.rep n p _ hp hH)
    refine oEA (fun u hu ru => ?_) (g2.get hx)
    refine wpAny_pyNext_list_item hit (items:= vs.toArray) ⟨_, g1, rfl, ep, rfl⟩ (x:= u) (by simpa using hu) fun h' hit' hs => ?_
    have z:= rI (tk:= s.toks) x0 t h0 it0 hs.extBut
    exact k u _ ru z.1 z.2 ⟨i1, i2, p, hp, hit'⟩
   ·
    contradiction
 | fix xs =>
  have hx : xs[i]? = some v:= Option.some.inj hn
  rcases i3 with ⟨tt, vs, hit, ⟨ot, g1, g2, n, g3⟩, g4, g5⟩ | ⟨y, l, sp, h, hsp, r⟩
  ·
   refine oEA (fun u hu ru => ?_) (g4.get hx)
   refine wpAny_pyNext_tuple_item hit (items:= vs.toArray) ⟨ot, g1, g2, n, g3⟩ (x:= u) (by simpa using hu) fun h' hit' hs => ?_
   have z:= rI (tk:= s.toks) x0 t h0 it0 hs.extBut
   exact k u _ ru z.1 z.2 ⟨i1, i2, .inl ⟨tt, vs, hit', ⟨ot, hs.extBut _ _ (fun q => by rw [q, hoI] at g1; obtain rfl:= si g1; rw [hdI] at g3; contradiction) g1, g2, n, g3⟩, g4, g5⟩⟩
  ·
   have hd : xs.drop i = v :: xs.drop (i + 1):= by
    refine oE (fun hlt he => ?_) (List.getElem?_eq_some_iff.mp hx)
    rw [List.drop_eq_getElem_cons hlt, he]
   rw [hd] at r
   cases hl : l.toNat with
   | zero => rw [hl, gX] at r; contradiction
   | succ m =>
    rw [hl, oG hsp] at r
    injection r with r1 r2
    subst r1
    refine wpAny_pyNext_range_item h (by lia) fun h' hit' hs => ?_
    have z:= rI (tk:= s.toks + 1) x0 t h0 it0 hs.extBut
    refine k _ _ ⟨_, rfl⟩ z.1 z.2 ⟨i1, i2, .inr ⟨y + sp, l - 1, sp, hit', hsp, ?_⟩⟩
    rw [r2]
    have : m = (l - 1).toNat:= tn1 hl
    rw [this]
theorem fF {Q : Option Value -> Shared -> Prop} (hh : A.handled = none) (x0 : St B fr ρ0 H0 s0.heap) (t : Tr B fr W s0 s ρ0 ρ H0 H) (h0 : s0.heap.get? I = none) (it : ItAt B ρ H s src i I) (hn : jV src i H = some .none)
  (k : ∀ s', Tr B fr W s0 s' ρ0 ρ H0 H -> (∀ b o, s.heap.get? b = some o -> (∀ vs, o.data ≠ .fields vs) -> s'.heap.get? b = some o) -> Q .none s') : wpAny (model prog w) A (pyNext (.ref I)) Q E s:= by
 have it0:= it
 revert it; refine oAA fun i1 i2 i3 => ?_
 cases src with
 | ls n =>
  revert i3; refine oEA fun p hp hit => ?_
  unfold jV at hn
  dsimp only at hn
  cases e : zO n H with
  | none => rw [e] at hn; contradiction
  | some xs =>
   rw [e] at hn
   have hx : xs[i]? = .none:= Option.some.inj hn
   unfold zO at e
   split at e
   ·
    rename_i xs' hH
    obtain rfl:= si e
    refine jC (fun e1 vs ep g1 g2 => ?_) (t.st.rep n p _ hp hH)
    refine wpAny_pyNext_list_end hh hit (items:= vs.toArray) ⟨_, g1, rfl, ep, rfl⟩ (by simpa using g2.none hx) fun h' hs => ?_
    have z:= rI (tk:= s.toks) x0 t h0 it0 hs
    exact k _ z.1 z.2
   ·
    contradiction
 | fix xs =>
  have hx : xs[i]? = .none:= Option.some.inj hn
  rcases i3 with ⟨tt, vs, hit, ⟨ot, g1, g2, n, g3⟩, g4, g5⟩ | ⟨y, l, sp, h, hsp, r⟩
  ·
   refine wpAny_pyNext_tuple_end hh hit (items:= vs.toArray) ⟨ot, g1, g2, n, g3⟩ (by simpa using g4.none hx) fun h' hs => ?_
   have z:= rI (tk:= s.toks) x0 t h0 it0 hs
   exact k _ z.1 z.2
  ·
   have hd : xs.drop i = []:= List.drop_eq_nil_iff.mpr (List.getElem?_eq_none_iff.mp hx)
   rw [hd] at r
   cases hl : l.toNat with
   | succ m => rw [hl, oG hsp] at r; contradiction
   | zero =>
    refine wpAny_pyNext_range_end hh h (by lia) fun h' hs => ?_
    have z:= rI (tk:= s.toks) x0 t h0 it0 hs
    exact k _ z.1 z.2
theorem aX {Q : Value -> Shared -> Prop} (it : ItAt B ρ H s src i I) (h : Q (.ref I) s) : wpAny (model prog w) A (pyIter (.ref I)) Q E s:= by
 revert it; refine oAA fun _ _ i3 => ?_
 cases src with
 | ls n => revert i3; refine oEA fun p _ hit => ?_; exact wpAny_pyIter_listiter hit h
 | fix xs =>
  rcases i3 with ⟨tt, vs, hit, _⟩ | ⟨y, l, sp, hit, _⟩
  ·
   exact wpAny_pyIter_tupleiter hit h
  ·
   exact wpAny_pyIter_rangeiter hit h
theorem gR {i : Int} (h : small i = true) : i.natAbs < 2 ^ 60:= by unfold small at h; exact dTr h
theorem lU (a b : Int) : Builtin.Range.rangeSize a b 1 = ((b - a).toNat : Int):= by rw [rangeSize_one]; split <;> lia
theorem lV (a b : Int) : Builtin.Range.rangeSize a b (-1) = ((a - b).toNat : Int):= by
 unfold Builtin.Range.rangeSize
 rw [if_neg (by exact cL (sy rfl))]
 split
 ·
  have : -(-1 : Int) = 1:= rfl
  rw [this, Int.ediv_one]; lia
 ·
  lia
theorem rsmall {a b c : Int} (ha : small a = true) (hb : small b = true) (hc : c = 1 \/ c = -1) : Builtin.Range.small a b c = true:= by
 have h1:= gR ha
 have h2:= gR hb
 unfold Builtin.Range.small Builtin.Range.rangeFitsLong
 simp only [Bool.and_eq_true, decide_eq_true_eq, Bool.or_eq_true]
 rcases hc with rfl | rfl
 ·
  rw [lU]
  refine ⟨⟨⟨⟨?_, ?_⟩, ?_⟩, ?_⟩, .inr ?_⟩ <;> first | exact lx h1 | exact lx h2 | exact bdT h1 h2 | decide | (rw [if_pos (by decide)]; simp only [Bool.and_eq_true, decide_eq_true_eq]; exact bdA h2 (by decide))
 ·
  rw [lV]
  refine ⟨⟨⟨⟨?_, ?_⟩, ?_⟩, ?_⟩, .inr ?_⟩ <;> first | exact lx h1 | exact lx h2 | exact bdT h2 h1 | decide | (rw [if_neg (by decide)]; simp only [Bool.and_eq_true, decide_eq_true_eq]; exact bdA h2 (by decide))
theorem bW {v : V} {u : Value} {H' : Hp} {Q : Value -> Shared -> Prop} (x : St B fr ρ H s.heap) (hv : RV ρ v u) (hs : jM v H = .ok src H')
  (k : H' = H -> ∀ s', Tr B fr W s s' ρ ρ H H -> (∀ b o, s.heap.get? b = some o -> s'.heap.get? b = some o) -> s.heap.get? s.heap.objs.size = none -> ItAt B ρ H s' src 0 s.heap.objs.size -> Q (.ref s.heap.objs.size) s') : wpAny (model prog w) A (pyIter u) Q E s:= by
 cases v with
 | ref n =>
  revert hv; refine oEA fun p hp t02 => ?_; obtain rfl:= t02
  have hI:= yM s.heap
  have nI : ¬ zR ρ H s.heap.objs.size:= (vR x hI).1
  have bI : B.hp.get? s.heap.objs.size = none:= by
   cases q : B.hp.get? s.heap.objs.size with
   | none => rfl
   | some o => rw [x.bk _ _ q] at hI; contradiction
  unfold jM at hs
  dsimp only at hs
  split at hs
  ·
   rename_i xs hH
   cases hs
   refine jC (fun e1 vs ep g1 g2 => ?_) (x.rep n p _ hp hH)
   refine wpAny_pyIter_list (items:= vs.toArray) ⟨_, g1, rfl, ep, rfl⟩ ?_
   exact k rfl _ (xT x (fun b o q => Heap.get?_push_of_some _ q) rfl rfl rfl) (fun b o q => Heap.get?_push_of_some _ q) hI ⟨nI, bI, p, hp, _, Heap.get?_push_size _ rfl, rfl, rfl⟩
  ·
   rename_i xs hH
   cases hs
   refine fl (x.rep n p _ hp hH) <| oEA fun vs => bM fun ot g1 g2 n' g3 g4 => ?_
   refine wpAny_pyIter_tuple (items:= vs.toArray) ⟨_, g1, g2, n', g3⟩ ?_
   exact k rfl _ (xT x (fun b o q => Heap.get?_push_of_some _ q) rfl rfl rfl) (fun b o q => Heap.get?_push_of_some _ q) hI ⟨nI, bI, .inl ⟨p.1, vs, ⟨_, Heap.get?_push_size _ rfl, rfl, rfl⟩, ⟨ot, Heap.get?_push_of_some _ g1, g2, n', g3⟩, g4, x.im n p _ hp hH rfl⟩⟩
  ·
   rename_i a b c hH
   split at hs
   ·
    rename_i xs hr
    cases hs
    refine fA (fun tk1 tk2 tk3 g1 => ?_) (x.rep n p _ hp hH)
    have hr' : small a = true /\ small b = true /\ ((c = 1 /\ xs = vA a (b - a).toNat) \/ (c = -1 /\ xs = xX a (a - b).toNat)):= by
     unfold rF at hr
     cases h1 : small a <;> cases h2 : small b <;> rw [h1, h2] at hr <;> simp only [Bool.and_true, Bool.and_false, Bool.true_and, Bool.false_and, cond_true, cond_false, reduceCtorEq] at hr
     refine ⟨rfl, rfl, ?_⟩
     by_cases h3 : c = 1
     ·
      rw [eTr h3] at hr; simp only [cond_true] at hr; exact .inl ⟨h3, (Option.some.inj hr).symm⟩
     ·
      rw [eFa h3] at hr; simp only [cond_false] at hr
      by_cases h4 : c = -1
      ·
       rw [eTr h4] at hr; simp only [cond_true] at hr; exact .inr ⟨h4, (Option.some.inj hr).symm⟩
      ·
       rw [eFa h4] at hr; contradiction
    revert hr'; refine oAA fun ha hb hc => ?_
    refine wpAny_pyIter_range g1 (rsmall ha hb (hc.imp And.left And.left)) ?_
    refine k rfl _ (xT x (fun b o q => Heap.get?_push_of_some _ q) rfl rfl rfl) (fun b o q => Heap.get?_push_of_some _ q) hI ⟨nI, bI, .inr ⟨_, _, _, Heap.get?_push_size _ rfl, hc.imp And.left And.left, ?_⟩⟩
    rcases hc with ⟨rfl, rfl⟩ | ⟨rfl, rfl⟩
    ·
     rw [lU]; rfl
    ·
     rw [lV]; rfl
   ·
    contradiction
  ·
   contradiction
 | _ => contradiction
end
theorem xO {z : Str} : ∀ (names : List (Str × NameKind)) (n : Nat) (acc : List (Str × Addr)), (∀ p ∈ names, p.2 = .cell -> p.1 ≠ z) -> (cellsFrom n names acc).lookup z = acc.lookup z
 | [], _, _, _ => rfl
 | (name, kind) :: r, n, acc, h => by
  unfold cellsFrom
  have hr:= fun p hp => h p (List.mem_cons_of_mem _ hp)
  split
  ·
   rename_i hk
   rw [xO r _ _ hr, List.lookup_cons]
   have : (z == name) = false:= beq_eq_false_iff_ne.mpr fun e => h (name, kind) (.head _) (by simpa using hk) e.symm
   rw [this]
  ·
   exact xO r _ _ hr
theorem tI {y : Str} : ∀ (names : List (Str × NameKind)) (h : Heap) (acc : List (Str × Addr)), (∃ p ∈ names, p.2 = .cell /\ p.1 = y) ->
  ∃ c, (cellsFrom h.objs.size names acc).lookup y = some c /\ h.objs.size <= c /\ (pushCells h names).IsCell c none
 | [], _, _, h => by revert h; refine oEA fun _ h _ => ?_; cases h
 | (name, kind) :: r, h, acc, hx => by
  unfold cellsFrom pushCells
  split
  ·
   rename_i hk
   by_cases hr : ∃ p ∈ r, p.2 = .cell /\ p.1 = y
   ·
    refine xG (fun c h1 h2 h3 => ?_) (tI r (h.push { cls := .type "cell", data := .cell none }) ((name, h.objs.size) :: acc) hr)
    rw [Heap.size_push] at h1 h2
    exact ⟨c, h1, by exact jZ vM h2, h3⟩
   ·
    have hy : name = y:= by
     revert hx; refine xG fun p hp h1 h2 => ?_
     rcases List.mem_cons.mp hp with rfl | hp
     ·
      exact h2
     ·
      exact absurd ⟨p, hp, h1, h2⟩ hr
    refine ⟨h.objs.size, ?_, Nat.le_refl _, ?_⟩
    ·
     rw [xO r _ _ (fun p hp h1 h2 => hr ⟨p, hp, h1, h2⟩), hy]
     simp
    ·
     exact Heap.IsCell.keeps ⟨_, Heap.get?_push_size _ rfl, rfl⟩ (pushCells_keeps r _)
  ·
   rename_i hk
   refine tI r h acc ?_
   revert hx; refine xG fun p hp h1 h2 => ?_
   rcases List.mem_cons.mp hp with rfl | hp
   ·
    exact absurd (by simpa using h1) hk
   ·
    exact ⟨p, hp, h1, h2⟩
theorem uY {env : Env} (f : Str × NameKind -> List (Str × Addr) -> Sem (ForInStep (List (Str × Addr)))) (hf : ∀ n k cs, f (n, k) cs = if (k == NameKind.free) = true then (do let c <- cellOf env n; pure (.yield ((n, c) :: cs))) else pure (.yield cs)) :
  ∀ (names : List (Str × NameKind)) (acc : List (Str × Addr)), (∀ p ∈ names, p.2 = .free -> (env.cells.lookup p.1).isSome = true) ->
   ∃ cl, forIn names acc f = (pure cl : Sem (List (Str × Addr))) /\ (∀ z, (∃ p ∈ names, p.2 = .free /\ p.1 = z) -> cl.lookup z = env.cells.lookup z) /\ (∀ z, ¬ (∃ p ∈ names, p.2 = .free /\ p.1 = z) -> cl.lookup z = acc.lookup z)
 | [], acc, _ => ⟨acc, rfl, fun z h => (by revert h; refine oEA fun _ h _ => ?_; cases h), fun _ _ => rfl⟩
 | (n, k) :: r, acc, h => by
  have hr:= fun p hp => h p (List.mem_cons_of_mem _ hp)
  by_cases hk : k = .free
  ·
   subst hk
   refine oE (fun c hc => ?_) (Option.isSome_iff_exists.mp (h (n, .free) (.head _) rfl))
   refine xG (fun cl h1 h2 h3 => ?_) (uY f hf r ((n, c) :: acc) hr)
   refine ⟨cl, ?_, fun z hz => ?_, fun z hz => ?_⟩
   ·
    rw [List.forIn_cons, hf, if_pos (by decide)]
    unfold cellOf
    rw [hc]
    exact h1
   ·
    by_cases q : ∃ p ∈ r, p.2 = .free /\ p.1 = z
    ·
     exact h2 z q
    ·
     have : n = z:= by
      revert hz; refine xG fun p hp g1 g2 => ?_
      rcases List.mem_cons.mp hp with rfl | hp
      ·
       exact g2
      ·
       exact absurd ⟨p, hp, g1, g2⟩ q
     rw [h3 z q, this]
     subst this
     simp [hc]
   ·
    have : (z == n) = false:= beq_eq_false_iff_ne.mpr fun e => hz ⟨(n, .free), .head _, rfl, e.symm⟩
    rw [h3 z <| oEA fun p hp q => hz ⟨p, .tail _ hp, q⟩, List.lookup_cons, this]
  ·
   refine xG (fun cl h1 h2 h3 => ?_) (uY f hf r acc hr)
   refine ⟨cl, ?_, fun z hz => ?_, fun z hz => ?_⟩
   ·
    rw [List.forIn_cons, hf, if_neg (by simpa using hk)]
    exact h1
   ·
    refine h2 z ?_
    revert hz; refine xG fun p hp g1 g2 => ?_
    rcases List.mem_cons.mp hp with rfl | hp
    ·
     exact absurd g1 hk
    ·
     exact ⟨p, hp, g1, g2⟩
   ·
    exact h3 z <| oEA fun p hp q => hz ⟨p, .tail _ hp, q⟩
theorem cD {scope : Scope} {env : Env} (h : ∀ p ∈ scope.names, p.2 = .free -> (env.cells.lookup p.1).isSome = true) :
  ∃ cl, closureFor scope env = pure cl /\ (∀ z, (∃ p ∈ scope.names, p.2 = .free /\ p.1 = z) -> cl.lookup z = env.cells.lookup z) /\ (∀ z, ¬ (∃ p ∈ scope.names, p.2 = .free /\ p.1 = z) -> cl.lookup z = none):= by
 obtain ⟨cl, h1, h2, h3⟩:= uY (env:= env) (fun x r => match x with
  | (name, kind) => if (kind == NameKind.free) = true then (do let c <- cellOf env name; pure (.yield ((name, c) :: r))) else pure (.yield r)) (fun _ _ _ => rfl) scope.names [] h
 refine ⟨cl, ?_, h2, fun z hz => (h3 z hz).trans rfl⟩
 unfold closureFor
 exact (congrArg (fun t : Sem (List (Str × Addr)) => t >>= fun cs => pure cs) h1).trans rfl
noncomputable def nX (K : Kd) (n : Str) (k : NameKind) : NameKind:= match k, K n with
 | .free, some .cell => .cell
 | k, _ => k
theorem mQ {α β : Type} (g : Str -> α -> β) : ∀ (l : List (Str × α)) (z : Str), (l.map fun p => (p.1, g p.1 p.2)).lookup z = (l.lookup z).map (g z)
 | [], _ => rfl
 | (n, a) :: r, z => by
  simp only [List.map_cons, List.lookup_cons]
  cases h : z == n with
  | true => rw [beq_iff_eq.mp h]; rfl
  | false => exact mQ g r z
theorem nE (K : Kd) (sc : Scope) (z : Str) : uF K sc z = (sc.names.lookup z).map (nX K z):= by
 rw [<- mQ (nX K)]; rfl
theorem iU {M : Model} {A : Around} {E : Value -> Shared -> Prop} {s : Shared} {scope : Scope} {globals : Addr} {cl : List (Str × Addr)} {qual : Str} {outer : Env} {Q : Env -> Shared -> Prop}
  (hQ : Q (newEnv scope s.heap.objs.size globals (cellsFrom (s.heap.objs.size + 1) scope.names cl) qual none .none (some outer) builtinsNs) ⟨pushCells (s.heap.push { cls := .type "dict", data := .dict #[] }) scope.names, s.gens, s.drawn, s.toks, s.os⟩) :
  wpAny M A (newFunctionEnv scope globals cl [] qual none .none (some outer)) Q E s:= by
 simp only [newFunctionEnv, Option.isSome_some, if_true]
 refine wpAny_bind (wpAny_alloc ?_)
 refine wpAny_bind (wpAny_layCells _ (fun name kind cells => by cases hkc : kind == NameKind.cell <;> simp [hkc]) _ _ _ _ ?_)
 rw [show ({ s with heap := s.heap.push { cls := .type "dict", data := .dict #[] } } : Shared).heap.objs.size = s.heap.objs.size + 1 from Heap.size_push ..]
 rw [List.forIn_nil]
 exact wpAny_bind (wpAny_pure (wpAny_pure hQ))
section
variable {prog : Program} {w : World} {M : Model} {B : Base} {A : Around} {fr : List Addr} {L : Addr} {W : Addr -> Prop} {s s' s'' s0 : Shared} {ρ ρ' ρ0 : Adr} {H H' H0 : Hp} {e : Value} {env : Env} {src : Src} {i : Nat} {I : Addr} {E : Value -> Shared -> Prop}
theorem pQ (st : St B fr ρ H s.heap) {a : Addr} {o : Obj} (nf : ¬ zR ρ H a) (hb : B.hp.get? a = none) (ho : s.heap.get? a = some o) (h1 : ¬ (o.cls = .type "tuple" /\ ∃ vs n, o.data = .seq vs n)) (h2 : ∀ vs, o.data ≠ .fields vs) : Off ρ H a := by
 refine ⟨nf, fun n p hp e => ?_⟩
 have hn : n < H.length:= by rw [<- st.len]; exact (List.getElem?_eq_some_iff.mp hp).1
 have hH:= List.getElem?_eq_getElem hn
 cases q : jQ (H[n]) with
 | true => exact nf ⟨n, p, H[n], hp, hH, q, .inl e.symm⟩
 | false =>
  have r:= st.rep n p _ hp hH
  generalize H[n] = oo at r q
  cases oo with
  | lst xs => contradiction
  | ins c fs => contradiction
  | fro xs =>
   revert r; refine oEA fun vs => oEA fun o' g1 _ _ => ?_
   rw [e, hb] at g1; contradiction
  | tup xs =>
   revert r; refine oEA fun vs => bM fun o' g1 g2 n' g3 _ => ?_
   rw [e, ho] at g1; obtain rfl:= si g1
   exact h1 ⟨g2, _, _, g3⟩
  | rng a b c =>
   revert r; refine fA fun t u v g1 => ?_
   have g2 : s.heap.get? p.1 = some _:= g1
   rw [e, ho] at g2; obtain rfl:= si g2
   exact h2 _ rfl
theorem fp (x0 : St B fr ρ0 H0 s0.heap) (t : Tr B fr W s0 s ρ0 ρ H0 H) {D : Addr} {xs : List V} {vs : List Value} {ep : Nat} (h0 : s0.heap.get? D = none) (off : Off ρ H D)
  (hD : s.heap.get? D = some { cls := .type "list", dict := none, data := .seq vs.toArray ep, slots := #[] }) (hr : RVs ρ xs vs) : Tr B fr W s0 s ρ0 (ρ ++ [(D, D)]) H0 (H ++ [.lst xs]) := by
 have st:= t.st
 have ft : ∀ b, zR (ρ ++ [(D, D)]) (H ++ [.lst xs]) b -> zR ρ H b \/ b = D:= by
  refine fun b => xZ fun n q o' hq ho hm hb => ?_
  rcases xV hq with hq | ⟨hn, rfl⟩
  ·
   rcases xV ho with ho | ⟨hn, rfl⟩
   ·
    exact .inl ⟨n, q, o', hq, ho, hm, hb⟩
   ·
    have:= (List.getElem?_eq_some_iff.mp hq).1; rw [st.len] at this; exact gE this hn
  ·
   rcases hb with rfl | rfl <;> exact .inr rfl
 have hB : B.hp.get? D = none:= by
  cases q : B.hp.get? D with
  | none => rfl
  | some o => rw [x0.bk D o q] at h0; contradiction
 have hfr : D ∉ fr:= fun q => by
  refine fl (x0.frs D q) <| oA <| oEA fun o g1 _ _ => ?_
  exact ns h0 g1
 have old : ∀ {n : Nat} {q : Addr × Addr} {o' : O}, (ρ ++ [(D, D)])[n]? = some q -> (H ++ [O.lst xs])[n]? = some o' -> (ρ[n]? = some q /\ H[n]? = some o') \/ (q = (D, D) /\ o' = .lst xs /\ n = H.length):= by
  intro n q o' hq ho
  rcases xV hq with hq | ⟨hn, rfl⟩
  ·
   rcases xV ho with ho | ⟨hn, rfl⟩
   ·
    exact .inl ⟨hq, ho⟩
   ·
    have:= (List.getElem?_eq_some_iff.mp hq).1; rw [st.len] at this; exact gE this hn
  ·
   rcases xV ho with ho | ⟨hn', rfl⟩
   ·
    have:= (List.getElem?_eq_some_iff.mp ho).1; rw [st.len] at hn; exact gE this hn
   ·
    exact .inr ⟨rfl, rfl, hn'⟩
 have ne1 : ∀ {n : Nat} {q : Addr × Addr} {o' : O}, ρ[n]? = some q -> H[n]? = some o' -> jQ o' = true -> q.1 ≠ D /\ q.2 ≠ D:= fun hq ho hm =>
  ⟨fun z => off.1 ⟨_, _, _, hq, ho, hm, .inl z.symm⟩, fun z => off.1 ⟨_, _, _, hq, ho, hm, .inr z.symm⟩⟩
 refine oE (fun more hm => ?_) t.ext
 refine ⟨⟨more ++ [(D, D)], by rw [hm, List.append_assoc]⟩, t.keep, fun b hb => ?_, t.dom, ?_, t.gens, t.drawn, t.os⟩
 ·
  rcases ft b hb with z | rfl
  ·
   exact t.foot b z
  ·
   exact .inr h0
 ·
  refine ⟨st.bk, by simp [st.len], fun n q o hq ho => ?_, ?_, fun b hb => ?_, ?_, fun L hL => ?_, fun n q hq => ?_⟩
  ·
   rcases old hq ho with ⟨hq, ho⟩ | ⟨rfl, rfl, _⟩
   ·
    exact (st.rep n q o hq ho).mono ⟨_, rfl⟩
   ·
    exact ⟨rfl, vs, ep, hD, hr.mono ⟨_, rfl⟩⟩
  ·
   intro n m q q' o1 o2 hq hq' ho ho' m1 m2 hne
   rcases old hq ho with ⟨a1, a2⟩ | ⟨a1, a2, hn⟩ <;> rcases old hq' ho' with ⟨b1, b2⟩ | ⟨b1, b2, hn'⟩
   ·
    exact st.apart n m q q' o1 o2 a1 b1 a2 b2 m1 m2 hne
   ·
    rw [b1]; have z:= ne1 a1 a2 m1; exact ⟨z.1, z.1, z.2, z.2⟩
   ·
    rw [a1]; have z:= ne1 b1 b2 m2; exact ⟨fun e => z.1 e.symm, fun e => z.2 e.symm, fun e => z.1 e.symm, fun e => z.2 e.symm⟩
   ·
    exact absurd (hn.trans hn'.symm) hne
  ·
   rcases ft b hb with z | rfl
   ·
    exact st.mb b z
   ·
    exact hB
  ·
   intro n q o hq ho hm' hf
   rcases old hq ho with ⟨hq, ho⟩ | ⟨rfl, rfl, _⟩
   ·
    refine oO (fun z => ?_) (fun z => ?_) (ft _ hf)
    ·
     exact st.im n q o hq ho hm' z
    ·
     exact off.2 n q hq z
   ·
    contradiction
  ·
   refine oAA (fun g1 g2 g3 => ?_) (st.frs L hL)
   refine ⟨g1, g2, fun hf => ?_⟩
   rcases ft L hf with z | rfl
   ·
    exact g3 z
   ·
    exact hfr hL
  ·
   have:= st.ini n q hq
   rw [List.getElem?_append_left (List.getElem?_eq_some_iff.mp this).1]; exact this
end
structure CompOk (K : Kd) (sc : Scope) (x : Nat) : Prop where
 hx : x < nmS.length
 kind : sc.kind = .function
 loc : sc.names.lookup (nm x) = some .local \/ sc.names.lookup (nm x) = some .cell
 lm : ∀ p ∈ sc.names, p.2 = .local -> (p.1 = nm x \/ p.1 ∉ nmS) /\ sc.names.lookup p.1 = some .local
 cm : ∀ p ∈ sc.names, p.2 = .cell -> p.1 = nm x
 fm : ∀ p ∈ sc.names, p.2 = .free -> (K p.1 = some .cell \/ K p.1 = some .free) /\ p.1 ∈ nmS
theorem rK {K : Kd} {sc : Scope} {x : Nat} (hx : x < nmS.length) (h : pf K sc (nm x) = true) (hl : (match sc.names.lookup (nm x) with | some .local => true | some .cell => true | _ => false) = true) : CompOk K sc x:= by
 unfold pf at h
 simp only [Bool.and_eq_true, List.all_eq_true] at h
 revert h; refine oA <| oA <| oA fun h1 h2 h3 h4 => ?_
 refine ⟨hx, ?_, ?_, fun p hp e => ?_, fun p hp e => ?_, fun p hp e => ?_⟩
 ·
  cases q : sc.kind <;> rw [q] at h1 <;> first | rfl | contradiction
 ·
  cases q : sc.names.lookup (nm x) with
  | none => rw [q] at hl; contradiction
  | some k => rw [q] at hl; cases k <;> first | exact .inl rfl | exact .inr rfl | contradiction
 ·
  have z:= h4 p hp
  rw [e] at z
  dsimp only at z
  simp only [Bool.and_eq_true, Bool.or_eq_true, decide_eq_true_eq, Bool.not_eq_true', List.contains_eq_mem, decide_eq_false_iff_not] at z
  refine ⟨z.1, ?_⟩
  have z2:= z.2
  split at z2
  ·
   assumption
  ·
   contradiction
 ·
  have z:= h4 p hp
  rw [e] at z
  dsimp only at z
  simp only [Bool.and_eq_true, decide_eq_true_eq] at z
  exact z.1
 ·
  have z:= h4 p hp
  rw [e] at z
  dsimp only at z
  split at z
  ·
   rename_i q
   exact ⟨.inl q, by simpa using z⟩
  ·
   rename_i q
   exact ⟨.inr q, by simpa using z⟩
  ·
   contradiction
noncomputable abbrev vJ (sc : Scope) (cells : List (Str × Addr)) (C : Addr) (env : Env) : Env:= { newEnv sc C env.globals cells env.qual none .none (some env) builtinsNs with scope:= relabel sc env }
theorem bU {env : Env} {K : Kd} {sc : Scope} {cells : List (Str × Addr)} {C : Addr} (hk : env.scope.kind = .function) (h : ∀ x, env.kindOf x = K x) (z : Str) : (vJ sc cells C env).kindOf z = uF K sc z:= by
 show (relabel sc env).names.lookup z = _
 unfold relabel uF
 dsimp only
 congr 1
 refine List.map_congr_left fun p _ => ?_
 obtain ⟨n, k⟩:= p
 dsimp only
 rw [hk, h n]
 cases k <;> first | rfl | skip
 cases K n with
 | none => rfl
 | some q => cases q <;> rfl
section
variable {prog : Program} {w : World} {M : Model} {B : Base} {A : Around} {fr : List Addr} {L : Addr} {W : Addr -> Prop} {s s' s'' s0 : Shared} {ρ ρ' ρ0 : Adr} {H H' H0 : Hp} {e : Value} {env : Env} {src : Src} {i : Nat} {I : Addr} {E : Value -> Shared -> Prop}
structure CellsAre (env : Env) (sc : Scope) (x : Nat) (cells : List (Str × Addr)) (s0 : Shared) : Prop where
 any : ∀ z c, cells.lookup z = some c -> (z = nm x /\ s0.heap.get? c = none) \/ (env.cells.lookup z = some c /\ ∃ p ∈ sc.names, p.2 = .free /\ p.1 = z)
 free : ∀ z, sc.names.lookup z = some .free -> z ≠ nm x -> cells.lookup z = env.cells.lookup z
 own : sc.names.lookup (nm x) = some .cell -> ∃ c, cells.lookup (nm x) = some c /\ s0.heap.get? c = none
theorem mem_nm {z : Str} (h : z ∈ nmS) : ∃ i, i < nmS.length /\ z = nm i:= by
 obtain ⟨i, hi, e⟩:= List.getElem_of_mem h
 exact ⟨i, hi, by rw [iS hi, e]⟩
theorem eK {K : Kd} {l : Loc} {sc : Scope} {x : Nat} {cells : List (Str × Addr)} {C : Addr} {v : V} {u : Value} {m : Str -> Option Value} (hc : CompOk K sc x) (p0 : Pre B fr env K l ρ0 H0 s0) (t : Tr B fr zE s0 s ρ0 ρ H0 H)
  (hC : s0.heap.get? C = none) (nC : ¬ zR ρ H C) (ca : CellsAre env sc x cells s0) (hn : s.heap.Ns C m) (hv : RV ρ v u) (hl : sc.names.lookup (nm x) = some .local -> m (nm x) = some u)
  (hcy : sc.names.lookup (nm x) = some .cell -> ∃ c, cells.lookup (nm x) = some c /\ s.heap.IsCell c (some u) /\ ¬ zR ρ H c) : Pre B fr (vJ sc cells C env) (uF K sc) (put x v l) ρ H s:= by
 have E0:= p0.2.1
 have E1:= E0.tr t
 have fresh : ∀ c, s0.heap.get? c = none -> B.hp.get? c = none:= fun c h => by
  cases q : B.hp.get? c with
  | none => rfl
  | some o => rw [p0.2.2.bk c o q] at h; contradiction
 have kd : ∀ z, (vJ sc cells C env).kindOf z = uF K sc z:= bU E0.kind p0.1
 refine ⟨kd, ⟨hc.kind, E0.glob, E0.bui, ⟨m, hn, fun i hi hk => ?_⟩, nC, fresh C hC, fun i hi hk => ?_, fun i j c hi hj h1 h2 => ?_⟩, t.st⟩
 ·
  rw [kd, nE] at hk
  cases q : sc.names.lookup (nm i) with
  | none => rw [q] at hk; contradiction
  | some k =>
   rw [q] at hk
   have hk' : nX K (nm i) k = .local:= Option.some.inj hk
   have hkl : k = .local:= by
    unfold nX at hk'
    split at hk'
    ·
     contradiction
    ·
     exact hk'
   subst hkl
   have z:= hc.lm (nm i, .local) (mem_of_lookup q) rfl
   refine oO (fun e => ?_) (fun e => ?_) z.1
   ·
    have : i = x:= tO hi hc.hx e
    subst this
    rw [vC, if_pos rfl, hl q]
    exact hv
   ·
    exact absurd (dP hi) e
 ·
  rw [kd, nE] at hk
  cases q : sc.names.lookup (nm i) with
  | none => rw [q] at hk; (revert hk; refine oO (fun hk => ?_) fun hk => ?_) <;> contradiction
  | some k =>
   rw [q] at hk
   have hkk : k = .cell \/ k = .free:= by
    have : nX K (nm i) k = .cell \/ nX K (nm i) k = .free:= hk.imp Option.some.inj Option.some.inj
    unfold nX at this
    split at this
    ·
     exact .inr rfl
    ·
     exact this
   rcases hkk with rfl | rfl
   ·
    have e:= hc.cm (nm i, .cell) (mem_of_lookup q) rfl
    have : i = x:= tO hi hc.hx e
    subst this
    refine xG (fun c g1 g2 g3 => ?_) (hcy q)
    refine ⟨c, some u, g1, g2, ?_, g3, ?_⟩
    ·
     rw [vC, if_pos rfl]; exact hv
    ·
     rcases ca.any _ _ g1 with ⟨_, g⟩ | ⟨g, p, hp, hp1, hp2⟩
     ·
      exact fresh c g
     ·
      have:= (hc.fm p hp hp1).1
      rw [hp2] at this
      refine yN (fun c' v' f1 _ _ _ f5 => ?_) (E0.cells i hi (this.imp (fun z => (p0.1 _).trans z) (fun z => (p0.1 _).trans z)))
      obtain rfl:= s2 g f1
      exact f5
   ·
    have hne : nm i ≠ nm x:= fun e => by
     rw [e] at q
     refine oO (fun z => ?_) (fun z => ?_) hc.loc <;> rw [z] at q <;> ((injection q; contradiction))
    have z:= (hc.fm (nm i, .free) (mem_of_lookup q) rfl).1
    refine yN (fun c v' f1 f2 f3 f4 f5 => ?_) (E1.cells i hi (z.imp (fun z => (p0.1 _).trans z) (fun z => (p0.1 _).trans z)))
    refine ⟨c, v', (ca.free _ q hne).trans f1, f2, ?_, f4, f5⟩
    rw [vC, if_neg fun e => hne (by rw [e])]
    exact f3
 ·
  have cellE : ∀ k, k < nmS.length -> ∀ c, env.cells.lookup (nm k) = some c -> (∃ p ∈ sc.names, p.2 = .free /\ p.1 = nm k) -> s0.heap.get? c ≠ none:= by
   refine fun k hk c hcc => xG fun p hp hp1 hp2 => ?_
   have:= (hc.fm p hp hp1).1
   rw [hp2] at this
   refine fl (E0.cells k hk (this.imp (fun z => (p0.1 _).trans z) (fun z => (p0.1 _).trans z))) <| wQ fun c' v' f1 => oEA fun o f2 _ _ => ?_
   obtain rfl:= s2 hcc f1
   rw [f2]; simp
  rcases ca.any _ _ h1 with ⟨a1, a2⟩ | ⟨a1, a2⟩ <;> rcases ca.any _ _ h2 with ⟨b1, b2⟩ | ⟨b1, b2⟩
  ·
   exact tO hi hj (a1.trans b1.symm)
  ·
   exact absurd a2 (cellE j hj c b1 b2)
  ·
   exact absurd b2 (cellE i hi c a1 a2)
  ·
   exact E0.inj i j c hi hj a1 b1
theorem ItAt.same (x : ItAt B ρ H s src i I) (k : ∀ b o, s.heap.get? b = some o -> ((∃ vs, o.data = .fields vs) \/ (o.cls = .type "tuple" /\ ∃ vs n, o.data = .seq vs n)) -> s'.heap.get? b = some o) : ItAt B ρ H s' src i I := by
 revert x; refine oAA fun x1 x2 x3 => ?_
 refine ⟨x1, x2, ?_⟩
 cases src with
 | ls n =>
  revert x3; refine jk fun p hp o' h1 h2 h3 => ?_
  exact ⟨p, hp, o', k _ _ h1 (.inl ⟨_, h3⟩), h2, h3⟩
 | fix xs =>
  rcases x3 with ⟨tt, vs', ⟨o', h1, h2, h3⟩, ⟨ot, g1, g2, n, g3⟩, g4, g5⟩ | ⟨y, l, sp, h, r⟩
  ·
   exact .inl ⟨tt, vs', ⟨o', k _ _ h1 (.inl ⟨_, h3⟩), h2, h3⟩, ⟨ot, k _ _ g1 (.inr ⟨g2, _, _, g3⟩), g2, n, g3⟩, g4, g5⟩
  ·
   exact .inr ⟨y, l, sp, k _ _ h (.inl ⟨_, rfl⟩), r⟩
structure Priv (B : Base) (sc : Scope) (x : Nat) (cells : List (Str × Addr)) (C D I : Addr) (ρ : Adr) (H : Hp) (s : Shared) (src : Src) (i : Nat) (acc : List V) : Prop where
 it : ItAt B ρ H s src i I
 dl : ¬ zR ρ H D /\ ∃ vs ep, s.heap.get? D = some { cls := .type "list", dict := none, data := .seq vs.toArray ep, slots := #[] } /\ RVs ρ acc vs
 cn : ¬ zR ρ H C /\ ∃ m, s.heap.Ns C m
 cc : sc.names.lookup (nm x) = some .cell -> ∃ c v, cells.lookup (nm x) = some c /\ ¬ zR ρ H c /\ s.heap.IsCell c v
end
section
variable {prog : Program} {w : World} {M : Model} {B : Base} {A : Around} {fr : List Addr} {L : Addr} {W : Addr -> Prop} {s s' s'' s0 : Shared} {ρ ρ' ρ0 : Adr} {H H' H0 : Hp} {e : Value} {env : Env} {src : Src} {i : Nat} {I C D : Addr} {E : Value -> Shared -> Prop}
 {sc : Scope} {x : Nat} {cells : List (Str × Addr)} {acc : List V}
theorem Priv.tr (P : Priv B sc x cells C D I ρ H s src i acc) (x0 : St B fr ρ0 H0 s0.heap) (hD : s0.heap.get? D = none) (st : St B fr ρ H s.heap) (t : Tr B fr zE s s' ρ ρ' H H') : Priv B sc x cells C D I ρ' H' s' src i acc:= by
 have hDf : D ∉ fr:= fun q => by
  refine fl (x0.frs D q) <| oA <| oEA fun o g1 _ _ => ?_
  exact ns hD g1
 refine ⟨P.it.tr st t (fun _ _ z => z.elim), ?_, ?_, fun hq => ?_⟩
 ·
  refine jC (fun n vs ep h r => ?_) P.dl
  exact ⟨t.nfoot n h, vs, ep, (t.keep D _ h n id).1 hDf, r.mono t.ext⟩
 ·
  refine oAE (fun n m h => ?_) P.cn
  refine ⟨?_, m, Ns.mono h (t.data n id)⟩
  revert h; refine pS fun o _ _ ho _ => ?_
  exact t.nfoot n ho
 ·
  refine wQ (fun c v h1 h2 h3 => ?_) (P.cc hq)
  refine ⟨c, v, h1, ?_, IsCell.mono h3 (t.data h2 id)⟩
  revert h3; refine oEA fun o ho _ => ?_
  exact t.nfoot h2 ho
noncomputable abbrev xU (T : Tab) (call : Call) (m : ME) (x : Nat) (l : Loc) (tst : V -> Mo Bool) : V -> List V -> Mo (List V):= fun v acc => bnd (tst v) fun t => match t with
 | true => bnd (eval T call m (put x v l)) fun w => ret (acc ++ [w])
 | false => ret acc
theorem bd {T : Tab} {call : Call} {K : Kd} {l : Loc} {mE : ME} {tst : V -> Mo Bool} {elt : PySem.Expr} {ifs : List PySem.Expr} {accF : List V} {HF : Hp} {px : Pos} {R : Result -> Shared -> Prop} {E' : Value -> Shared -> Prop} {k : Nat}
  (hh : A.handled = none) (hc : CompOk K sc x) (p0 : Pre B fr env K l ρ0 H0 s0) (ca : CellsAre env sc x cells s0) (hC : s0.heap.get? C = none) (hD : s0.heap.get? D = none) (hI : s0.heap.get? I = none)
  (hE : PE prog w B A fr L T call mE) (he : chk mE (uF K sc) elt = true) (hlen : ∀ n i acc H acc' H', jF (xU T call mE x l tst) src n i acc H = .ok acc' H' -> acc.length <= acc'.length) (hF : accF.length <= 100000)
  (hT : ∀ v s ρ H, Pre B fr (vJ sc cells C env) (uF K sc) (put x v l) ρ H s ->
   Does prog w B A fr L zE (forIn ifs true fun c r => if r = true then do let ok <- isTrue c (vJ sc cells C env) (PySem.eval c (vJ sc cells C env)); pure (ForInStep.yield ok) else pure (ForInStep.yield r)) s ρ H (tst v) relT)
  (hR : ∀ s' ρ', Tr B fr zE s0 s' ρ0 (ρ' ++ [(D, D)]) H0 (HF ++ [.lst accF]) -> ρ'.length = HF.length -> Off (ρ' ++ [(D, D)]) (HF ++ [.lst accF]) C -> (∃ m, s'.heap.Ns C m) -> R (.ok .next) s')
  (n : Nat) (s : Shared) (hJ : ∃ ρ H i acc, jF (xU T call mE x l tst) src n i acc H = .ok accF HF /\ Tr B fr zE s0 s ρ0 ρ H0 H /\ Priv B sc x cells C D I ρ H s src i acc) :
  wpAny (model prog w) A (pyNext (.ref I)) (fun r s₁ => match r with
   | none => R (.ok .next) s₁
   | some v => wpAny (model prog w) A (PySem.assign (.Name (nm x) px) (vJ sc cells C env) v) (fun _ s₂ =>
     wpAny (model prog w) A (forIn ifs true fun c r => if r = true then do let ok <- isTrue c (vJ sc cells C env) (PySem.eval c (vJ sc cells C env)); pure (ForInStep.yield ok) else pure (ForInStep.yield r)) (fun ok s₃ =>
      if ok = true then wpAny (model prog w) A (PySem.eval elt (vJ sc cells C env)) (fun u s₄ =>
       wpAny (model prog w) A (PySem.call (.builtin "list.append") [.ref D, u]) (fun _ s₅ => ∃ m, m < n /\ ∃ ρ H i acc, jF (xU T call mE x l tst) src m i acc H = .ok accF HF /\ Tr B fr zE s0 s₅ ρ0 ρ H0 H /\ Priv B sc x cells C D I ρ H s₅ src i acc) E' s₄) E' s₃
      else ∃ m, m < n /\ ∃ ρ H i acc, jF (xU T call mE x l tst) src m i acc H = .ok accF HF /\ Tr B fr zE s0 s₃ ρ0 ρ H0 H /\ Priv B sc x cells C D I ρ H s₃ src i acc) E' s₂) E' s₁) E s:= by
 refine byG fun G kG => ?_
 revert hJ; refine vS fun ρ H i acc hl t P => ?_
 have x0:= p0.2.2
 have fresh : ∀ c, s0.heap.get? c = none -> B.hp.get? c = none:= fun c h => by
  cases q : B.hp.get? c with
  | none => rfl
  | some o => rw [x0.bk c o q] at h; contradiction
 have offC : ∀ {ρ : Adr} {H : Hp} {s : Shared}, St B fr ρ H s.heap -> ¬ zR ρ H C -> (∃ m, s.heap.Ns C m) -> Off ρ H C:= fun st n ⟨m, o, es, ep, ho, hd, _⟩ =>
  pQ (o:= o) st n (fresh C hC) ho (fun q => by revert q; refine qh fun _ vs k q => ?_; rw [hd] at q; contradiction) fun vs q => by rw [hd] at q; contradiction
 have offD : ∀ {ρ : Adr} {H : Hp} {s : Shared} {src : Src} {i : Nat} {acc : List V}, St B fr ρ H s.heap -> Priv B sc x cells C D I ρ H s src i acc -> Off ρ H D:= fun st P => by
  refine jC (fun n vs ep h r => ?_) P.dl
  exact pQ (o:= _) st n (fresh D hD) h (fun q => by have:= q.1; simp at this) fun vs q => by contradiction
 cases n with
 | zero => contradiction
 | succ n =>
 unfold jF at hl
 cases hn : jV src i H with
 | none => rw [hn] at hl; contradiction
 | some ov =>
 rw [hn] at hl
 cases ov with
 | none =>
  injection hl with hl1 hl2
  refine kG ?_
  clear kG
  subst hl1
  subst hl2
  refine fF hh x0 t hI P.it hn fun s1 t1 k1 => ?_
  refine jC (fun n vs ep h r => ?_) P.dl
  refine fl P.cn <| iQ fun nC m oC es epC hoC => oA fun hdC rC => ?_
  have hD1:= k1 _ _ h fun vs q => by contradiction
  have oD:= offD t.st P
  have t2:= fp x0 t1 hD oD hD1 r
  have nC' : ¬ zR (ρ ++ [(D, D)]) (H ++ [.lst acc]) C:= by
   refine xZ fun n' q o' hq ho hm hb => ?_
   have hCD : C ≠ D:= fun e => by rw [e, h] at hoC; obtain rfl:= si hoC; contradiction
   rcases xV hq with hq | ⟨hn, rfl⟩
   ·
    rcases xV ho with ho | ⟨hn, rfl⟩
    ·
     exact nC ⟨n', q, o', hq, ho, hm, hb⟩
    ·
     have:= (List.getElem?_eq_some_iff.mp hq).1; rw [t.st.len] at this; exact gE this hn
   ·
    (revert hb; refine oO (fun hb => ?_) fun hb => ?_) <;> exact hCD hb
  have nsC : ∃ m, s1.heap.Ns C m:= ⟨m, oC, es, epC, k1 _ _ hoC (fun vs q => by rw [hdC] at q; contradiction), hdC, rC⟩
  exact hR s1 ρ t2 t.st.len (offC t2.st nC' nsC) nsC
 | some v =>
 cases hg : xU T call mE x l tst v acc H with
 | fail => simp only [bnd, hg] at hl; contradiction
 | exc _ => simp only [bnd, hg] at hl; contradiction
 | ok acc1 H1 =>
 have hl' : jF (xU T call mE x l tst) src n (i + 1) acc1 H1 = .ok accF HF:= by
  simp only [bnd, hg] at hl; exact hl
 refine kG ?_
 clear kG
 refine lZ x0 t hI P.it hn fun u s1 ru t1 k1 it1 => ?_
 dsimp only
 have P1 : Priv B sc x cells C D I ρ H s1 src (i + 1) acc:= by
  refine ⟨it1, ?_, ?_, fun hq => ?_⟩
  ·
   refine jC (fun n vs ep h r => ?_) P.dl
   exact ⟨n, vs, ep, k1 _ _ h (fun vs q => by contradiction), r⟩
  ·
   refine fl P.cn <| iQ fun nC m oC es epC hoC => oA fun hdC rC => ?_
   exact ⟨nC, m, oC, es, epC, k1 _ _ hoC (fun vs q => by rw [hdC] at q; contradiction), hdC, rC⟩
  ·
   refine bK (fun c v h1 h2 o h3 h4 => ?_) (P.cc hq)
   exact ⟨c, v, h1, h2, o, k1 _ _ h3 (fun vs q => by rw [h4] at q; contradiction), h4⟩
 have store : wpAny (model prog w) A (PySem.assign (.Name (nm x) px) (vJ sc cells C env) u) (fun _ s₂ => Tr B fr zE s0 s₂ ρ0 ρ H0 H /\ Priv B sc x cells C D I ρ H s₂ src (i + 1) acc /\ Pre B fr (vJ sc cells C env) (uF K sc) (put x v l) ρ H s₂) E' s1:= by
  refine wpAny_assign_Name ?_
  refine oAE (fun nC m hns => ?_) P1.cn
  have hns0:= hns
  revert hns; refine jN fun oC es epC hoC hdC rC => ?_
  refine jC (fun nD vs ep hDl rD => ?_) P1.dl
  have hDC : D ≠ C:= fun e => by rw [e, hoC] at hDl; obtain rfl:= si hDl; contradiction
  have kd : ∀ z, (vJ sc cells C env).kindOf z = uF K sc z:= bU p0.2.1.kind p0.1
  refine oO (fun q => ?_) (fun q => ?_) hc.loc
  ·
   have hk : (vJ sc cells C env).kindOf (nm x) = some .local:= by rw [kd, nE, q]; rfl
   refine wpAny_storeName_local hk hns0 (fun h' hn' (hs' : Heap.SameBut C s1.heap h') => ?_) (by show (sc.kind == .class || (sc.kind == .module && _)) = false; rw [hc.kind]; rfl)
   have t2 : Tr B fr zE s0 ⟨h', s1.gens, s1.drawn, s1.toks + 1, s1.os⟩ ρ0 ρ H0 H:= Tr.side x0 t1 (X:= fun b => b = C) (fun b hb => by rw [hb]; exact ⟨hC, offC t1.st nC ⟨m, hns0⟩⟩) (fun b o e nx _ => hs'.extBut b o nx e) (fun b o e hb => ⟨o.slots, hs'.extBut b o (fun z => by
    refine fl (x0.frs b hb) <| oA <| oEA fun o2 f1 f2 _ => ?_
    rw [z, hC] at f1; contradiction) e⟩) rfl rfl rfl
   refine ⟨t2, ⟨it1.same fun b o e hd => hs'.extBut b o (fun z => ?_) e, ⟨nD, vs, ep, hs'.extBut _ _ hDC hDl, rD⟩, ⟨nC, _, hn'⟩, fun z => by rw [q] at z; (injection z; contradiction)⟩,
    eK hc p0 t2 hC nC ca hn' ru (fun _ => if_pos rfl) fun z => by rw [q] at z; (injection z; contradiction)⟩
   rw [z, hoC] at e; obtain rfl:= si e
   rcases hd with ⟨vs, hd⟩ | ⟨_, vs, n, hd⟩
   ·
    rw [hdC] at hd; contradiction
   ·
    rw [hdC] at hd; contradiction
  ·
   refine wQ (fun c v0 h1 nc h2 => ?_) (P1.cc q)
   have h20:= h2
   revert h2; refine oEA fun oc h3 h4 => ?_
   have hk : (vJ sc cells C env).kindOf (nm x) = some .cell:= by rw [kd, nE, q]; rfl
   have hc0 : s0.heap.get? c = none:= by
    rcases ca.any _ _ h1 with ⟨_, g⟩ | ⟨g, p, hp, hp1, hp2⟩
    ·
     exact g
    ·
     refine oEA (fun c' g1 g2 => ?_) (ca.own q)
     obtain rfl:= s2 h1 g1; exact g2
   refine wpAny_storeName_cell (env:= vJ sc cells C env) hc.kind hk h1 h20 fun h' hc' hs' => ?_
   have hcC : C ≠ c:= fun e => by rw [<- e, hoC] at h3; obtain rfl:= si h3; rw [hdC] at h4; contradiction
   have hcD : D ≠ c:= fun e => by rw [<- e, hDl] at h3; obtain rfl:= si h3; contradiction
   have t2 : Tr B fr zE s0 ⟨h', s1.gens, s1.drawn, s1.toks, s1.os⟩ ρ0 ρ H0 H:= Tr.side x0 t1 (X:= fun b => b = c) (fun b hb => by rw [hb]; exact ⟨hc0, pQ (o:= oc) t1.st nc (fresh c hc0) h3 (fun q => by revert q; refine qh fun _ vs k q => ?_; rw [h4] at q; contradiction) fun vs q => by rw [h4] at q; contradiction⟩) (fun b o e nx _ => hs'.extBut b o nx e) (fun b o e hb => ⟨o.slots, hs'.extBut b o (fun z => by
    refine fl (x0.frs b hb) <| oA <| oEA fun o2 f1 f2 _ => ?_
    rw [z, hc0] at f1; contradiction) e⟩) rfl rfl rfl
   have hn' : h'.Ns C m:= ⟨oC, es, epC, hs'.extBut _ _ hcC hoC, hdC, rC⟩
   refine ⟨t2, ⟨it1.same fun b o e hd => hs'.extBut b o (fun z => ?_) e, ⟨nD, vs, ep, hs'.extBut _ _ hcD hDl, rD⟩, ⟨nC, _, hn'⟩, fun z => ⟨c, _, h1, nc, hc'⟩⟩,
    eK hc p0 t2 hC nC ca hn' ru (fun z => by rw [q] at z; (injection z; contradiction)) fun _ => ⟨c, h1, hc', nc⟩⟩
   rw [z, h3] at e; obtain rfl:= si e
   rcases hd with ⟨vs, hd⟩ | ⟨_, vs, n, hd⟩
   ·
    rw [h4] at hd; contradiction
   ·
    rw [h4] at hd; contradiction
 refine wpAny_mono store (fun _ s2 z => ?_) fun _ _ z => z
 revert z; refine oAA fun t2 P2 pre2 => ?_
 have hT2:= hT v s2 ρ H pre2
 unfold Does at hT2
 cases et : tst v H with
 | fail => simp only [xU, bnd, et] at hg; contradiction
 | exc _ => simp only [xU, bnd, et] at hg; contradiction
 | ok b H2 =>
 rw [et] at hT2
 refine wpAny_mono hT2 (fun ok s3 z => ?_) fun _ _ z => z.elim
 revert z; refine oEA fun ρ3 t3 rb => ?_
 cases rb
 have P3:= P2.tr x0 hD pre2.2.2 t3
 have t03:= t2.trans t3
 have pre3:= pre2.tr t3
 cases b with
 | false =>
  simp only [xU, bnd, et, ret] at hg
  injection hg with g1 g2
  subst g1; subst g2
  rw [if_neg (by decide)]
  exact ⟨n, Nat.lt_succ_self n, ρ3, H2, i + 1, acc, hl', t03, P3⟩
 | true =>
  rw [if_pos rfl]
  have hE3:= hE (uF K sc) elt he _ _ s3 ρ3 H2 pre3
  unfold Does at hE3
  cases ee : eval T call mE (put x v l) H2 with
  | fail => simp only [xU, bnd, et, ee] at hg; cases hg
  | exc _ => simp only [xU, bnd, et, ee] at hg; cases hg
  | ok y H4 =>
  rw [ee] at hE3
  simp only [xU, bnd, et, ee, ret] at hg
  injection hg with g1 g2
  subst g1; subst g2
  refine wpAny_mono hE3 (fun uy s4 z => ?_) fun _ _ z => z.elim
  revert z; refine oEA fun ρ4 t4 ry => ?_
  have P4:= P3.tr x0 hD pre3.2.2 t4
  have t04:= t03.trans t4
  have oD:= offD t04.st P4
  refine jC (fun nD vs ep hDl rD => ?_) P4.dl
  have hlen1:= hlen _ _ _ _ _ _ hl'
  refine wpAny_list_append_plain ⟨ep, hDl⟩ (fun h' g1 g2 => ?_) (by have:= rD.length; rw [List.size_toArray]; simp only [sizeLine, List.length_append, List.length_cons, List.length_nil] at hlen1 ⊢; lia)
  have t5 : Tr B fr zE s0 ⟨h', s4.gens, s4.drawn, s4.toks, s4.os⟩ ρ0 ρ4 H0 H4:= Tr.side x0 t04 (X:= fun b => b = D) (fun b hb => by rw [hb]; exact ⟨hD, oD⟩) (fun b o e nx _ => g2.extBut b o nx e) (fun b o e hb => ⟨o.slots, g2.extBut b o (fun z => by
   refine fl (x0.frs b hb) <| oA <| oEA fun o2 f1 f2 _ => ?_
   rw [z, hD] at f1; cases f1) e⟩) rfl rfl rfl
  revert g1; refine oE fun ep' g3 => ?_
  refine ⟨n, Nat.lt_succ_self n, ρ4, H4, i + 1, acc ++ [y], hl', t5, P4.it.same fun b o e hd => g2.extBut b o (fun z => ?_) e, ⟨nD, vs ++ [uy], ep', ?_, rD.append ⟨ry, trivial⟩⟩, ?_, fun hq => ?_⟩
  ·
   rw [z, hDl] at e; cases e
   rcases hd with ⟨vs, hd⟩ | ⟨hd, _⟩
   ·
    cases hd
   ·
    simp at hd
  ·
   rw [g3]; simp
  ·
   refine fl P4.cn <| iQ fun nC m oC es epC hoC => oA fun hdC rC => ?_
   exact ⟨nC, m, oC, es, epC, g2.extBut _ _ (fun e => by rw [e, hDl] at hoC; cases hoC; cases hdC) hoC, hdC, rC⟩
  ·
   refine bK (fun c v0 h1 nc oc h3 h4 => ?_) (P4.cc hq)
   exact ⟨c, v0, h1, nc, oc, g2.extBut _ _ (fun e => by rw [e, hDl] at h3; cases h3; cases h4) h3, h4⟩
theorem sS {T : Tab} {call : Call} {mE : ME} {x : Nat} {l : Loc} {tst : V -> Mo Bool} {src : Src} : ∀ (n i : Nat) (acc : List V) (H : Hp) (acc' : List V) (H' : Hp), jF (xU T call mE x l tst) src n i acc H = .ok acc' H' -> acc.length <= acc'.length /\ acc'.length <= acc.length + n
 | 0, _, _, _, _, _, h => by contradiction
 | n + 1, i, acc, H, acc', H', h => by
  unfold jF at h
  split at h
  ·
   contradiction
  ·
   injection h with h1 _; subst h1; lia
  ·
   rename_i v _
   cases hg : xU T call mE x l tst v acc H with
   | fail => simp only [bnd, hg] at h; contradiction
   | exc _ => simp only [bnd, hg] at h; contradiction
   | ok acc1 H1 =>
    simp only [bnd, hg] at h
    have z:= sS n _ _ _ _ _ h
    have : acc1.length = acc.length \/ acc1.length = acc.length + 1:= by
     cases et : tst v H with
     | fail => simp only [xU, bnd, et] at hg; contradiction
     | exc _ => simp only [xU, bnd, et] at hg; contradiction
     | ok b H2 =>
      cases b with
      | false => simp only [xU, bnd, et, ret] at hg; injection hg with g1 _; subst g1; exact .inl rfl
      | true =>
       cases ee : eval T call mE (put x v l) H2 with
       | fail => simp only [xU, bnd, et, ee] at hg; contradiction
       | exc _ => simp only [xU, bnd, et, ee] at hg; contradiction
       | ok y H4 => simp only [xU, bnd, et, ee, ret] at hg; injection hg with g1 _; subst g1; right; simp
    lia
end
section
variable {prog : Program} {w : World} {M : Model} {B : Base} {A : Around} {fr : List Addr} {L : Addr} {W : Addr -> Prop} {s s' s'' s0 : Shared} {ρ ρ' ρ0 : Adr} {H H' H0 : Hp} {e : Value} {env : Env} {src : Src} {i : Nat} {I C D : Addr} {E : Value -> Shared -> Prop}
 {sc : Scope} {x : Nat} {cells : List (Str × Addr)} {acc : List V} {T : Tab} {call : Call} {K : Kd} {l : Loc} {mE : ME}
theorem kP {tst : V -> Mo Bool} {elt iter : PySem.Expr} {ifs : List PySem.Expr} {accF : List V} {HF : Hp} {px pos : Pos} {R : Value -> Addr -> Result -> Shared -> Prop} {v : V} {u : Value} {cl : List (Str × Addr)}
  (hh : A.handled = none) (hc : CompOk K sc x) (p0 : Pre B fr env K l ρ0 H0 s0) (hv : RV ρ0 v u) (hsrc : jM v H0 = .ok src H0) (hloop : jF (xU T call mE x l tst) src 64 0 [] H0 = .ok accF HF)
  (hcl1 : ∀ z, (∃ p ∈ sc.names, p.2 = .free /\ p.1 = z) -> cl.lookup z = env.cells.lookup z) (hcl2 : ∀ z, ¬ (∃ p ∈ sc.names, p.2 = .free /\ p.1 = z) -> cl.lookup z = none)
  (hE : PE prog w B A fr L T call mE) (he : chk mE (uF K sc) elt = true)
  (hT : ∀ v cells C s ρ H, Pre B fr (vJ sc cells C env) (uF K sc) (put x v l) ρ H s ->
   Does prog w B A fr L zE (forIn ifs true fun c r => if r = true then do let ok <- isTrue c (vJ sc cells C env) (PySem.eval c (vJ sc cells C env)); pure (ForInStep.yield ok) else pure (ForInStep.yield r)) s ρ H (tst v) relT)
  (hR : ∀ D C s' ρ', Tr B fr zE s0 s' ρ0 (ρ' ++ [(D, D)]) H0 (HF ++ [.lst accF]) -> ρ'.length = HF.length -> s0.heap.get? C = none -> Off (ρ' ++ [(D, D)]) (HF ++ [.lst accF]) C -> (∃ m, s'.heap.Ns C m) -> R (.ref D) C (.ok .next) s') :
  wpAny (model prog w) A (pyIter u) (fun it s₂ => wpAny (model prog w) A (newList []) (fun acc s₃ => wpAny (model prog w) A (newFunctionEnv sc env.globals cl [] env.qual none .none (some env)) (fun cenv s₄ =>
   codeAny (model prog w) A (.compStart (.ListComp elt [⟨.Name (nm x) px, iter, ifs, 0⟩] sc pos) 0 it acc { cenv with scope:= relabel sc env }) (R acc cenv.locals) s₄) E s₃) E s₂) E s0:= by
 have x0:= p0.2.2
 refine bW (W:= zE) x0 hv hsrc fun _ s1 t1 k1 hI it => ?_
 refine wpAny_newObj_type (iU ?_)
 dsimp only
 generalize hs2 : s1.heap.push { cls := .type "list", dict := none, data := .seq ([] : List Value).toArray } = h2
 have hsz2 : h2.objs.size = s1.heap.objs.size + 1:= by rw [<- hs2, Heap.size_push]
 have k2 : ∀ b o, s1.heap.get? b = some o -> h2.get? b = some o:= fun b o q => by rw [<- hs2]; exact Heap.get?_push_of_some _ q
 generalize hs3 : pushCells (h2.push { cls := .type "dict", data := .dict #[] }) sc.names = h3
 have k3 : ∀ b o, h2.get? b = some o -> h3.get? b = some o:= fun b o q => by rw [<- hs3]; exact pushCells_keeps _ _ b o (Heap.get?_push_of_some _ q)
 have none_of : ∀ {h : Heap} {b : Addr}, (∀ b o, s0.heap.get? b = some o -> h.get? b = some o) -> h.get? b = none -> s0.heap.get? b = none:= fun {h b} k q => by
  cases z : s0.heap.get? b with
  | none => rfl
  | some o => rw [k b o z] at q; contradiction
 have hD : s0.heap.get? s1.heap.objs.size = none:= none_of k1 (yM _)
 have k02 : ∀ b o, s0.heap.get? b = some o -> h2.get? b = some o:= fun b o q => k2 b o (k1 b o q)
 have hC : s0.heap.get? h2.objs.size = none:= none_of k02 (yM _)
 have k03 : ∀ b o, s0.heap.get? b = some o -> h3.get? b = some o:= fun b o q => k3 b o (k02 b o q)
 have hge : ∀ c, h2.objs.size + 1 <= c -> s0.heap.get? c = none:= fun c hc' => by
  cases z : s0.heap.get? c with
  | none => rfl
  | some o => exact absurd (Nat.lt_of_lt_of_le (Nat.lt_succ_self _) (Nat.le_trans hc' (Nat.le_of_lt (Heap.lt_size (k02 c o z))))) (Nat.lt_irrefl _)
 have hown : (∃ p ∈ sc.names, p.2 = .cell /\ p.1 = nm x) -> ∃ c, (cellsFrom (h2.objs.size + 1) sc.names cl).lookup (nm x) = some c /\ s0.heap.get? c = none /\ h3.IsCell c none:= fun q => by
  refine xG (fun c g1 g2 g3 => ?_) (tI sc.names (h2.push { cls := .type "dict", data := .dict #[] }) cl q)
  rw [Heap.size_push] at g1 g2
  exact ⟨c, g1, hge c g2, by rw [<- hs3]; exact g3⟩
 have ca : CellsAre env sc x (cellsFrom (h2.objs.size + 1) sc.names cl) s0:= by
  refine ⟨fun z c hz => ?_, fun z hz hne => ?_, fun q => ?_⟩
  ·
   by_cases q : z = nm x /\ ∃ p ∈ sc.names, p.2 = .cell /\ p.1 = nm x
   ·
    revert q; refine oA fun t00 q => ?_; obtain rfl:= t00
    refine xG (fun c' g1 g2 _ => ?_) (hown q)
    obtain rfl:= s2 hz g1
    exact .inl ⟨rfl, g2⟩
   ·
    have hno : ∀ p ∈ sc.names, p.2 = .cell -> p.1 ≠ z:= fun p hp h1 h2 => q ⟨h2.symm.trans (hc.cm p hp h1), p, hp, h1, hc.cm p hp h1⟩
    rw [xO _ _ _ hno] at hz
    by_cases f : ∃ p ∈ sc.names, p.2 = .free /\ p.1 = z
    ·
     rw [hcl1 z f] at hz; exact .inr ⟨hz, f⟩
    ·
     rw [hcl2 z f] at hz; contradiction
  ·
   rw [xO _ _ _ (fun p hp h1 h2 => hne (h2.symm.trans (hc.cm p hp h1)))]
   exact hcl1 z ⟨(z, .free), mem_of_lookup hz, rfl, rfl⟩
  ·
   refine xG (fun c g1 g2 _ => ?_) (hown ⟨(nm x, .cell), mem_of_lookup q, rfl, rfl⟩)
   exact ⟨c, g1, g2⟩
 have t3 : Tr B fr zE s0 ⟨h3, s1.gens, s1.drawn, s1.toks, s1.os⟩ ρ0 ρ0 H0 H0:= xT x0 k03 t1.gens t1.drawn t1.os
 have P3 : Priv B sc x (cellsFrom (h2.objs.size + 1) sc.names cl) h2.objs.size s1.heap.objs.size s0.heap.objs.size ρ0 H0 ⟨h3, s1.gens, s1.drawn, s1.toks, s1.os⟩ src 0 []:= by
  refine ⟨it.same fun b o q _ => k3 b o (k2 b o q), ⟨(vR x0 hD).1, [], 0, k3 _ _ ?_, trivial⟩, ⟨(vR x0 hC).1, fun _ => none, ?_⟩, fun q => ?_⟩
  ·
   rw [<- hs2]; exact Heap.get?_push_size _ rfl
  ·
   rw [<- hs3]; exact (Heap.Ns.new h2 (.type "dict")).keeps (pushCells_keeps _ _)
  ·
   refine xG (fun c g1 g2 g3 => ?_) (hown ⟨(nm x, .cell), mem_of_lookup q, rfl, rfl⟩)
   exact ⟨c, none, g1, (vR x0 g2).1, g3⟩
 have hlenF:= sS _ _ _ _ _ _ hloop
 have loop : codeAny (model prog w) A (.compLoop (.ListComp elt [⟨.Name (nm x) px, iter, ifs, 0⟩] sc pos) 0 (.ref s0.heap.objs.size) (.ref s1.heap.objs.size) (vJ sc (cellsFrom (h2.objs.size + 1) sc.names cl) h2.objs.size env)) (R (.ref s1.heap.objs.size) h2.objs.size) ⟨h3, s1.gens, s1.drawn, s1.toks, s1.os⟩ :=
  codeAny_compLoop_tests (fun n s => ∃ ρ H i acc, jF (xU T call mE x l tst) src n i acc H = .ok accF HF /\ Tr B fr zE s0 s ρ0 ρ H0 H /\ Priv B sc x (cellsFrom (h2.objs.size + 1) sc.names cl) h2.objs.size s1.heap.objs.size s0.heap.objs.size ρ H s src i acc)
   (fun n s hJ => bd (hE:= hE) (he:= he) (K:= K) (hc:= hc) (p0:= p0) (ca:= ca) (hC:= hC) (hD:= hD) (hI:= hI) (hh:= hh) (k:= 0) (hlen:= fun n i acc H acc' H' h => (sS n i acc H acc' H' h).1) (hF:= by simp at hlenF; exact yB hlenF rfl) (hT:= fun v s ρ H p => hT v _ _ s ρ H p)
    (hR:= fun s' ρ' t h o m => hR _ _ s' ρ' t h hC o m) n s hJ) 64 ⟨ρ0, H0, 0, [], hloop, t3, P3⟩
 exact codeAny_compStart_list loop (aX P3.it loop)
theorem gQ (v : V) (H : Hp) : jM v H = .fail \/ ∃ src, jM v H = .ok src H:= by
 cases v with
 | ref n =>
  unfold jM
  dsimp only
  split
  ·
   exact .inr ⟨_, rfl⟩
  ·
   exact .inr ⟨_, rfl⟩
  ·
   split
   ·
    exact .inr ⟨_, rfl⟩
   ·
    exact .inl rfl
  ·
   exact .inl rfl
 | _ => exact .inl rfl
theorem gv {n : Nat} {D : Addr} (h : ρ.length = n) : RV (ρ ++ [(D, D)]) (.ref n) (.ref D):= by
 refine ⟨(D, D), ?_, rfl⟩
 rw [List.getElem?_append_right (by lia)]
 simp [h]
noncomputable abbrev tH (T : Tab) (call : Call) (mI mE : ME) (x : Nat) (l : Loc) (tst : V -> Mo Bool) : Mo V:= bnd (eval T call mI l) fun v => bnd (jM v) fun src => bnd (pT (jF (xU T call mE x l tst) src 64 0 [])) fun vs => zX (.lst vs)
theorem eL (mI : ME) (tst : V -> Mo Bool) (H : Hp) : tH T call mI mE x l tst H = .fail \/ (∃ H', eval T call mI l H = .exc H' /\ tH T call mI mE x l tst H = .exc H') \/
  ∃ v H1 src accF HF, eval T call mI l H = .ok v H1 /\ jM v H1 = .ok src H1 /\ jF (xU T call mE x l tst) src 64 0 [] H1 = .ok accF HF /\ tH T call mI mE x l tst H = .ok (.ref HF.length) (HF ++ [.lst accF]):= by
 cases e1 : eval T call mI l H with
 | fail => exact .inl (by simp only [tH, bnd, e1])
 | exc H' => exact .inr (.inl ⟨H', rfl, by simp only [tH, bnd, e1]⟩)
 | ok v H1 =>
  rcases gQ v H1 with e2 | ⟨src, e2⟩
  ·
   exact .inl (by simp only [tH, bnd, e1, e2])
  ·
   cases e3 : jF (xU T call mE x l tst) src 64 0 [] H1 with
   | fail => exact .inl (by simp only [tH, bnd, e1, e2, pT, e3])
   | exc _ => exact .inl (by simp only [tH, bnd, e1, e2, pT, e3])
   | ok accF HF =>
    rcases uL (.lst accF) HF with e4 | ⟨e4, _⟩
    ·
     exact .inl (by simp only [tH, bnd, e1, e2, pT, e3, e4])
    ·
     exact .inr (.inr ⟨v, H1, src, accF, HF, rfl, e2, e3, by simp only [tH, bnd, e1, e2, pT, e3, e4]⟩)
theorem rH {iter : PySem.Expr} (h : qN iter = true) (env : Env) (v : Value) : foldedSetIterable iter env v = pure v:= by
 cases iter <;> first | rfl | contradiction
theorem mX (hc : CompOk K sc x) (p : Pre B fr env K l ρ H s) : ∃ cl, closureFor sc env = pure cl /\ (∀ z, (∃ p ∈ sc.names, p.2 = .free /\ p.1 = z) -> cl.lookup z = env.cells.lookup z) /\ (∀ z, ¬ (∃ p ∈ sc.names, p.2 = .free /\ p.1 = z) -> cl.lookup z = none):= by
 refine cD fun q hq e => ?_
 refine oA (fun h1 h2 => ?_) (hc.fm q hq e)
 refine oEA (fun i hi hz => ?_) (mem_nm h2)
 refine qd (fun c v g1 _ => ?_) (p.2.1.cells i hi (by rw [<- hz, p.1]; exact h1))
 rw [hz, g1]; rfl
theorem kO {mI : ME} {tst : V -> Mo Bool} {elt iter : PySem.Expr} {ifs : List PySem.Expr} {px pos : Pos} (hh : A.handled = none) (hc : CompOk K sc x) (p0 : Pre B fr env K l ρ H s) (hs : qN iter = true)
  (hI : PE prog w B A fr L T call mI) (hi : chk mI K iter = true)
  (hE : PE prog w B A fr L T call mE) (he : chk mE (uF K sc) elt = true)
  (hT : ∀ v cells C s ρ H, Pre B fr (vJ sc cells C env) (uF K sc) (put x v l) ρ H s ->
   Does prog w B A fr L zE (forIn ifs true fun c r => if r = true then do let ok <- isTrue c (vJ sc cells C env) (PySem.eval c (vJ sc cells C env)); pure (ForInStep.yield ok) else pure (ForInStep.yield r)) s ρ H (tst v) relT) :
  Does prog w B A fr L zE (PySem.eval (.ListComp elt [⟨.Name (nm x) px, iter, ifs, 0⟩] sc pos) env) s ρ H (tH T call mI mE x l tst) relV:= by
 refine xG (fun cl c1 c2 c3 => ?_) (mX hc p0)
 have h1:= hI K iter hi env l s ρ H p0
 unfold Does at h1
 have hnames : ∀ y ∈ sc.names, y.2 = .local -> sc.names.lookup y.1 = some .local:= fun y hy e => (hc.lm y hy e).2
 rcases eL (T:= T) (call:= call) (mE:= mE) (x:= x) (l:= l) mI tst H with e | ⟨H', e1, e⟩ | ⟨v, H1, src, accF, HF, e1, e2, e3, e⟩
 ·
  exact Does.fail e
 ·
  refine Does.exc e ?_
  rw [e1] at h1
  rw [eval_ListComp]
  exact wpAny_comprehension_free (use:= none) rfl (rH hs env) c1 hc.kind hnames (wpAny_mono h1 (fun _ _ z => z.elim) fun _ _ z => z)
 ·
  refine Does.ok e ?_
  rw [e1] at h1
  rw [eval_ListComp]
  refine wpAny_comprehension_free (use:= none) rfl (rH hs env) c1 hc.kind hnames (wpAny_mono h1 (fun u s1 z => ?_) fun _ _ z => z.elim)
  revert z; refine oEA fun ρ1 t1 r1 => ?_
  refine kP hh hc (p0.tr t1) r1 e2 e3 c2 c3 hE he hT (R:= fun acc C => compPost (model prog w) A _ none _ acc C) fun D C s' ρ' t2 hlen hC0 off hm => ?_
  revert hm; refine oE fun m hm => ?_
  refine ⟨m, hm, fun h' hs' => ⟨_, Tr.side p0.2.2 (t1.trans t2) (X:= fun b => b = C) (fun b hb => by rw [hb]; exact ⟨t1.dom C hC0, off⟩) (fun b o e nx _ => hs'.extBut b o nx e) (fun b o e hb => ⟨o.slots, hs'.extBut b o (fun z => ?_) e⟩) rfl rfl rfl, gv hlen⟩⟩
  refine fl (t1.st.frs b hb) <| oA <| oEA fun o2 f1 f2 _ => ?_
  rw [z, hC0] at f1; contradiction
theorem nq {mI : ME} (hh : A.handled = none) (hI : PE prog w B A fr L T call mI) (hE : PE prog w B A fr L T call mE) : PE prog w B A fr L T call (.comp mE x mI):= by
 intro K e hc env l s ρ H p
 apply nR (e:= e) hc
 intro elt gs sc pos hc
 apply vN (e:= gs) hc
 intro g hc
 apply oX (e:= g) hc
 intro y px iter ifs hc
 apply wE (e:= ifs) hc
 intro hc
 have h1:= bL (bL (bL (bL (bL (bL hc)))))
 have h2:= bR (bL (bL (bL (bL (bL hc)))))
 have h3:= bR (bL (bL (bL (bL hc))))
 have h4:= bR (bL (bL (bL hc)))
 have h5:= bR (bL (bL hc))
 have h6:= bR (bL hc)
 have h7:= bR hc
 refine oA (fun hx t01 => ?_) (xM h1); obtain rfl:= t01
 exact kO (tst:= fun _ => ret true) hh (rK hx h3 h6) p h4 hI h2 hE h7 fun v cells C s ρ H p' => Does.pur p'.2.2 rfl
theorem eY {mI mC : ME} (hh : A.handled = none) (hI : PE prog w B A fr L T call mI) (hE : PE prog w B A fr L T call mE) (hC : PT prog w B A fr L T call mC) : PE prog w B A fr L T call (.compIf mE x mI mC):= by
 intro K e hc env l s ρ H p
 apply nR (e:= e) hc
 intro elt gs sc pos hc
 apply vN (e:= gs) hc
 intro g hc
 apply oX (e:= g) hc
 intro y px iter ifs hc
 apply vN (e:= ifs) hc
 intro t hc
 have h1:= bL (bL (bL (bL (bL (bL (bL hc))))))
 have h2:= bR (bL (bL (bL (bL (bL (bL hc))))))
 have h3:= bR (bL (bL (bL (bL (bL hc)))))
 have h4:= bR (bL (bL (bL (bL hc))))
 have h5:= bR (bL (bL (bL hc)))
 have h6:= bR (bL (bL hc))
 have h7:= bR (bL hc)
 have h8:= bR hc
 refine oA (fun hx t01 => ?_) (xM h1); obtain rfl:= t01
 refine kO (tst:= fun v => bnd (eval T call mC (put x v l)) truth) hh (rK hx h3 h6) p h4 hI h2 hE h7 fun v cells C s ρ H p' => ?_
 refine (hC (uF K sc) t h8 _ _ s ρ H p').conv fun Q E z => ?_
 rw [List.forIn_cons, if_pos rfl]
 exact wpAny_bind (wpAny_bind (wpAny_mono z (fun b s' q => wpAny_pure (wpAny_pure q)) fun _ _ q => q))
end
noncomputable def lW : PySem.Expr -> Bool
 | .UnaryOp .Not _ _ => false
 | .BoolOp .. => false
 | .IfExp .. => false
 | .Compare .. => false
 | _ => true
theorem iM {e : PySem.Expr} (h : lW e = true) (env : Env) (t : Sem Value) : isTrue e env t = (do let v <- t; standAt e.pos; holding [v] (truthy v)):= by
 cases e with
 | UnaryOp o x q => cases o <;> first | rfl | contradiction
 | BoolOp => contradiction
 | IfExp => contradiction
 | Compare => contradiction
 | _ => rfl
noncomputable def ja : ME -> Bool
 | .not _ => false
 | .and _ => false
 | .or _ => false
 | .ite _ _ _ => false
 | .cmp _ _ => false
 | .nil => false
 | .cons _ _ => false
 | .cc _ _ _ => false
 | _ => true
theorem ag {m : ME} (h : ja m = true) {K : Kd} {e : PySem.Expr} (hc : chk m K e = true) : lW e = true:= by
 cases m <;> first
  | exact ff h
  | (apply wT (e:= e) hc; intros; rfl)
  | (apply yF (e:= e) hc; intros; rfl)
  | (apply iF (e:= e) hc; intros; rfl)
  | (apply nQ (e:= e) hc; intros; rfl)
  | (apply oW (e:= e) hc; intros; rfl)
  | (apply nR (e:= e) hc; intros; rfl)
  | (apply vF (e:= e) hc; intros; rfl)
  | (apply vG (e:= e) hc; intros; rfl)
  | (apply rA (e:= e) hc; intros; rfl)
  | (apply sM (e:= e) hc; intro o x q hc; obtain rfl:= dTr (bL hc); rfl)
section
variable {prog : Program} {w : World} {B : Base} {A : Around} {fr : List Addr} {L : Addr} {T : Tab} {call : Call}
noncomputable abbrev P6 (prog : Program) (w : World) (B : Base) (A : Around) (fr : List Addr) (L : Addr) (T : Tab) (call : Call) (m : ME) : Prop :=
 PE prog w B A fr L T call m /\ PT prog w B A fr L T call m /\ PL prog w B A fr L T call m /\ cw prog w B A fr L T call m /\ PO prog w B A fr L T call m /\ PC prog w B A fr L T call m
theorem yZ {m : ME} (hm : ja m = true) (he : PE prog w B A fr L T call m) : PT prog w B A fr L T call m:= fun _ _ hc _ _ _ _ _ p =>
 dE he hc p (iM (ag hm hc) _ _)
theorem rG {m : ME} (h : ∀ K es, qF m K es = false) : PL prog w B A fr L T call m /\ cw prog w B A fr L T call m /\ PO prog w B A fr L T call m :=
 ⟨fun K es hc => (by rw [h] at hc; contradiction), fun K es hc => (by rw [h] at hc; contradiction), fun K es hc => (by rw [h] at hc; contradiction)⟩
theorem fE {m : ME} (h : ∀ K ops es, lO m K ops es = false) : PC prog w B A fr L T call m:= fun K ops es hc => (by rw [h] at hc; contradiction)
theorem six {m : ME} (he : PE prog w B A fr L T call m) (ht : PT prog w B A fr L T call m) (hl : ∀ K es, qF m K es = false) (hc : ∀ K ops es, lO m K ops es = false) : P6 prog w B A fr L T call m :=
 ⟨he, ht, (rG hl).1, (rG hl).2.1, (rG hl).2.2, fE hc⟩
theorem kW {m : ME} (h : ∀ l, eval T call m l = bad) : PE prog w B A fr L T call m /\ PT prog w B A fr L T call m :=
 ⟨fun _ _ _ _ l _ _ H _ => Does.fail (by rw [h l]; rfl), fun _ _ _ _ l _ _ H _ => Does.fail (by rw [h l]; rfl)⟩
theorem rd (X : qA B) (G : GlobOk T B) (F : mz prog w B A fr L call) (N : aK prog w B A fr L T call) (hh : A.handled = none) (hu : A.units + 64 < cLine) : ∀ m, P6 prog w B A fr L T call m:= by
 intro m
 induction m with
 | nil => exact ⟨(kW fun _ => by rfl).1, (kW fun _ => by rfl).2, L_nil, fun K es hc hne => by (cases es with | nil => exact absurd rfl hne | cons _ _ => exact ff hc), fun K es hc hne => by (cases es with | nil => exact absurd rfl hne | cons _ _ => exact ff hc),
   fun K ops es hc hne => by (cases ops with | nil => exact absurd rfl hne | cons _ _ => exact ff hc)⟩
 | cons a r ia ir => exact ⟨(kW fun _ => by rfl).1, (kW fun _ => by rfl).2, L_cons ia.1 ir.2.2.1, A_cons ia.1 ia.2.1 ir.2.2.2.1, O_cons ia.1 ia.2.1 ir.2.2.2.2.1, fE fun _ _ _ => rfl⟩
 | cc o a r ia ir => exact ⟨(kW fun _ => by rfl).1, (kW fun _ => by rfl).2, (rG fun _ _ => rfl).1, (rG fun _ _ => rfl).2.1, (rG fun _ _ => rfl).2.2, C_cc hu ia.1 ir.2.2.2.2.2⟩
 | none => exact six nj (yZ rfl nj) (fun _ _ => rfl) fun _ _ _ => rfl
 | int i => exact six ve (yZ rfl ve) (fun _ _ => rfl) fun _ _ _ => rfl
 | bool i => exact six nt (yZ rfl nt) (fun _ _ => rfl) fun _ _ _ => rfl
 | loc x => exact six uz (yZ rfl uz) (fun _ _ => rfl) fun _ _ _ => rfl
 | glb x => exact six (vf G) (yZ rfl (vf G)) (fun _ _ => rfl) fun _ _ _ => rfl
 | bin o a b ia ib => exact six (vh ia.1 ib.1) (yZ rfl (vh ia.1 ib.1)) (fun _ _ => rfl) fun _ _ _ => rfl
 | neg a ia => exact six (uw ia.1) (yZ rfl (uw ia.1)) (fun _ _ => rfl) fun _ _ _ => rfl
 | inv a ia => exact six (vd ia.1) (yZ rfl (vd ia.1)) (fun _ _ => rfl) fun _ _ _ => rfl
 | not a ia => exact six (E_not ia.1) (T_not ia.2.1) (fun _ _ => rfl) fun _ _ _ => rfl
 | and a ia => exact six (E_and ia.2.2.2.1) (T_and ia.2.2.2.1) (fun _ _ => rfl) fun _ _ _ => rfl
 | or a ia => exact six (E_or ia.2.2.2.2.1) (T_or ia.2.2.2.2.1) (fun _ _ => rfl) fun _ _ _ => rfl
 | ite c a b ic ia ib => exact six (E_ite ic.2.1 ia.1 ib.1) (T_ite ic.2.1 ia.2.1 ib.2.1) (fun _ _ => rfl) fun _ _ _ => rfl
 | cmp a b ia ib => exact six (E_cmp ia.1 ib.2.2.2.2.2 (kE b)) (T_cmp ia.1 ib.2.2.2.2.2 (kE b)) (fun _ _ => rfl) fun _ _ _ => rfl
 | lst a ia => exact six (ux ia.2.2.1) (yZ rfl (ux ia.2.2.1)) (fun _ _ => rfl) fun _ _ _ => rfl
 | tup a ia => exact six (ut ia.2.2.1) (yZ rfl (ut ia.2.2.1)) (fun _ _ => rfl) fun _ _ _ => rfl
 | comp e x it ie ii => exact six (nq hh ii.1 ie.1) (yZ rfl (nq hh ii.1 ie.1)) (fun _ _ => rfl) fun _ _ _ => rfl
 | compIf e x it c ie ii ic => exact six (eY hh ii.1 ie.1 ic.2.1) (yZ rfl (eY hh ii.1 ie.1 ic.2.1)) (fun _ _ => rfl) fun _ _ _ => rfl
 | call f a ia => exact six (nr G F ia.2.2.1) (yZ rfl (nr G F ia.2.2.1)) (fun _ _ => rfl) fun _ _ _ => rfl
 | new f a ia => exact six (uv G N ia.2.2.1) (yZ rfl (uv G N ia.2.2.1)) (fun _ _ => rfl) fun _ _ _ => rfl
 | blt k a ia => exact six (vg G hh ia.2.2.1) (yZ rfl (vg G hh ia.2.2.1)) (fun _ _ => rfl) fun _ _ _ => rfl
 | meth k o a io ia => exact six (nk io.1 ia.2.2.1) (yZ rfl (nk io.1 ia.2.2.1)) (fun _ _ => rfl) fun _ _ _ => rfl
 | attr o a io => exact six (nu X io.1) (yZ rfl (nu X io.1)) (fun _ _ => rfl) fun _ _ _ => rfl
 | sub a b ia ib => exact six (uu ia.1 ib.1) (yZ rfl (uu ia.1 ib.1)) (fun _ _ => rfl) fun _ _ _ => rfl
 | slice m a b im ia ib => exact six (aL im.1 ia.1 ib.1) (yZ rfl (aL im.1 ia.1 ib.1)) (fun _ _ => rfl) fun _ _ _ => rfl
end
noncomputable def rN (B : Base) (env : Env) : Adr -> Hp -> Fl × Loc -> Flow -> Shared -> Prop:= fun ρ H p f s => EnvI B env p.2 ρ H s /\ match p.1, f with
 | .next, .next => True
 | .cont, .cont => True
 | .ret v, .ret u => RV ρ v u
 | _, _ => False
section
variable {prog : Program} {w : World} {M : Model} {B : Base} {A : Around} {fr : List Addr} {L : Addr} {W : Addr -> Prop} {s s' s'' s0 : Shared} {ρ ρ' ρ0 : Adr} {H H' H0 : Hp} {e : Value} {env : Env} {E : Value -> Shared -> Prop}
 {T : Tab} {call : Call} {K : Kd} {l : Loc}
theorem fk (x : St B fr ρ H s.heap) {X : Addr -> Prop} (hX : ∀ b, X b -> B.hp.get? b = none /\ Off ρ H b) (hW : ∀ b, X b -> W b) (k : ∀ b o, s.heap.get? b = some o -> ¬ X b -> s'.heap.get? b = some o)
  (kx : ∀ b, X b -> ∃ o, s'.heap.get? b = some o /\ ∀ vs, o.data ≠ .fields vs) (g : s'.gens = s.gens) (d : s'.drawn = s.drawn) (os : s'.os = s.os) : Tr B fr W s s' ρ ρ H H:= by
 refine ⟨⟨[], by simp⟩, fun b o e _ hw => ⟨fun _ => k b o e fun z => hw (hW b z), fun _ => ⟨o.slots, k b o e fun z => hw (hW b z)⟩⟩, fun _ h => .inl h, fun b hb => ?_, ?_, g, d, os⟩
 ·
  cases q : s.heap.get? b with
  | none => rfl
  | some o =>
   by_cases z : X b
   ·
    refine oEA (fun o' h _ => ?_) (kx b z)
    exact ns hb h
   ·
    rw [k b o q z] at hb; contradiction
 ·
  refine ⟨fun b o hb => k b o (x.bk b o hb) fun q => ?_, x.len, fun n p o hp ho => ?_, x.apart, x.mb, x.im, fun L hL => ?_, x.ini⟩
  ·
   rw [(hX b q).1] at hb; contradiction
  ·
   refine (x.rep n p o hp ho).keep (o':= o) (fun b ob hb e => k b ob e fun z => ?_) rfl
   rcases hb with rfl | ⟨q, rfl⟩
   ·
    exact (hX _ z).2.2 n p hp rfl
   ·
    exact (hX _ z).2.1 ⟨n, p, o, hp, ho, q, .inr rfl⟩
  ·
   refine fl (x.frs L hL) <| oA <| oEA fun o h1 h2 h3 => ?_
   refine ⟨?_, h3⟩
   by_cases z : X L
   ·
    exact kx L z
   ·
    exact ⟨o, k L o h1 z, h2⟩
theorem tS {k : Option NameKind} (h : wI k = true) : k = some .local \/ k = some .cell:= by
 cases k with
 | none => contradiction
 | some k => cases k <;> first | exact .inl rfl | exact .inr rfl | contradiction
theorem qJ {x : Nat} {v : V} {u : Value} {Q : Unit -> Shared -> Prop} (p : Pre B fr env K l ρ H s) (hx : x < nmS.length) (hk : wI (K (nm x)) = true) (hv : RV ρ v u)
  (h : ∀ s', Tr B fr (Own env) s s' ρ ρ H H -> EnvI B env (put x v l) ρ H s' -> Q () s') : wpAny M A (storeName env (nm x) u) Q E s:= by
 revert p; refine oAA fun hK I st => ?_
 refine oEA (fun m hns hm => ?_) I.ns
 have hns0:= hns
 revert hns; refine jN fun oC es epC hoC hdC rC => ?_
 refine oO (fun hk => ?_) (fun hk => ?_) (tS hk)
 ·
  have hk' : env.kindOf (nm x) = some .local:= (hK _).trans hk
  refine wpAny_storeName_local hk' hns0 (fun h' hn' hs' => ?_) (by rw [I.kind]; rfl)
  have hn0:= hn'
  revert hn'; refine jN fun o2 es2 ep2 q1 q2 q3 => ?_
  have offC : Off ρ H env.locals:= pQ (o:= oC) st I.nf I.nb hoC (fun q => by revert q; refine qh fun _ vs k q => ?_; rw [hdC] at q; contradiction) fun vs q => by rw [hdC] at q; contradiction
  refine h _ (fk st (X:= fun b => b = env.locals) (fun b hb => by rw [hb]; exact ⟨I.nb, offC⟩) (fun b hb => .inl hb) (fun b o e nx => hs'.extBut b o nx e) (fun b hb => by rw [hb]; exact ⟨o2, q1, fun vs q => by rw [q2] at q; contradiction⟩) rfl rfl rfl) ?_
  refine ⟨I.kind, I.glob, I.bui, ⟨_, hn0, fun i hi hk2 => ?_⟩, I.nf, I.nb, fun i hi hk2 => ?_, I.inj⟩
  ·
   rw [vC]
   by_cases e : i = x
   ·
    subst e; simp only [if_true]; exact hv
   ·
    rw [if_neg e, if_neg fun q => e (tO hi hx q)]; exact hm i hi hk2
  ·
   refine fl (I.cells i hi hk2) <| yN fun c v' g1 => oEA fun oc g2 g2' g3 g4 g5 => ?_
   have hc : c ≠ env.locals:= fun e => by rw [e, hoC] at g2; obtain rfl:= si g2; rw [hdC] at g2'; contradiction
   refine ⟨c, v', g1, ⟨oc, hs'.extBut _ _ hc g2, g2'⟩, ?_, g4, g5⟩
   have e : i ≠ x:= fun e => by
    subst e
    rw [hk'] at hk2
    (revert hk2; refine oO (fun q => ?_) fun q => ?_) <;> ((injection q; contradiction))
   rw [vC, if_neg e]; exact g3
 ·
  have hk' : env.kindOf (nm x) = some .cell:= (hK _).trans hk
  refine yN (fun c v0 g1 g2 g3 g4 g5 => ?_) (I.cells x hx (.inl hk'))
  have g20:= g2
  revert g2; refine oEA fun oc g2 g2' => ?_
  refine wpAny_storeName_cell I.kind hk' g1 g20 fun h' hc' hs' => ?_
  have hc0:= hc'
  revert hc'; refine oEA fun o2 q1 q2 => ?_
  have offc : Off ρ H c:= pQ (o:= oc) st g4 g5 g2 (fun q => by revert q; refine qh fun _ vs k q => ?_; rw [g2'] at q; contradiction) fun vs q => by rw [g2'] at q; contradiction
  have hcl : env.locals ≠ c:= fun e => by rw [<- e, hoC] at g2; obtain rfl:= si g2; rw [hdC] at g2'; contradiction
  refine h _ (fk st (X:= fun b => b = c) (fun b hb => by rw [hb]; exact ⟨g5, offc⟩) (fun b hb => by rw [hb]; exact .inr ⟨x, hx, hk', g1⟩) (fun b o e nx => hs'.extBut b o nx e) (fun b hb => by rw [hb]; exact ⟨o2, q1, fun vs q => by rw [q2] at q; contradiction⟩) rfl rfl rfl) ?_
  refine ⟨I.kind, I.glob, I.bui, ⟨m, ⟨oC, es, epC, hs'.extBut _ _ hcl hoC, hdC, rC⟩, fun i hi hk2 => ?_⟩, I.nf, I.nb, fun i hi hk2 => ?_, I.inj⟩
  ·
   have e : i ≠ x:= fun e => by subst e; rw [hk'] at hk2; (injection hk2; contradiction)
   rw [vC, if_neg e]; exact hm i hi hk2
  ·
   by_cases e : i = x
   ·
    subst e
    refine ⟨c, some u, g1, hc0, ?_, g4, g5⟩
    rw [vC, if_pos rfl]; exact hv
   ·
    refine fl (I.cells i hi hk2) <| yN fun c' v' f1 => oEA fun oc' f2 f2' f3 f4 f5 => ?_
    have hcc : c' ≠ c:= fun z => e (I.inj i x c hi hx (by rw [<- z]; exact f1) g1)
    refine ⟨c', v', f1, ⟨oc', hs'.extBut _ _ hcc f2, f2'⟩, ?_, f4, f5⟩
    rw [vC, if_neg e]; exact f3
section props
variable (prog w B A fr L T call)
noncomputable def PS (m : MS) : Prop:= ∀ K st, chkS m K st = true -> ∀ env l s ρ H, Pre B fr env K l ρ H s -> FrI A fr env L -> Does prog w B A fr L (Own env) (PySem.exec st env) s ρ H (exec T call m l) (rN B env)
noncomputable def PSs (m : MS) : Prop:= ∀ K ss, rW m K ss = true -> ∀ env l s ρ H, Pre B fr env K l ρ H s -> FrI A fr env L -> Does prog w B A fr L (Own env) (PySem.execs ss env) s ρ H (exec T call m l) (rN B env)
end props
theorem Does.own {α β : Type} {t : Sem β} {m : Mo α} {rel : Adr -> Hp -> α -> β -> Shared -> Prop} (h : Does prog w B A fr L zE t s ρ H m rel) : Does prog w B A fr L (Own env) t s ρ H m rel :=
 h.weaken fun _ _ z => z.elim
theorem mO {v : PySem.Expr} (h : wJ v = false) (t : Option PySem.Expr) (n : Nat) (env : Env) : swapsWith v t n env = pure false:= by
 cases v <;> first | rfl | contradiction
theorem Does.ownP {α β : Type} {t : Sem β} {m : Mo α} {rel : Adr -> Hp -> α -> β -> Shared -> Prop} (h : Does prog w B A fr L zE t s ρ H m rel) (p : Pre B fr env K l ρ H s) :
  Does prog w B A fr L (Own env) t s ρ H m (fun ρ' H' a b s' => rel ρ' H' a b s' /\ Pre B fr env K l ρ' H' s') :=
 (h.mono (rel':= fun ρ' H' a b s' => rel ρ' H' a b s' /\ Pre B fr env K l ρ' H' s') fun _ _ _ _ _ t r => ⟨r, p.tr t⟩).weaken fun _ _ z => z.elim
noncomputable def relA (B : Base) (env : Env) : Adr -> Hp -> Loc -> Unit -> Shared -> Prop:= fun ρ H l _ s => EnvI B env l ρ H s
theorem tZ {t v : PySem.Expr} {pos : Pos} {mE : ME} {m2 : V -> Mo Loc} (hE : PE prog w B A fr L T call mE) (hc : chk mE K v = true) (hn : wJ v = false) (hs : swappedStores [t] v env = pure none) (ht : nA t = true)
  (p : Pre B fr env K l ρ H s) (k : ∀ a u ρ' H' s', Pre B fr env K l ρ' H' s' -> RV ρ' a u -> Does prog w B A fr L (Own env) (PySem.assign t env u) s' ρ' H' (m2 a) (relA B env)) :
  Does prog w B A fr L (Own env) (PySem.exec (.Assign [t] v pos) env) s ρ H (bnd (eval T call mE l) fun a => bnd (m2 a) fun l' => ret (.next, l')) (rN B env):= by
 refine Does.seq' (g:= fun u => (fun _ => Flow.next) <$> PySem.assign t env u) ((hE K v hc env l s ρ H p).ownP p) (fun Q E z => ?_) fun a u ρ' H' s' _ r =>
  Does.map (k a u ρ' H' s' r.2 r.1) fun l' _ ρ2 H2 s2 _ r2 => ⟨r2, trivial⟩
 refine wpAny_Assign_stores (wpAny_mono z (fun u s1 q => ?_) fun _ _ q => q) (mO hn _ _ _) hs
 have : (assignEach [t] env).map (·.2) = [PySem.assign t env]:= by cases t <;> first | rfl | contradiction
 rw [this]
 exact uO q
theorem tE {t v : PySem.Expr} (h : dX t = false \/ dX v = false) (hl : (match t with | .List _ _ => false | _ => true) = true) (env : Env) : swappedStores [t] v env = pure none:= by
 cases t <;> first | rfl | (contradiction; done) | skip
 refine oO (fun h => ?_) (fun h => ?_) h
 ·
  contradiction
 ·
  cases v <;> first | rfl | contradiction
theorem lI {x : Nat} {mE : ME} (hE : PE prog w B A fr L T call mE) {y : Str} {q pos : Pos} {v : PySem.Expr} (h1 : rO x y = true) (h2 : wI (K y) = true) (h3 : chk mE K v = true) (h4 : wJ v = false) (p : Pre B fr env K l ρ H s) :
  Does prog w B A fr L (Own env) (PySem.exec (.Assign [.Name y q] v pos) env) s ρ H (exec T call (.assign x mE) l) (rN B env):= by
 refine oA (fun hx t01 => ?_) (xM h1); obtain rfl:= t01
 refine tZ (m2:= fun v => ret (put x v l)) hE h3 h4 (tE (.inl rfl) rfl env) rfl p fun a u ρ' H' s' p' r => ?_
 exact Does.ok rfl (wpAny_assign_Name (qJ p' hx h2 r fun s'' t I => ⟨ρ', t, I⟩))
theorem Does.rel' {α β : Type} {t : Sem β} {m : Mo α} {rel : Adr -> Hp -> α -> β -> Shared -> Prop} (h : Does prog w B A fr L W t s ρ H m rel) {t' : Sem Unit} (c : ∀ (Q : Unit -> Shared -> Prop) (E : Value -> Shared -> Prop), wpAny (model prog w) A t (fun _ s' => Q () s') E s -> wpAny (model prog w) A t' Q E s)
  {l : Loc} (hr : ∀ a b ρ' H' s', Tr B fr W s s' ρ ρ' H H' -> rel ρ' H' a b s' -> EnvI B env l ρ' H' s') : Does prog w B A fr L W t' s ρ H (bnd m fun _ => ret l) (relA B env):= by
 unfold Does at h ⊢
 unfold bnd ret
 cases e : m H with
 | fail => trivial
 | exc H' => rw [e] at h; exact c _ _ (wpAny_mono h (fun _ _ z => z) fun _ _ z => z)
 | ok a H' => rw [e] at h; exact c _ _ (wpAny_mono h (fun b s' => oEA fun ρ' x y => ⟨ρ', x, hr _ _ _ _ _ x y⟩) fun _ _ z => z)
theorem cu (X : qA B) {o e : ME} {a : Nat} (ho : PE prog w B A fr L T call o) (he : PE prog w B A fr L T call e) : PS prog w B A fr L T call (.setattr o a e):= by
 intro K st hc env l s ρ H p F
 apply uB (e:= st) hc
 intro ts v pos hc
 apply vN (e:= ts) hc
 intro t hc
 apply vG (e:= t) hc
 intro x g ap hc
 have h1:= bL (bL (bL (bL hc)))
 have h2:= bR (bL (bL (bL hc)))
 have h3:= bR (bL (bL hc))
 have h4:= bR (bL hc)
 have h5:= bN (bR hc)
 refine oA (fun hx t01 => ?_) (xM h1); obtain rfl:= t01
 have hf : a ∈ flds:= by simpa using h2
 have e0 : exec T call (.setattr o a e) l = bnd (eval T call e l) fun v => bnd (bnd (eval T call o l) fun w => bnd (setattr w a v) fun _ => ret l) fun l' => ret (.next, l'):= by
  refine Eq.trans (b:= bnd (eval T call e l) fun v => bnd (eval T call o l) fun w => bnd (setattr w a v) fun _ => ret (.next, l)) rfl ?_
  simp only [yC, hV]
 rw [e0]
 refine tZ he h4 h5 (tE (.inl rfl) rfl env) rfl p fun b u ρ1 H1 s1 p1 r1 => ?_
 show Does prog w B A fr L (Own env) (do
  let ov <- holding [u] (PySem.eval x env)
  standAt ap.atName
  holding [u, ov] (setAttr ov (nm a) u)
  release [u, ov] []) s1 ρ1 H1 _ _
 refine Does.bind (Does.hold ((ho K x h3 env l s1 ρ1 H1 p1).ownP p1)) fun c ov ρ2 H2 s2 t2 r2 => Does.at ?_
 refine Does.rel' (((nW X r2.2.2.2 r2.1 (r1.mono t2.ext) hf).ownP r2.2)) (fun Q E z => wpAny_bind (wpAny_holding (wpAny_mono z (fun _ s3 q => wpAny_release q) fun _ _ q => q))) fun _ _ ρ3 H3 s3 _ r3 => r3.2.2.1
theorem mv {o i e : ME} (ho : PE prog w B A fr L T call o) (hi : PE prog w B A fr L T call i) (he : PE prog w B A fr L T call e) : PS prog w B A fr L T call (.setsub o i e):= by
 intro K st hc env l s ρ H p F
 apply uB (e:= st) hc
 intro ts v pos hc
 apply vN (e:= ts) hc
 intro t hc
 apply rA (e:= t) hc
 intro x y ap hc
 have h1:= bL (bL (bL (bL hc)))
 have h2:= bR (bL (bL (bL hc)))
 have h3:= bR (bL (bL hc))
 have h4:= bR (bL hc)
 have h5:= bN (bR hc)
 have e0 : exec T call (.setsub o i e) l = bnd (eval T call e l) fun v => bnd (bnd (eval T call o l) fun w => bnd (eval T call i l) fun k => bnd (yR w k v) fun _ => ret l) fun l' => ret (.next, l'):= by
  refine Eq.trans (b:= bnd (eval T call e l) fun v => bnd (eval T call o l) fun w => bnd (eval T call i l) fun k => bnd (yR w k v) fun _ => ret (.next, l)) rfl ?_
  simp only [yC, hV]
 rw [e0]
 refine tZ he h4 h5 (tE (.inl rfl) rfl env) rfl p fun b u ρ1 H1 s1 p1 r1 => ?_
 have ea : ∃ rl : Value -> Value -> List Value, PySem.assign (.Subscript x y ap) env u = (do
  let ov <- holding [u] (PySem.eval x env)
  let iv <- holding [u, ov] (PySem.eval y env)
  standAt ap
  holding [u, ov, iv] (setItem ov iv u)
  release (rl ov iv) []):= ⟨_, rfl⟩
 revert ea; refine oE fun rl ea => ?_
 rw [ea]
 refine Does.bind (Does.hold ((ho K x h1 env l s1 ρ1 H1 p1).ownP p1)) fun c ov ρ2 H2 s2 t2 r2 => ?_
 refine Does.bind (Does.hold ((hi K y h2 env l s2 ρ2 H2 r2.2).ownP r2.2)) fun c' iv ρ3 H3 s3 t3 r3 => Does.at ?_
 refine Does.rel' (((nV r3.2.2.2 (r2.1.mono t3.ext) r3.1 ((r1.mono t2.ext).mono t3.ext)).ownP r3.2)) (fun Q E z => wpAny_bind (wpAny_holding (wpAny_mono z (fun _ s3 q => wpAny_release q) fun _ _ q => q))) fun _ _ ρ3 H3 s3 _ r3 => r3.2.2.1
end
section
variable {prog : Program} {w : World} {M : Model} {B : Base} {A : Around} {fr : List Addr} {L : Addr} {W : Addr -> Prop} {s s' s'' s0 : Shared} {ρ ρ' ρ0 : Adr} {H H' H0 : Hp} {e : Value} {env : Env} {E : Value -> Shared -> Prop}
 {T : Tab} {call : Call} {K : Kd} {l : Loc}
theorem jx {x : Nat} {v : V} (hx : x < nmS.length) (hk : wI (env.kindOf (nm x)) = true) (I : EnvI B env l ρ H s) (e : get x l = some v) :
  ∃ u, RV ρ v u /\ ∀ (Q : Value -> Shared -> Prop) (E : Value -> Shared -> Prop), Q u s -> wpAny (model prog w) A (loadName env (nm x)) Q E s:= by
 refine oO (fun k => ?_) (fun k => ?_) (tS hk)
 ·
  refine oEA (fun m hn hm => ?_) I.ns
  have z:= hm x hx k
  rw [e] at z
  refine oEA (fun u h1 h2 => ?_) (vV z)
  exact ⟨u, h2, fun Q E h => wpAny_loadName_local I.kind k hn h1 h⟩
 ·
  refine yN (fun c v' h1 h2 h3 _ _ => ?_) (I.cells x hx (.inl k))
  rw [e] at h3
  refine oEA (fun u t01 h4 => ?_) (vV h3); obtain rfl:= t01
  exact ⟨u, h4, fun Q E h => wpAny_loadName_cell I.kind k h1 h2 h⟩
noncomputable def lH (op : BOp) (v w : V) : Mo V:= match v, w with
 | .int a, .int b => bnd (opt (aop op a b)) fun c => ret (.int c)
 | _, _ => bad
theorem lG {α : Type} (op : BOp) (v w : V) (f : V -> Mo α) : bnd (lH op v w) f = match v, w with
 | .int a, .int b => bnd (opt (aop op a b)) fun c => f (.int c)
 | _, _ => bad:= by
 cases v <;> cases w <;> first | rfl | skip
 simp only [lH, yC, hV]
theorem hZ {op : BOp} {v u : V} {a b : Value} (x : St B fr ρ H s.heap) (hv : RV ρ v a) (hu : RV ρ u b) : Does prog w B A fr L W (operate [a, b] (inplaceOp (qC op) a b)) s ρ H (lH op v u) relV:= by
 cases v with
 | int i =>
  cases u with
  | int j =>
   revert hv; refine oE fun t1 t01 => ?_; obtain rfl:= t01
   revert hu; refine oE fun t2 t01 => ?_; obtain rfl:= t01
   cases e : aop op i j with
   | none => exact Does.fail (by simp only [lH, e, opt]; rfl)
   | some c =>
    refine Does.ok (a:= .int c) (H':= H) (by simp only [lH, e, opt]; rfl) ?_
    exact wpAny_operate' (qw e ⟨ρ, jJ x rfl rfl rfl rfl, ⟨_, rfl⟩⟩)
  | _ => exact Does.fail rfl
 | _ => cases u <;> exact Does.fail rfl
theorem nM {x : Str} {v : Value} {Q : Unit -> Shared -> Prop} (h : wpAny M A (storeName env x v) Q E s) : wpAny M A (bindName env x v) Q E s:= by
 unfold bindName
 exact wpAny_bind (wpAny_holding (wpAny_point (wpAny_bind (wpAny_mono h (fun _ _ q => wpAny_point q) fun _ _ q => q))))
theorem mx {x : Nat} {op : BOp} {e : ME} (he : PE prog w B A fr L T call e) : PS prog w B A fr L T call (.augloc x op e):= by
 intro K st hc env l s ρ H p F
 apply iG (e:= st) hc
 intro t o v pos hc
 apply yF (e:= t) hc
 intro y np hc
 have h1:= bL (bL (bL hc))
 have h2:= bR (bL (bL hc))
 have h3:= bR (bL hc)
 have h4:= bR hc
 refine oA (fun hx t01 => ?_) (xM h1); obtain rfl:= t01
 cases oZ h3
 have e0 : exec T call (.augloc x op e) l = bnd (opt (get x l)) fun v => bnd (eval T call e l) fun w => bnd (lH op v w) fun c => ret (.next, put x c l):= by
  refine Eq.trans (b:= bnd (opt (get x l)) fun v => bnd (eval T call e l) fun w => match v, w with | .int a', .int b' => bnd (opt (aop op a' b')) fun c => ret (.next, put x (.int c) l) | _, _ => bad) rfl ?_
  refine congrArg _ (funext fun v => congrArg _ (funext fun w => ?_))
  rw [lG]
  all_goals (cases v <;> cases w <;> rfl)
 rw [e0]
 cases eg : get x l with
 | none => exact Does.fail rfl
 | some v0 =>
 refine oEA (fun u r0 hl => ?_) (jx (prog:= prog) (w:= w) (A:= A) hx (by rw [p.1]; exact h2) p.2.1 eg)
 show Does prog w B A fr L (Own env) _ s ρ H (bnd (eval T call e l) fun w => bnd (lH op v0 w) fun c => ret (Fl.next, put x c l)) (rN B env)
 rw [exec_AugAssign_Name]
 refine Does.conv (t:= do
  let v' <- holding [u] (PySem.eval v env)
  standAt pos
  let new <- operate [u, v'] (inplaceOp (qC op) u v')
  standAt np
  bindName env (nm x) new
  pure Flow.next) ?_ fun Q E z => wpAny_bind (wpAny_standAt (wpAny_bind (hl _ _ z)))
 refine Does.bind (Does.hold ((he K v h4 env l s ρ H p).ownP p)) fun b ub ρ1 H1 s1 t1 r1 => Does.at ?_
 refine Does.bind ((hZ r1.2.2.2 (r0.mono t1.ext) r1.1).ownP r1.2) fun c uc ρ2 H2 s2 t2 r2 => Does.at ?_
 exact Does.ok rfl (wpAny_bind (nM (qJ r2.2 hx h2 r2.1 fun s3 t3 I3 => wpAny_pure ⟨ρ2, t3, I3, trivial⟩)))
theorem cv (X : qA B) {o e : ME} {a : Nat} {op : BOp} (ho : PE prog w B A fr L T call o) (he : PE prog w B A fr L T call e) : PS prog w B A fr L T call (.augattr o a op e):= by
 intro K st hc env l s ρ H p F
 apply iG (e:= st) hc
 intro t o' v pos hc
 apply vG (e:= t) hc
 intro x g ap hc
 have h1:= bL (bL (bL (bL hc)))
 have h2:= bR (bL (bL (bL hc)))
 have h3:= bR (bL (bL hc))
 have h4:= bR (bL hc)
 have h5:= bR hc
 refine oA (fun hx t01 => ?_) (xM h1); obtain rfl:= t01
 cases oZ h3
 have hf : a ∈ flds:= by simpa using h2
 have e0 : exec T call (.augattr o a op e) l = bnd (eval T call o l) fun u => bnd (bnd (jA u a) fun v => bnd (eval T call e l) fun w => lH op v w) fun c => bnd (setattr u a c) fun _ => ret (.next, l):= by
  refine Eq.trans (b:= bnd (eval T call o l) fun u => bnd (jA u a) fun v => bnd (eval T call e l) fun w => match v, w with | .int a', .int b' => bnd (opt (aop op a' b')) fun c => bnd (setattr u a (.int c)) fun _ => ret (.next, l) | _, _ => bad) rfl ?_
  simp only [yC]
  refine congrArg _ (funext fun u => congrArg _ (funext fun v => congrArg _ (funext fun w => ?_)))
  rw [lG]
  all_goals (cases v <;> cases w <;> rfl)
 rw [e0]
 show Does prog w B A fr L (Own env) (do
  standAt pos
  let ov <- PySem.eval x env
  let new <- holding [ov] do
   standAt ap.atName
   let old <- getAttr ov (nm a) true
   let v <- holding [old] (PySem.eval v env)
   standAt pos
   operate [old, v] (inplaceOp (qC op) old v)
  standAt ap.atName
  holding [new, ov] (setAttr ov (nm a) new)
  release [new, ov] []
  pure Flow.next) s ρ H _ _
 refine Does.at (Does.bind ((ho K x h4 env l s ρ H p).ownP p) fun b ov ρ1 H1 s1 t1 r1 => ?_)
 have inner : Does prog w B A fr L (Own env) (holding [ov] do
   standAt ap.atName
   let old <- getAttr ov (nm a) true
   let v <- holding [old] (PySem.eval v env)
   standAt pos
   operate [old, v] (inplaceOp (qC op) old v)) s1 ρ1 H1 (bnd (jA b a) fun v => bnd (eval T call e l) fun w => lH op v w) (fun ρ' H' a b s' => relV ρ' H' a b s' /\ Pre B fr env K l ρ' H' s'):= by
  refine Does.hold (Does.at ?_)
  refine Does.bind ((mU X r1.2.2.2 r1.1 hf).ownP r1.2) fun c old ρ2 H2 s2 t2 r2 => ?_
  refine Does.bind (Does.hold ((he K v h5 env l s2 ρ2 H2 r2.2).ownP r2.2)) fun d vv ρ3 H3 s3 t3 r3 => Does.at ?_
  exact (hZ r3.2.2.2 (r2.1.mono t3.ext) r3.1).ownP r3.2
 refine Does.bind inner fun c new ρ2 H2 s2 t2 r2 => Does.at ?_
 refine Does.bind (Does.hold ((nW X r2.2.2.2 (r1.1.mono t2.ext) r2.1 hf).ownP r2.2)) fun _ _ ρ3 H3 s3 t3 r3 => ?_
 exact Does.ok rfl (wpAny_bind (wpAny_release (wpAny_pure ⟨ρ3, Tr.refl r3.2.2.2, r3.2.2.1, trivial⟩)))
theorem mw {o i e : ME} {op : BOp} (ho : PE prog w B A fr L T call o) (hi : PE prog w B A fr L T call i) (he : PE prog w B A fr L T call e) : PS prog w B A fr L T call (.augsub o i op e):= by
 intro K st hc env l s ρ H p F
 apply iG (e:= st) hc
 intro t o' v pos hc
 apply rA (e:= t) hc
 intro x y ap hc
 have h3:= bL (bL (bL (bL hc)))
 have h1:= bR (bL (bL (bL hc)))
 have h2:= bR (bL (bL hc))
 have hn:= bR (bL hc)
 have h5:= bR hc
 cases oZ h3
 have e0 : exec T call (.augsub o i op e) l = bnd (eval T call o l) fun u => bnd (eval T call i l) fun k => bnd (bnd (yO u k) fun v => bnd (eval T call e l) fun w => lH op v w) fun c => bnd (yR u k c) fun _ => ret (.next, l):= by
  refine Eq.trans (b:= bnd (eval T call o l) fun u => bnd (eval T call i l) fun k => bnd (yO u k) fun v => bnd (eval T call e l) fun w => match v, w with | .int a', .int b' => bnd (opt (aop op a' b')) fun c => bnd (yR u k (.int c)) fun _ => ret (.next, l) | _, _ => bad) rfl ?_
  simp only [yC]
  refine congrArg _ (funext fun u => congrArg _ (funext fun k => congrArg _ (funext fun v => congrArg _ (funext fun w => ?_))))
  rw [lG]
  all_goals (cases v <;> cases w <;> rfl)
 rw [e0]
 show Does prog w B A fr L (Own env) (do
  standAt pos
  let ov <- PySem.eval x env
  let iv <- holding [ov] (PySem.eval y env)
  let new <- holding [ov, iv] do
   standAt ap
   let old <- getItem ov iv
   let v <- holding [old] (PySem.eval v env)
   standAt pos
   operate [old, v] (inplaceOp (qC op) old v)
  standAt ap
  augStore y ov iv new) s ρ H _ _
 refine Does.at (Does.bind ((ho K x h1 env l s ρ H p).ownP p) fun b ov ρ1 H1 s1 t1 r1 => ?_)
 refine Does.bind (Does.hold ((hi K y h2 env l s1 ρ1 H1 r1.2).ownP r1.2)) fun b' iv ρ2 H2 s2 t2 r2 => ?_
 have inner : Does prog w B A fr L (Own env) (holding [ov, iv] do
   standAt ap
   let old <- getItem ov iv
   let v <- holding [old] (PySem.eval v env)
   standAt pos
   operate [old, v] (inplaceOp (qC op) old v)) s2 ρ2 H2 (bnd (yO b b') fun v => bnd (eval T call e l) fun w => lH op v w) (fun ρ' H' a b s' => relV ρ' H' a b s' /\ Pre B fr env K l ρ' H' s'):= by
  refine Does.hold (Does.at ?_)
  refine Does.bind ((mT r2.2.2.2 (r1.1.mono t2.ext) r2.1).ownP r2.2) fun c old ρ3 H3 s3 t3 r3 => ?_
  refine Does.bind (Does.hold ((he K v h5 env l s3 ρ3 H3 r3.2).ownP r3.2)) fun d vv ρ4 H4 s4 t4 r4 => Does.at ?_
  exact (hZ r4.2.2.2 (r3.1.mono t4.ext) r4.1).ownP r4.2
 refine Does.bind inner fun c new ρ3 H3 s3 t3 r3 => Does.at ?_
 have es : augStore y ov iv new = (do holding [new, ov, iv] (setItem ov iv new); release [new, ov, iv] []; pure Flow.next):= by
  cases y <;> first | rfl | contradiction
 rw [es]
 refine Does.bind (Does.hold ((nV r3.2.2.2 ((r1.1.mono t2.ext).mono t3.ext) (r2.1.mono t3.ext) r3.1).ownP r3.2)) fun _ _ ρ4 H4 s4 t4 r4 => ?_
 exact Does.ok rfl (wpAny_bind (wpAny_release (wpAny_pure ⟨ρ4, Tr.refl r4.2.2.2, r4.2.2.1, trivial⟩)))
theorem kg {m : ME} (h : uk m = true) : m = .nil:= by cases m <;> first | rfl | exact ff h
theorem S_expr {e : ME} (he : PE prog w B A fr L T call e) : PS prog w B A fr L T call (.expr e):= by
 intro K st hc env l s ρ H p F
 have main : ∀ (v : PySem.Expr) (pos : Pos), chk e K v = true -> wJ v = false -> Does prog w B A fr L (Own env) (PySem.exec (.Expr v pos) env) s ρ H (exec T call (.expr e) l) (rN B env):= by
  intro v pos h1 h2
  show Does prog w B A fr L (Own env) _ s ρ H (bnd (eval T call e l) fun _ => ret (Fl.next, l)) (rN B env)
  have z:= Does.map (f:= fun _ : V => (Fl.next, l)) (g:= fun _ : Value => Flow.next) (rel':= rN B env) ((he K v h1 env l s ρ H p).ownP p) fun a u ρ1 H1 s1 t1 r1 => ⟨r1.2.2.1, trivial⟩
  refine z.conv fun Q E q => wpAny_Expr_any (uO q) ?_ (mO h2 _ _ _)
  unfold interactive; rw [p.2.1.kind]; rfl
 refine oO (fun hn => ?_) (fun hc => ?_) ((Bool.or_eq_true _ _).mp hc)
 ·
  cases kg hn
  exact Does.fail rfl
 ·
  apply nS (e:= st) hc
  intro v pos hc
  exact main v pos (bL hc) (bN (bR hc))
end
section
variable {prog : Program} {w : World} {M : Model} {B : Base} {A : Around} {fr : List Addr} {L : Addr} {W : Addr -> Prop} {s s' s'' s0 : Shared} {ρ ρ' ρ0 : Adr} {H H' H0 : Hp} {e : Value} {env : Env} {E : Value -> Shared -> Prop}
 {T : Tab} {call : Call} {K : Kd} {l : Loc}
theorem Ss_nil : PSs prog w B A fr L T call .nil:= by
 intro K ss hc env l s ρ H p F
 cases ss with
 | nil => exact Does.ok rfl (wpAny_execs_nil ⟨ρ, Tr.refl p.2.2, p.2.1, trivial⟩)
 | cons _ _ => exact ff hc
theorem Ss_seq {a b : MS} (ha : PS prog w B A fr L T call a) (hb : PSs prog w B A fr L T call b) : PSs prog w B A fr L T call (.seq a b):= by
 intro K ss hc env l s ρ H p F
 cases ss with
 | nil => exact ff hc
 | cons st ss =>
  show Does prog w B A fr L (Own env) (PySem.exec st env >>= fun f => match f with
   | .next => PySem.execs ss env
   | f => pure f) s ρ H (bnd (exec T call a l) fun p => match p.1 with
   | .next => exec T call b p.2
   | f => ret (f, p.2)) (rN B env)
  refine Does.bind (ha K st (bL hc) env l s ρ H p F) fun q f ρ1 H1 s1 t1 r1 => ?_
  obtain ⟨fl, l1⟩:= q
  revert r1; refine oA fun I1 r1 => ?_
  cases fl with
  | next => cases f with
   | next => exact hb K ss (bR hc) env l1 s1 ρ1 H1 ⟨p.1, I1, t1.st⟩ F
   | _ => exact r1.elim
  | cont => cases f with
   | cont => exact Does.pur t1.st ⟨I1, trivial⟩
   | _ => exact r1.elim
  | ret v => cases f with
   | ret u => exact Does.pur t1.st ⟨I1, r1⟩
   | _ => exact r1.elim
theorem S_ite {c : ME} {a b : MS} (hc' : PT prog w B A fr L T call c) (ha : PSs prog w B A fr L T call a) (hb : PSs prog w B A fr L T call b) : PS prog w B A fr L T call (.ite c a b):= by
 intro K st hc env l s ρ H p F
 apply pb (e:= st) hc
 intro t x y pos hc
 have h1:= bL (bL hc)
 have h2:= bR (bL hc)
 have h3:= bR hc
 show Does prog w B A fr L (Own env) _ s ρ H (bnd (bnd (eval T call c l) truth) fun t => match t with
  | true => exec T call a l
  | false => exec T call b l) (rN B env)
 refine Does.seq' (g:= fun t => if t then PySem.execs x env else PySem.execs y env) ((hc' K t h1 env l s ρ H p).ownP p) (fun Q E z => wpAny_If (wpAny_mono z (fun t s1 q => by cases t <;> exact q) fun _ _ q => q)) fun t t' ρ1 H1 s1 t1 r1 => ?_
 revert r1; refine oA fun r1 p1 => ?_
 cases r1
 cases t with
 | true => exact ha K x h2 env l s1 ρ1 H1 p1 F
 | false => exact hb K y h3 env l s1 ρ1 H1 p1 F
theorem S_ret {e : ME} (he : PE prog w B A fr L T call e) : PS prog w B A fr L T call (.ret e):= by
 intro K st hc env l s ρ H p F
 apply nP (e:= st) hc
 intro o pos hc
 cases o with
 | some v =>
  show Does prog w B A fr L (Own env) _ s ρ H (bnd (eval T call e l) fun v => ret (Fl.ret v, l)) (rN B env)
  have z:= Does.map (f:= fun v : V => (Fl.ret v, l)) (g:= fun v : Value => Flow.ret v) (rel':= rN B env) ((he K v hc env l s ρ H p).ownP p) fun a u ρ1 H1 s1 t1 r1 => ⟨r1.2.2.1, r1.1⟩
  exact z.conv fun Q E q => wpAny_Return_some (uO q)
 | none =>
  cases mR hc
  exact Does.ok (a:= (Fl.ret .none, l)) (H':= H) rfl (wpAny_Return_none ⟨ρ, Tr.refl p.2.2, p.2.1, rfl⟩)
theorem S_cont : PS prog w B A fr L T call .cont:= by
 intro K st hc env l s ρ H p F
 apply fc (e:= st) hc
 intro q hc
 exact Does.ok (a:= (Fl.cont, l)) (H':= H) rfl (wpAny_Continue ⟨ρ, Tr.refl p.2.2, p.2.1, trivial⟩)
noncomputable def dK (xs : List Nat) (vs : List V) (l : Loc) : Loc:= (xs.zip vs).foldl (fun l p => put p.1 p.2 l) l
theorem au {K : Kd} {env : Env} : ∀ {xs : List Nat} {es : List PySem.Expr}, nB K xs es = true -> (assignEach es env).findIdx? (·.1) = none /\ (assignEach es env).length = xs.length:= by
 intro xs
 induction xs with
 | nil => intro es h; apply wE (e:= es) h; intro _; exact ⟨rfl, rfl⟩
 | cons x xs ih =>
  intro es h
  cases es with
  | nil => exact ff h
  | cons e es =>
   apply yF (e:= e) h
   intro y q h
   have z:= ih (bR h)
   show ((false, PySem.assign (.Name y q) env) :: assignEach es env).findIdx? (·.1) = none /\ ((false, PySem.assign (.Name y q) env) :: assignEach es env).length = _
   refine ⟨?_, congrArg (· + 1) z.2⟩
   rw [List.findIdx?_cons, z.1]
   rfl
theorem fH {Q : Unit -> Shared -> Prop} : ∀ {xs : List Nat} {es : List PySem.Expr}, nB K xs es = true -> ∀ {vs : List V} {us : List Value} {l : Loc} {s : Shared}, vs.length = xs.length -> RVs ρ vs us -> Pre B fr env K l ρ H s ->
  (∀ s', Tr B fr (Own env) s s' ρ ρ H H -> EnvI B env (dK xs vs l) ρ H s' -> Q () s') -> wpAny M A (assignInOrder ((assignEach es env).map (·.2)) us) Q E s:= by
 intro xs
 induction xs with
 | nil =>
  intro es h vs us l s hl r p k
  apply wE (e:= es) h
  intro _
  cases vs with
  | cons _ _ => cases hl
  | nil =>
   cases us with
   | cons _ _ => exact r.elim
   | nil => exact wpAny_pure (k s (Tr.refl p.2.2) p.2.1)
 | cons x xs ih =>
  intro es h vs us l s hl r p k
  cases es with
  | nil => exact ff h
  | cons e es =>
   apply yF (e:= e) h
   intro y q h
   refine oA (fun hx t01 => ?_) (xM (bL (bL h))); obtain rfl:= t01
   cases vs with
   | nil => cases hl
   | cons v vs =>
   cases us with
   | nil => exact r.elim
   | cons u us =>
   show wpAny M A (do holding us (PySem.assign (.Name (nm x) q) env u); assignInOrder ((assignEach es env).map (·.2)) us) Q E s
   refine wpAny_bind (wpAny_holding (wpAny_assign_Name (qJ p hx (bR (bL h)) r.1 fun s1 t1 I1 => ?_)))
   exact ih (bR h) (Nat.succ.inj hl) r.2 ⟨p.1, I1, t1.st⟩ fun s2 t2 I2 => k s2 (t1.trans t2) I2
noncomputable def dA (xs : List Nat) (l : Loc) : V -> Mo Loc
 | .ref n => fun h => match h[n]? with
  | some (.tup vs) => bif Nat.beq vs.length xs.length then .ok (dK xs vs l) h else .fail
  | _ => .fail
 | _ => bad
theorem mu {xs : List Nat} {e : ME} (hh : A.handled = none) (he : PE prog w B A fr L T call e) : PS prog w B A fr L T call (.unpack xs e):= by
 intro K st hc env l s ρ H p F
 apply uB (e:= st) hc
 intro ts v pos hc
 apply vN (e:= ts) hc
 intro t hc
 apply oW (e:= t) hc
 intro es k tp hc
 have h1:= bL (bL (bL hc))
 have h2:= bR (bL (bL hc))
 have h3:= bN (bR (bL hc))
 have h4:= bN (bR hc)
 have e0 : exec T call (.unpack xs e) l = bnd (eval T call e l) fun v => bnd (dA xs l v) fun l' => ret (.next, l'):= by
  refine Eq.trans (b:= bnd (eval T call e l) fun v => match v with
   | .ref n => fun h => match h[n]? with
    | some (.tup vs) => bif Nat.beq vs.length xs.length then .ok (.next, (xs.zip vs).foldl (fun l p => put p.1 p.2 l) l) h else .fail
    | _ => .fail
   | _ => bad) rfl ?_
  refine congrArg _ (funext fun v => ?_)
  cases v with
  | ref n =>
   funext h
   delta dA bnd
   dsimp only
   cases h[n]? with
   | none => rfl
   | some o => cases o with
    | tup vs => dsimp only; cases Nat.beq vs.length xs.length <;> rfl
    | _ => rfl
  | _ => rfl
 rw [e0]
 refine tZ he h2 h3 (tE (.inr h4) rfl env) rfl p fun a u ρ1 H1 s1 p1 r1 => ?_
 show Does prog w B A fr L (Own env) (do standAt tp; unpack u (assignEach es env)) s1 ρ1 H1 (dA xs l a) (relA B env)
 cases a with
 | ref n =>
  revert r1; refine oEA fun q hq t02 => ?_; obtain rfl:= t02
  cases ho : H1[n]? with
  | none => exact Does.fail (by simp only [dA, ho])
  | some o =>
   cases o with
   | tup vs =>
    cases hb : Nat.beq vs.length xs.length with
    | false => exact Does.fail (by simp only [dA, ho, hb, cond_false])
    | true =>
     have hl:= Nat.eq_of_beq_eq_true hb
     refine Does.ok (a:= dK xs vs l) (H':= H1) (by simp only [dA, ho, hb, cond_true]) ?_
     refine fl (p1.2.2.rep n q _ hq ho) <| oEA fun us => bM fun ot g1 g2 n' g3 ru => ?_
     have hn:= au (env:= env) h1
     refine wpAny_bind (wpAny_standAt (wpAny_unpack_tuple hh (items:= us.toArray) ⟨ot, g1, g2, n', g3⟩ (by rw [hn.2, List.size_toArray, ru.length, hl]) hn.1 fun h' hx' => ?_))
     have k' : ∀ b o, s1.heap.get? b = some o -> h'.get? b = some o:= fun b o q => hx' b o (fun z => by rw [z, yM] at q; contradiction) q
     have t2 : Tr B fr zE s1 ⟨h', s1.gens, s1.drawn, s1.toks, s1.os⟩ ρ1 ρ1 H1 H1:= xT p1.2.2 k' rfl rfl rfl
     refine fH h1 hl ru (p1.tr t2) fun s3 t3 I3 => ⟨ρ1, (t2.weaken fun _ _ z => z.elim).trans t3, I3⟩
   | _ => exact Does.fail (by simp only [dA, ho])
 | _ => exact Does.fail rfl
noncomputable def compM' : ME -> Bool
 | .comp .. => true
 | .compIf .. => true
 | .nil => true
 | .cons .. => true
 | .cc .. => true
 | _ => false
theorem qj {m : ME} {K : Kd} {v : PySem.Expr} (hc : chk m K v = true) (hm : compM' m = false) (hv : wJ v = true) : False:= by
 have : wJ v = false:= by
  cases m <;> first
  | exact ff hm.symm
  | (apply wT (e:= v) hc; intros; rfl)
  | (apply yF (e:= v) hc; intros; rfl)
  | (apply iF (e:= v) hc; intros; rfl)
  | (apply nQ (e:= v) hc; intros; rfl)
  | (apply oW (e:= v) hc; intros; rfl)
  | (apply vF (e:= v) hc; intros; rfl)
  | (apply vG (e:= v) hc; intros; rfl)
  | (apply rA (e:= v) hc; intros; rfl)
  | (apply sM (e:= v) hc; intros; rfl)
  | (apply uA (e:= v) hc; intros; rfl)
  | (apply eZ (e:= v) hc; intros; rfl)
  | (apply iC (e:= v) hc; intros; rfl)
 rw [this] at hv; contradiction
theorem cC (hex : ∀ m, P6 prog w B A fr L T call m) {m : ME} {v : PySem.Expr} (hc : chk m K v = true) (hv : wJ v = true) : (∀ l, eval T call m l = bad) \/ ∃ (mE : ME) (x : Nat) (mI : ME) (tst : Loc -> V -> Mo Bool) (ifs : List PySem.Expr) (elt iter : PySem.Expr) (px : Pos) (sc : Scope) (pos : Pos),
  v = .ListComp elt [⟨.Name (nm x) px, iter, ifs, 0⟩] sc pos /\ (∀ l, eval T call m l = tH T call mI mE x l (tst l)) /\ CompOk K sc x /\ qN iter = true /\ chk mI K iter = true /\ chk mE (uF K sc) elt = true /\
  ∀ env l v cells C s ρ H, Pre B fr (vJ sc cells C env) (uF K sc) (put x v l) ρ H s ->
   Does prog w B A fr L zE (forIn ifs true fun c r => if r = true then do let ok <- isTrue c (vJ sc cells C env) (PySem.eval c (vJ sc cells C env)); pure (ForInStep.yield ok) else pure (ForInStep.yield r)) s ρ H (tst l v) relT:= by
 cases m with
 | comp mE x mI =>
  apply nR (e:= v) hc
  intro elt gs sc pos hc
  apply vN (e:= gs) hc
  intro g hc
  apply oX (e:= g) hc
  intro y px iter ifs hc
  apply wE (e:= ifs) hc
  intro hc
  have h1:= bL (bL (bL (bL (bL (bL hc)))))
  refine oA (fun hx t01 => ?_) (xM h1); obtain rfl:= t01
  exact .inr ⟨mE, x, mI, fun _ _ => ret true, [], elt, iter, px, sc, pos, rfl, fun _ => rfl, rK hx (bR (bL (bL (bL (bL hc))))) (bR (bL hc)), bR (bL (bL (bL hc))), bR (bL (bL (bL (bL (bL hc))))), bR hc, fun env l v cells C s ρ H p' => Does.pur p'.2.2 rfl⟩
 | compIf mE x mI mC =>
  apply nR (e:= v) hc
  intro elt gs sc pos hc
  apply vN (e:= gs) hc
  intro g hc
  apply oX (e:= g) hc
  intro y px iter ifs hc
  apply vN (e:= ifs) hc
  intro t hc
  have h1:= bL (bL (bL (bL (bL (bL (bL hc))))))
  refine oA (fun hx t01 => ?_) (xM h1); obtain rfl:= t01
  refine .inr ⟨mE, x, mI, fun l v => bnd (eval T call mC (put x v l)) truth, [t], elt, iter, px, sc, pos, rfl, fun _ => rfl, rK hx (bR (bL (bL (bL (bL (bL hc)))))) (bR (bL (bL hc))), bR (bL (bL (bL (bL hc)))), bR (bL (bL (bL (bL (bL (bL hc)))))), bR (bL hc), fun env l v cells C s ρ H p' => ?_⟩
  refine ((hex mC).2.1 (uF K sc) t (bR hc) _ _ s ρ H p').conv fun Q E z => ?_
  rw [List.forIn_cons, if_pos rfl]
  exact wpAny_bind (wpAny_bind (wpAny_mono z (fun b s' q => wpAny_pure (wpAny_pure q)) fun _ _ q => q))
 | nil => exact .inl fun _ => rfl
 | cons _ _ => exact .inl fun _ => rfl
 | cc _ _ _ => exact .inl fun _ => rfl
 | _ => exact (qj hc (by rfl) hv).elim
theorem EnvI.but {C : Addr} {l0 : Loc} (I0 : EnvI B env l0 ρ0 H0 s0) (hC : s0.heap.get? C = none) (I : EnvI B env l ρ H s) (k : ∀ b o, b ≠ C -> s.heap.get? b = some o -> s'.heap.get? b = some o) : EnvI B env l ρ H s':= by
 refine fl I.ns <| oEA fun m => jN fun o es ep ho hd r hm => ?_
 refine fl I0.ns <| oEA fun _ => pS fun o0 _ _ ho0 _ _ => ?_
 refine ⟨I.kind, I.glob, I.bui, ⟨m, ⟨o, es, ep, k _ _ (fun e => by rw [e, hC] at ho0; contradiction) ho, hd, r⟩, hm⟩, I.nf, I.nb, fun i hi hk => ?_, I.inj⟩
 refine fl (I.cells i hi hk) <| yN fun c v h1 => oEA fun oc h2 h2' h3 h4 h5 => ?_
 refine fl (I0.cells i hi hk) <| wQ fun c' v' g1 => oEA fun oc' g2 _ _ => ?_
 obtain rfl:= s2 h1 g1
 exact ⟨c, v, h1, ⟨oc, k _ _ (fun e => by rw [e, hC] at g2; contradiction) h2, h2'⟩, h3, h4, h5⟩
theorem EnvI.notOwn {C : Addr} (I0 : EnvI B env l ρ0 H0 s0) (hC : s0.heap.get? C = none) : ¬ Own env C:= by
 rintro (e | ⟨i, hi, hk, e⟩)
 ·
  refine fl I0.ns <| oEA fun _ => pS fun o0 _ _ ho0 _ _ => ?_
  rw [e, ho0] at hC; contradiction
 ·
  refine fl (I0.cells i hi (.inl hk)) <| wQ fun c' v' g1 => oEA fun oc' g2 _ _ => ?_
  obtain rfl:= s2 e g1
  rw [hC] at g2; contradiction
theorem gG (x : Nat) (e : ME) (l : Loc) : exec T call (.assign x e) l = bnd (eval T call e l) fun v => ret (.next, put x v l):= rfl
theorem my {x : Nat} {e : ME} (hex : ∀ m, P6 prog w B A fr L T call m) (hh : A.handled = none) : PS prog w B A fr L T call (.assign x e):= by
 intro K st hc env l s ρ H p F
 apply uB (e:= st) hc
 intro ts v pos hc
 apply vN (e:= ts) hc
 intro t hc
 apply yF (e:= t) hc
 intro y q hc
 have h1:= bL (bL (bL hc))
 have h2:= bR (bL (bL hc))
 have h3:= bR (bL hc)
 have h4:= bR hc
 cases hv : wJ v with
 | false => exact lI (hex e).1 h1 h2 h3 hv p
 | true =>
  have h4 : fq K y q v = true:= by rw [hv] at h4; exact h4
  rcases cC hex h3 hv with hb | ⟨mE, x', mI, tst, ifs, elt, iter, px, sc, cpos, rfl, ev, hco, hs, hi, he, hT⟩
  ·
   exact Does.fail (by rw [gG, hb]; rfl)
  refine oA (fun hx t01 => ?_) (xM h1); obtain rfl:= t01
  have hk : K (nm x) = some .local:= by
   refine oO (fun z => ?_) (fun z => ?_) (tS h2)
   ·
    exact z
   ·
    have:= bL (bL h4); rw [z] at this; contradiction
  have hsw : swapsWith (.ListComp elt [⟨.Name (nm x') px, iter, ifs, 0⟩] sc cpos) (some (.Name (nm x) q)) pos.line env = pure true:= by
   show (pure (env.blockKind == .function && env.kindOf (nm x) == some .local && q.line == cpos.line && !(sc.names.any fun (n, k) => n == nm x && (k == .local || k == .cell))) : Sem Bool) = pure true
   have e1 : env.blockKind = .function:= by unfold Env.blockKind; rw [p.2.1.kind]; rfl
   have e2 : env.kindOf (nm x) = some .local:= (p.1 _).trans hk
   have e3 : (q.line == cpos.line) = true:= bR (bL h4)
   have e4 : (sc.names.any fun (n, k) => n == nm x && (k == .local || k == .cell)) = false:= bN (bR h4)
   rw [e1, e2, e3, e4]; rfl
  refine xG (fun cl c1 c2 c3 => ?_) (mX hco p)
  have hI1:= (hex mI).1 K iter hi env l s ρ H p
  unfold Does at hI1
  have hnames : ∀ y ∈ sc.names, y.2 = .local -> sc.names.lookup y.1 = some .local:= fun y hy e => (hco.lm y hy e).2
  have e0 : exec T call (.assign x e) l = bnd (tH T call mI mE x' l (tst l)) fun v => ret (.next, put x v l):= by rw [gG, ev]
  rw [e0]
  rcases eL (T:= T) (call:= call) (mE:= mE) (x:= x') (l:= l) mI (tst l) H with e | ⟨H', e1, e⟩ | ⟨v, H1, src, accF, HF, e1, e2, e3, e⟩
  ·
   exact Does.fail (by first | exact qV e | exact nG e)
  ·
   refine Does.exc (H':= H') (by first | exact qV e | exact nG e) ?_
   rw [e1] at hI1
   rw [exec_Assign_Name_used _ _ _ _ hsw]
   refine wpAny_bind (wpAny_standAt (wpAny_bind ?_))
   show wpAny _ A (do let _ <- comprehension (.ListComp elt [⟨.Name (nm x') px, iter, ifs, 0⟩] sc cpos) sc env _ (newList []) false (PySem.eval iter env) (some (PySem.assign (.Name (nm x) q) env))) _ _ s
   refine wpAny_bind (wpAny_comprehension_free (use:= some (PySem.assign (.Name (nm x) q) env)) rfl (rH hs env) c1 hco.kind hnames (wpAny_mono hI1 (fun _ _ z => z.elim) fun e s1 z => ?_))
   revert z; refine oEA fun ρ1 t1 x1 => ?_
   exact ⟨ρ1, t1.weaken fun _ _ z => z.elim, x1⟩
  ·
   refine Does.ok (a:= (Fl.next, put x (.ref HF.length) l)) (H':= HF ++ [.lst accF]) (tX e) ?_
   rw [e1] at hI1
   rw [exec_Assign_Name_used _ _ _ _ hsw]
   refine wpAny_bind (wpAny_standAt (wpAny_bind ?_))
   show wpAny _ A (do let _ <- comprehension (.ListComp elt [⟨.Name (nm x') px, iter, ifs, 0⟩] sc cpos) sc env _ (newList []) false (PySem.eval iter env) (some (PySem.assign (.Name (nm x) q) env))) _ _ s
   refine wpAny_bind (wpAny_comprehension_free (use:= some (PySem.assign (.Name (nm x) q) env)) rfl (rH hs env) c1 hco.kind hnames (wpAny_mono hI1 (fun u s1 z => ?_) fun _ _ z => z.elim))
   revert z; refine oEA fun ρ1 t1 r1 => ?_
   have p1:= p.tr t1
   refine kP hh hco p1 r1 e2 e3 c2 c3 (hex mE).1 he (hT env l) (R:= fun acc C => compPost (model prog w) A _ (some (PySem.assign (.Name (nm x) q) env)) _ acc C) fun D C s' ρ' t2 hlen hC0 off hm => ?_
   have p2:= p1.tr t2
   refine wpAny_assign_Name (qJ p2 hx h2 (gv hlen) fun s3 t3 I3 => ?_)
   revert hm; refine oE fun m hm => ?_
   refine ⟨m, Ns.mono hm (t3.data off.1 (p1.2.1.notOwn hC0)), fun h' hs' => wpAny_pure (wpAny_pure ⟨ρ' ++ [(D, D)], ?_, ?_, trivial⟩)⟩
   ·
    refine Tr.side p.2.2 (((t1.trans t2).weaken fun _ _ z => z.elim).trans t3) (X:= fun b => b = C) (fun b hb => by rw [hb]; exact ⟨t1.dom C hC0, off⟩) (fun b o e nx _ => hs'.extBut b o nx e) (fun b o e hb => ⟨o.slots, hs'.extBut b o (fun z => ?_) e⟩) rfl rfl rfl
    refine fl (p1.2.2.frs b hb) <| oA <| oEA fun o2 f1 f2 _ => ?_
    rw [z, hC0] at f1; contradiction
   ·
    exact p1.2.1.but hC0 I3 fun b o nb q => hs'.extBut b o nb q
end
section
variable {prog : Program} {w : World} {M : Model} {B : Base} {A : Around} {fr : List Addr} {L : Addr} {W : Addr -> Prop} {s s' s'' s0 : Shared} {ρ ρ' ρ0 : Adr} {H H' H0 : Hp} {e : Value} {env : Env} {E : Value -> Shared -> Prop}
 {T : Tab} {call : Call} {K : Kd} {l : Loc}
theorem EnvI.own_data (I : EnvI B env l ρ H s) : ∀ b o, Own env b -> s.heap.get? b = some o -> (∀ vs, o.data ≠ .fields vs) /\ ∀ vs n, o.data ≠ .seq vs n:= by
 rintro b o (e | ⟨i, hi, hk, e⟩) ho
 ·
  refine fl I.ns <| oEA fun _ => jN fun o0 _ _ ho0 hd _ _ => ?_
  rw [e, ho0] at ho; obtain rfl:= (si ho).symm
  exact ⟨fun vs q => (by rw [hd] at q; contradiction), fun vs n q => (by rw [hd] at q; contradiction)⟩
 ·
  refine fl (I.cells i hi (.inl hk)) <| wQ fun c' v' g1 => oEA fun oc' g2 g3 _ => ?_
  obtain rfl:= s2 e g1
  obtain rfl:= s2 ho g2
  exact ⟨fun vs q => (by rw [g3] at q; contradiction), fun vs n q => (by rw [g3] at q; contradiction)⟩
noncomputable def bb (B : Base) (env : Env) (fr : List Addr) (s0 : Shared) (ρ0 : Adr) (H0 : Hp) (res : R (Fl × Loc)) (f : Flow) (s' : Shared) : Prop:= ∃ p HF ρ', res = .ok p HF /\ Tr B fr (Own env) s0 s' ρ0 ρ' H0 HF /\ rN B env ρ' HF p f s'
noncomputable def endE (B : Base) (env : Env) (fr : List Addr) (L : Addr) (s0 : Shared) (ρ0 : Adr) (H0 : Hp) (res : R (Fl × Loc)) (e : Value) (s' : Shared) : Prop:= ∃ HF ρ', res = .exc HF /\ Tr B fr (Own env) s0 s' ρ0 ρ' H0 HF /\ XC B L ρ' HF s0 s' e
theorem eP {m : Mo (Fl × Loc)} {t : Sem Flow} {more : Loc -> Mo (Fl × Loc)} {res : R (Fl × Loc)} {J : Shared -> Prop} {E' : Value -> Shared -> Prop} (x0 : St B fr ρ0 H0 s0.heap) (F : FrI A fr env L)
  (tr : Tr B fr (Own env) s0 s ρ0 ρ H0 H) (hd : Does prog w B A fr L (Own env) t s ρ H m (rN B env)) (hres : (bnd m fun r => match r.1 with | .ret w => ret (.ret w, r.2) | _ => more r.2) H = res) (hne : res ≠ .fail)
  (hE : ∀ e s', endE B env fr L s0 ρ0 H0 res e s' -> E' e s')
  (k : ∀ l' ρ' H' s', more l' H' = res -> Tr B fr (Own env) s0 s' ρ0 ρ' H0 H' -> Tr B fr (Own env) s s' ρ ρ' H H' -> EnvI B env l' ρ' H' s' -> J s') :
  wpAny (model prog w) A t (fun f s₃ => match f with
   | .next => J s₃
   | .cont => J s₃
   | .brk => bb B env fr s0 ρ0 H0 res .next s₃
   | .ret v => bb B env fr s0 ρ0 H0 res (.ret v) s₃) (notedBy (model prog w) A env fun e s' => cameBackBy (model prog w) A env E' e s') s:= by
 unfold Does at hd
 cases em : m H with
 | fail => simp only [bnd, em] at hres; exact absurd hres.symm hne
 | exc H' =>
  simp only [bnd, em] at hres
  rw [em] at hd
  refine wpAny_mono hd (fun _ _ z => z.elim) fun e s1 z => ?_
  revert z; refine oEA fun ρ1 t1 x1 => ?_
  exact eQ x0 (tr.trans t1) F (x1.back tr) fun s2 t2 x2 => hE e s2 ⟨H', ρ1, hres.symm, t2, x2⟩
 | ok p H' =>
  simp only [bnd, em] at hres
  rw [em] at hd
  refine wpAny_mono hd (fun f s1 z => ?_) fun _ _ z => z.elim
  revert z; refine xG fun ρ1 t1 I1 r1 => ?_
  obtain ⟨fl, l1⟩:= p
  cases fl with
  | next => cases f with
   | next => exact k l1 ρ1 H' s1 hres (tr.trans t1) t1 I1
   | _ => exact r1.elim
  | cont => cases f with
   | cont => exact k l1 ρ1 H' s1 hres (tr.trans t1) t1 I1
   | _ => exact r1.elim
  | ret v => cases f with
   | ret u => exact ⟨(.ret v, l1), H', ρ1, hres.symm, tr.trans t1, I1, r1⟩
   | _ => exact r1.elim
theorem jv {x : Nat} {b : MS} {src : Src} {q : Pos} {body : List Stmt} {res : R (Fl × Loc)} {I : Addr} (hh : A.handled = none) (F : FrI A fr env L) (hb : PSs prog w B A fr L T call b) (hcb : rW b K body = true) (hx : x < nmS.length) (hk : wI (K (nm x)) = true)
  (p0 : Pre B fr env K l ρ0 H0 s0) (hI : s0.heap.get? I = none) (hne : res ≠ .fail) (hres : uT (exec T call b) x src 64 0 l H0 = res) (t0 : Tr B fr (Own env) s0 s ρ0 ρ0 H0 H0) (I0 : EnvI B env l ρ0 H0 s) (it : ItAt B ρ0 H0 s src 0 I) {Q : Flow -> Shared -> Prop}
  (hQ : ∀ f s', bb B env fr s0 ρ0 H0 res f s' -> Q f s') (hE : ∀ e s', endE B env fr L s0 ρ0 H0 res e s' -> E e s') :
  codeAny (model prog w) A (.forLoop (.Name (nm x) q) (.ref I) body [] env) (fun r s' => match r with
   | .ok f => Q f s'
   | .error e => cameBackBy (model prog w) A env E e s') s:= by
 have x0:= p0.2.2
 have key:= codeAny_forLoop (prog:= prog) (w:= w) (A:= A) (s:= s) (R:= fun r s' => match r with
   | .ok f => bb B env fr s0 ρ0 H0 res f s'
   | .error e => cameBackBy (model prog w) A env E e s') (target:= .Name (nm x) q) (it:= .ref I) (body:= body) (orelse:= []) (env:= env)
  (fun n s => ∃ ρ H i l', uT (exec T call b) x src n i l' H = res /\ Tr B fr (Own env) s0 s ρ0 ρ H0 H /\ EnvI B env l' ρ H s /\ ItAt B ρ H s src i I) ?_ 64 ⟨ρ0, H0, 0, l, hres, t0, I0, it⟩
 ·
  refine codeAny_mono key fun r s' z => ?_
  cases r with
  | ok f => exact hQ f s' z
  | error e => exact z
 refine fun n s => vS fun ρ H i l' hl t => oA fun I1 it => ?_
 cases n with
 | zero => exact absurd hl.symm hne
 | succ n =>
 unfold uT at hl
 cases hn : jV src i H with
 | none => rw [hn] at hl; exact absurd hl.symm hne
 | some ov =>
 rw [hn] at hl
 cases ov with
 | none =>
  refine fF hh x0 t hI it hn fun s1 t1 k1 => ?_
  exact wpAny_execs_nil ⟨(.next, l'), H, ρ, hl.symm, t1, I1.side k1, trivial⟩
 | some v =>
 refine lZ x0 t hI it hn fun u s1 ru t1 k1 it1 => ?_
 dsimp only
 have I2:= I1.side k1
 refine wpAny_assign_Name (qJ ⟨p0.1, I2, t1.st⟩ hx hk ru fun s2 t2 I3 => ?_)
 have it2:= it1.tr t1.st t2 I2.own_data
 have t02:= t1.trans t2
 refine eP (more:= fun l => uT (exec T call b) x src n (i + 1) l) x0 F t02 (hb K body hcb env (put x v l') s2 ρ H ⟨p0.1, I3, t2.st⟩ F) ?_ hne hE fun l2 ρ3 H3 s3 h3 t03 t3 I4 => ?_
 ·
  refine Eq.trans ?_ hl
  rfl
 ·
  exact ⟨n, Nat.lt_succ_self n, ρ3, H3, i + 1, l2, h3, t03, I4, it2.tr t2.st t3 I3.own_data⟩
theorem S_for {x : Nat} {it : ME} {b : MS} (hh : A.handled = none) (hi : PE prog w B A fr L T call it) (hb : PSs prog w B A fr L T call b) : PS prog w B A fr L T call (.for x it b):= by
 intro K st hc env l s ρ H p F
 apply pc (e:= st) hc
 intro t iter body el pos hc
 apply yF (e:= t) hc
 intro y q hc
 apply wE (e:= el) hc
 intro hc
 have h1:= bL (bL (bL (bL hc)))
 have h2:= bR (bL (bL (bL hc)))
 have h3:= bR (bL (bL hc))
 have h4:= bR (bL hc)
 have h5:= bR hc
 refine oA (fun hx t01 => ?_) (xM h1); obtain rfl:= t01
 have hI1:= hi K iter h3 env l s ρ H p
 unfold Does at hI1
 cases e1 : eval T call it l H with
 | fail => exact Does.fail (qV e1)
 | exc H' =>
  refine Does.exc (H':= H') (nG e1) ?_
  rw [e1] at hI1
  refine wpAny_For (wpAny_mono hI1 (fun _ _ z => z.elim) fun e s1 z => ?_) (rH h4 env)
  revert z; refine oEA fun ρ1 t1 x1 => ?_
  exact ⟨ρ1, t1.weaken fun _ _ z => z.elim, x1⟩
 | ok v H1 =>
  rw [e1] at hI1
  rcases gQ v H1 with e2 | ⟨src, e2⟩
  ·
   exact Does.fail ((tX e1).trans (qV e2))
  have main : ∀ res, uT (exec T call b) x src 64 0 l H1 = res -> res ≠ .fail -> ∀ (Q : Flow -> Shared -> Prop) (E : Value -> Shared -> Prop),
    (∀ f s', (∃ p HF ρ', res = .ok p HF /\ Tr B fr (Own env) s s' ρ ρ' H HF /\ rN B env ρ' HF p f s') -> Q f s') -> (∀ e s', (∃ HF ρ', res = .exc HF /\ Tr B fr (Own env) s s' ρ ρ' H HF /\ XC B L ρ' HF s s' e) -> E e s') ->
    wpAny (model prog w) A (PySem.exec (.For (.Name (nm x) q) iter body [] pos) env) Q E s:= by
   intro res hres hne Q E hQ hE
   refine wpAny_For (wpAny_mono hI1 (fun u s1 z => ?_) fun _ _ z => z.elim) (rH h4 env)
   revert z; refine oEA fun ρ1 t1 r1 => ?_
   have p1:= p.tr t1
   have t1' : Tr B fr (Own env) s s1 ρ ρ1 H H1:= t1.weaken fun _ _ z => z.elim
   refine bW (W:= Own env) p1.2.2 r1 e2 fun _ s2 t2 k2 hI it => ?_
   refine jv hh F hb h5 hx h2 p1 hI hne hres t2 (p1.2.1.side fun b o q _ => k2 b o q) it (fun f s' z => hQ f s' ?_) fun e s' z => hE e s' ?_
   ·
    revert z; refine jN fun p HF ρ' a1 a2 a3 => ?_
    exact ⟨p, HF, ρ', a1, t1'.trans a2, a3⟩
   ·
    revert z; refine wQ fun HF ρ' a1 a2 a3 => ?_
    exact ⟨HF, ρ', a1, t1'.trans a2, a3.back t1'⟩
  cases e3 : uT (exec T call b) x src 64 0 l H1 with
  | fail => exact Does.fail ((tX e1).trans ((tX e2).trans e3))
  | exc HF =>
   refine Does.exc (H':= HF) ((tX e1).trans ((tX e2).trans e3)) (main _ e3 (by simp) _ _ (fun f s' z => ?_) fun e s' z => ?_)
   ·
    revert z; refine jN fun p HF ρ' a1 a2 a3 => ?_; contradiction
   ·
    revert z; refine wQ fun HF ρ' a1 a2 a3 => ?_; cases a1; exact ⟨ρ', a2, a3⟩
  | ok pF HF =>
   refine Does.ok (a:= pF) (H':= HF) ((tX e1).trans ((tX e2).trans e3)) (main _ e3 (by simp) _ _ (fun f s' z => ?_) fun e s' z => ?_)
   ·
    revert z; refine jN fun p HF ρ' a1 a2 a3 => ?_; cases a1; exact ⟨ρ', a2, a3⟩
   ·
    revert z; refine wQ fun HF ρ' a1 a2 a3 => ?_; contradiction
theorem tw {c : ME} {b : MS} (hc' : PT prog w B A fr L T call c) (hb : PSs prog w B A fr L T call b) : PS prog w B A fr L T call (.while c b):= by
 intro K st hc env l s ρ H p F
 apply aO (e:= st) hc
 intro test body el pos hc
 apply wE (e:= el) hc
 intro hc
 have h1:= bL hc
 have h2:= bR hc
 have main : ∀ res, qQ (fun l => bnd (eval T call c l) truth) (exec T call b) 64 l H = res -> res ≠ .fail -> ∀ (Q : Flow -> Shared -> Prop) (E : Value -> Shared -> Prop),
   (∀ f s', bb B env fr s ρ H res f s' -> Q f s') -> (∀ e s', endE B env fr L s ρ H res e s' -> E e s') ->
   wpAny (model prog w) A (PySem.exec (.While test body [] pos) env) Q E s:= by
  intro res hres hne Q E hQ hE
  refine wpAny_While ?_
  have key:= codeAny_whileLoop (prog:= prog) (w:= w) (A:= A) (s:= s) (R:= fun r s' => match r with
    | .ok f => bb B env fr s ρ H res f s'
    | .error e => cameBackBy (model prog w) A env E e s') (test:= test) (body:= body) (orelse:= []) (env:= env)
   (fun n s' => ∃ ρ' H' l', qQ (fun l => bnd (eval T call c l) truth) (exec T call b) n l' H' = res /\ Tr B fr (Own env) s s' ρ ρ' H H' /\ EnvI B env l' ρ' H' s') ?_ 64 ⟨ρ, H, l, hres, Tr.refl p.2.2, p.2.1⟩
  ·
   refine codeAny_mono key fun r s' z => ?_
   cases r with
   | ok f => exact hQ f s' z
   | error e => exact z
  refine fun n s1 => jN fun ρ1 H1 l1 hl t1 I1 => ?_
  cases n with
  | zero => exact absurd hl.symm hne
  | succ n =>
  unfold qQ at hl
  have p1 : Pre B fr env K l1 ρ1 H1 s1:= ⟨p.1, I1, t1.st⟩
  have hT:= hc' K test h1 env l1 s1 ρ1 H1 p1
  unfold Does at hT
  cases et : bnd (eval T call c l1) truth H1 with
  | fail => rw [bnd] at hl; simp only [et] at hl; exact absurd hl.symm hne
  | exc H2 =>
   rw [et] at hT
   rw [bnd] at hl; simp only [et] at hl
   refine wpAny_mono hT (fun _ _ z => z.elim) fun e s2 z => ?_
   revert z; refine oEA fun ρ2 t2 x2 => ?_
   have t2' : Tr B fr (Own env) s1 s2 ρ1 ρ2 H1 H2:= t2.weaken fun _ _ z => z.elim
   exact eQ p.2.2 (t1.trans t2') F (x2.back t1) fun s3 t3 x3 => hE e s3 ⟨H2, ρ2, hl.symm, t3, x3⟩
  | ok tv H2 =>
   rw [et] at hT
   rw [bnd] at hl; simp only [et] at hl
   refine wpAny_mono hT (fun bv s2 z => ?_) fun _ _ z => z.elim
   revert z; refine oEA fun ρ2 t2 r2 => ?_
   cases r2
   have p2:= p1.tr t2
   have t02 : Tr B fr (Own env) s s2 ρ ρ2 H H2:= t1.trans (t2.weaken fun _ _ z => z.elim)
   cases tv with
   | false =>
    simp only [cond_false] at hl
    rw [if_neg (by decide)]
    exact wpAny_execs_nil ⟨(.next, l1), H2, ρ2, hl.symm, t02, p2.2.1, trivial⟩
   | true =>
    simp only [cond_true] at hl
    rw [if_pos rfl]
    refine eP (more:= fun l => qQ (fun l => bnd (eval T call c l) truth) (exec T call b) n l) p.2.2 F t02 (hb K body h2 env l1 s2 ρ2 H2 p2 F) ?_ hne hE fun l2 ρ3 H3 s3 h3 t03 t3 I4 => ?_
    ·
     exact Eq.trans rfl hl
    ·
     exact ⟨n, Nat.lt_succ_self n, ρ3, H3, l2, h3, t03, I4⟩
 cases e3 : qQ (fun l => bnd (eval T call c l) truth) (exec T call b) 64 l H with
 | fail => exact Does.fail e3
 | exc HF =>
  refine Does.exc (H':= HF) e3 (main _ e3 (by simp) _ _ (fun f s' z => ?_) fun e s' z => ?_)
  ·
   revert z; refine jN fun p HF ρ' a1 a2 a3 => ?_; contradiction
  ·
   revert z; refine wQ fun HF ρ' a1 a2 a3 => ?_; cases a1; exact ⟨ρ', a2, a3⟩
 | ok pF HF =>
  refine Does.ok (a:= pF) (H':= HF) e3 (main _ e3 (by simp) _ _ (fun f s' z => ?_) fun e s' z => ?_)
  ·
   revert z; refine jN fun p HF ρ' a1 a2 a3 => ?_; cases a1; exact ⟨ρ', a2, a3⟩
  ·
   revert z; refine wQ fun HF ρ' a1 a2 a3 => ?_; contradiction
end
structure BadOk (B : Base) : Prop where
 it : ∃ (nm q : Str) (N : Addr) (bs bm : List Value) (hdct : Bool) (sn : List Str) (sub : List Value) (ab : Bool) (col : Option Bool) (dd : Option Addr) (k0 k1 k2 k3 k5 : Option Value) (newId : String),
  B.hp.get? B.bad = some (excClassObj nm q B.bad N bs bm hdct sn sub ab col dd k0 k1 k2 k3 k5 newId) /\ bm.contains (.type "BaseException") = true
section
variable {M : Model} {A : Around} {E : Value -> Shared -> Prop} {env : Env}
variable {nm q : Str} {C N : Addr} {bs bm : List Value} {hdct : Bool} {sn : List Str} {sub : List Value} {ab : Bool} {col : Option Bool} {dd : Option Addr} {k0 k1 k2 k3 k5 : Option Value} {newId : String}
theorem dJ {s : Shared} {x : Sem Value} {Q : Flow -> Shared -> Prop} (hbase : bm.contains (.type "BaseException") = true) (hh : A.handled = none)
  (h : wpAny M A x (fun v s₁ => ∃ e oe vs, v = .ref e /\ s₁.heap.get? C = some (excClassObj nm q C N bs bm hdct sn sub ab col dd k0 k1 k2 k3 k5 newId) /\
   s₁.heap.get? e = some oe /\ oe.cls = .ref C /\ oe.data = .fields vs /\ vs[1]? = some .none /\ E (.ref e) s₁) E s) :
  wpAny M A (raiseStmt env (some x) none) Q E s:= by
 have hcB : (Value.ref C :: bm).contains (.type "BaseException") = true := by rw [List.contains_cons, hbase, Bool.or_true]
 unfold raiseStmt
 refine wpAny_bind (wpAny_mono h (fun v s₁ h₁ => ?_) fun _ _ x => x)
 revert h₁; refine xZ fun e oe vs t03 hC he => yW fun hcls hd h1 hE => ?_; obtain rfl:= t03
 obtain ⟨hp, g, d, tk, os⟩:= s₁
 have hfl : ∀ {Q : Unit -> Shared -> Prop}, Q () ⟨hp, g, d, tk, os⟩ -> wpAny M A (setFlight (.ref e) none) Q E ⟨hp, g, d, tk, os⟩:= fun hq => by
  unfold setFlight
  refine wpAny_bind (wpAny_field he hd h1 ?_)
  rw [if_neg (by decide)]
  exact wpAny_pure hq
 repeat (first | with_reducible refine wpAny_bind (hfl ?_) | (with_reducible refine wpAny_loadPart_at he ?_; rw [hcls]) | with_reducible refine wpAny_loadPart_at hC ?_ | (with_reducible refine wpAny_isSubtype_exc hC ?_; rw [hcB]) | wp_step)
 exact wpAny_raiseNew_none hh hE
end
section
variable (prog : Program) (w : World) (B : Base) (A : Around) (fr : List Addr)
noncomputable def sH : Prop:= ∀ (txt : Str) (tk : Nat) (x : V) (u : Value) (s : Shared) (ρ : Adr) (H : Hp) (Q : Value -> Shared -> Prop) (E : Value -> Shared -> Prop), St B fr ρ H s.heap -> RV ρ x u ->
 (∀ e s', Tr B fr zE s s' ρ ρ H H -> s.heap.get? e = none -> (∃ oe t, s'.heap.get? e = some oe /\ oe.cls = .ref B.bad /\ oe.data = .fields #[.ref t, .none, .none, .none, .bool false, .none]) -> Off ρ H e -> Q (.ref e) s') ->
 wpAny (model prog w) A (PySem.call (.ref B.bad) [.str txt tk, u]) Q E s
end
section
variable {prog : Program} {w : World} {M : Model} {B : Base} {A : Around} {fr : List Addr} {L : Addr} {W : Addr -> Prop} {s s' s'' s0 : Shared} {ρ ρ' ρ0 : Adr} {H H' H0 : Hp} {e : Value} {env : Env} {E : Value -> Shared -> Prop}
 {T : Tab} {call : Call} {K : Kd} {l : Loc}
theorem aJ : (vU == ("__debug__" : Str)) = false := by decide +kernel
theorem tx {m : ME} (G : GlobOk T B) (BO : BadOk B) (RO : sH prog w B A fr) (hh : A.handled = none) (hm : PE prog w B A fr L T call m) : PS prog w B A fr L T call (.raise m):= by
 intro K st hc env l s ρ H p F
 apply aQ (e:= st) hc
 intro o c pos hc
 apply mK (e:= o) hc
 intro r hc
 apply gZ (e:= c) hc
 intro hc
 apply vF (e:= r) hc
 intro g as ks cpos hc
 apply yF (e:= g) hc
 intro g gq hc
 apply wE (e:= ks) hc
 intro hc
 apply fh (e:= as) hc
 intro t x hc
 apply wT (e:= t) hc
 intro c kk q1 hc
 apply sd (e:= c) hc
 intro txt hc
 obtain rfl:= dTr (bL (bL (bL hc)))
 have h2:= bR (bL (bL hc))
 have h3:= bR (bL hc)
 have h4:= bR hc
 refine fl G.it <| yN fun mg mb g1 g2 g3 g4 => oAA fun g5 g6 g7 => ?_
 refine fl BO.it <| xY fun nam q N bs bm hdct => xY fun sn sub ab col dd k0 => pR fun k1 k2 k3 k5 newId c1 c2 => ?_
 have args : starEach [.Constant (.str txt) kk q1, x] env = [(false, PySem.eval (.Constant (.str txt) kk q1) env), (false, PySem.eval x env)]:= by
  rw [wY rfl, wY h4]; rfl
 have t0 : Tr B fr zE s { s with toks:= s.toks + 1 } ρ ρ H H:= jJ p.2.2 rfl rfl rfl rfl
 have p0:= p.tr t0
 have main : ∀ {E : Value -> Shared -> Prop} {Q : Flow -> Shared -> Prop}, wpAny (model prog w) A (PySem.eval x env) (fun u s1 => ∃ ρ1 H1, St B fr ρ1 H1 s1.heap /\ wpAny (model prog w) A (PySem.call (.ref B.bad) [.str txt s.toks, u])
   (fun v s2 => ∃ e oe vs, v = .ref e /\ s2.heap.get? B.bad = some (excClassObj nam q B.bad N bs bm hdct sn sub ab col dd k0 k1 k2 k3 k5 newId) /\ s2.heap.get? e = some oe /\ oe.cls = .ref B.bad /\ oe.data = .fields vs /\ vs[1]? = some .none /\ E (.ref e) s2) E s1) E { s with toks:= s.toks + 1 } ->
   wpAny (model prog w) A (PySem.exec (.Raise (some (.Call (.Name vU gq) [.Constant (.str txt) kk q1, x] [] cpos)) none pos) env) Q E s:= by
  intro E Q z
  rw [arm_exec_Raise]
  show wpAny _ A (do standAt pos; raiseStmt env (some (do let v <- PySem.eval (.Call (.Name vU gq) [.Constant (.str txt) kk q1, x] [] cpos) env; standAt pos; pure v)) none) Q E s
  refine wpAny_bind (wpAny_standAt (dJ (nm:= nam) (q:= q) (C:= B.bad) (N:= N) (bs:= bs) (hdct:= hdct) (sn:= sn) (sub:= sub) (ab:= ab) (col:= col) (dd:= dd) (k0:= k0) (k1:= k1) (k2:= k2) (k3:= k3) (k5:= k5) (newId:= newId) c2 hh (wpAny_bind ?_)))
  show wpAny _ A (PySem.eval (.Name vU gq) env >>= fun f => callWith cpos f [] (backTo cpos (starEach [.Constant (.str txt) kk q1, x] env)) []) _ _ s
  refine wpAny_bind (qO p.2.2 (by rw [p.1]; exact h2) p.2.1 g1 g7 aJ _ _ ?_)
  rw [args]
  refine jT (by intro t ht; rcases List.mem_cons.mp ht with rfl | ht; rfl; rcases List.mem_cons.mp ht with rfl | ht; rfl; cases ht) ?_
  refine spliced_cons (wpAny_Constant_str (k:= kk) (pos:= q1) (spliced_cons (wpAny_mono z (fun u s1 y => spliced_nil ⟨fun Q' hq => ?_, wpAny_mono y.choose_spec.choose_spec.2 (fun v s2 r => wpAny_bind (wpAny_standAt (wpAny_pure r))) fun _ _ q => q⟩) fun _ _ q => q)))
  have hst:= y.choose_spec.choose_spec.1
  obtain ⟨h', gn', d', t', os'⟩:= s1
  exact wpAny_keeperOf_exc (hst.bk _ _ c1) hq.1
 have hE:= hm K x h3 env l _ ρ H p0
 unfold Does at hE
 cases e1 : eval T call m l H with
 | fail => exact Does.fail (qV e1)
 | exc H' =>
  rw [e1] at hE
  refine Does.exc (H':= H') (nG e1) (main (wpAny_mono hE (fun _ _ z => z.elim) fun e s1 z => ?_))
  revert z; refine oEA fun ρ1 t1 x1 => ?_
  exact ⟨ρ1, (t0.trans t1).weaken fun _ _ z => z.elim, x1.back t0⟩
 | ok v H1 =>
  rw [e1] at hE
  refine Does.exc (H':= H1) (tX e1) (main (wpAny_mono hE (fun u s1 z => ?_) fun _ _ z => z.elim))
  revert z; refine oEA fun ρ1 t1 r1 => ?_
  have t01:= t0.trans t1
  refine ⟨ρ1, H1, t1.st, RO txt _ v u s1 ρ1 H1 _ _ t1.st r1 fun e s2 t2 hn => wQ fun oe t o1 o2 o3 off => ?_⟩
  refine ⟨e, oe, _, rfl, t2.st.bk _ _ c1, o1, o2, o3, rfl, ρ1, (t01.trans t2).weaken fun _ _ z => z.elim, ?_⟩
  exact ⟨e, oe, _, _, rfl, t01.dom e hn, o1, o2, o3, rfl, off, .inl rfl⟩
theorem cx (m : ME) (b : MS) (l : Loc) (H : Hp) : exec T call (.try m b) l H = match eval T call m l H with
 | .ok _ h' => R.ok (Fl.next, l) h'
 | .exc h' => exec T call b l h'
 | .fail => .fail:= rfl
theorem S_try {m : ME} {b : MS} (G : GlobOk T B) (BO : BadOk B) (hh : A.handled = none) (hm : PE prog w B A fr L T call m) : PS prog w B A fr L T call (.try m b):= by
 intro K st hc env l s ρ H p F
 apply pa (e:= st) hc
 intro ts hs os fs pos hc
 apply vN (e:= ts) hc
 intro t hc
 apply nS (e:= t) hc
 intro v vp hc
 apply wE (e:= os) hc
 intro hc
 apply wE (e:= fs) hc
 intro hc
 apply vN (e:= hs) hc
 intro x hc
 apply fb (e:= x) hc
 intro g gq bv bk bq rp hp hc
 obtain rfl:= dTr (bL (bL (bL (bL hc))))
 have h2:= bR (bL (bL (bL hc)))
 have h3:= bR (bL (bL hc))
 have h4:= bN (bR (bL hc))
 have h5:= bR hc
 cases pk h5
 refine fl G.it <| yN fun mg mb g1 g2 g3 g4 => oAA fun g5 g6 g7 => ?_
 refine fl BO.it <| xY fun nam q N bs bm hdct => xY fun sn sub ab col dd k0 => pR fun k1 k2 k3 k5 newId c1 c2 => ?_
 have hE:= hm K v h3 env l s ρ H p
 unfold Does at hE
 have hint : interactive env = false:= by unfold interactive; rw [p.2.1.kind]; rfl
 cases e1 : eval T call m l H with
 | fail => exact Does.fail (by rw [cx, e1])
 | ok a H1 =>
  rw [e1] at hE
  refine Does.ok (a:= (Fl.next, l)) (H':= H1) (by rw [cx, e1]) (wpAny_Try_except (wpAny_execs_cons (wpAny_Expr_any (wpAny_mono hE (fun u s1 z => ?_) fun _ _ z => z.elim) hint (mO h4 _ _ _))))
  revert z; refine oEA fun ρ1 t1 r1 => ?_
  exact wpAny_execs_nil (wpAny_execs_nil ⟨ρ1, t1.weaken fun _ _ z => z.elim, p.2.1.tr t1, trivial⟩)
 | exc H1 =>
  rw [e1] at hE
  refine Does.ok (a:= (Fl.ret (.bool bv), l)) (H':= H1) (by rw [cx, e1]; rfl) (wpAny_Try_except (wpAny_execs_cons (wpAny_Expr_any (wpAny_mono hE (fun u s1 z => z.elim) fun e s1 z => ?_) hint (mO h4 _ _ _))))
  revert z; refine oEA fun ρ1 t1 x1 => ?_
  refine mM p.2.2 t1 F x1 fun s2 t2 x2 => rJ (fo:= none) p.2.2 t2 x2 fun s3 t3 x3 => ?_
  have p3:= p.tr t3
  revert x3; refine xY fun a oe vs a0 Tb oT => tN fun ts t17 e2 e3 e4 e5 => tD fun e6 e7 f1 f2 f3 f4 f5 f6 f7 => ?_; obtain rfl:= t17
  refine wpAny_handleBy_cons (codeAny_handlers_test (qO p3.2.2 (by rw [p3.1]; exact h2) p3.2.1 g1 g7 aJ _ _ ?_)) (by intro q; contradiction)
  have key : ∀ {Q : Bool -> Shared -> Prop} {E : Value -> Shared -> Prop}, Q true s3 -> wpAny (model prog w) (A.mark (some (.ref a))) (excMatches (.ref a) (.ref B.bad)) Q E s3:= fun hq => by
   obtain ⟨h', gn', d', t', os'⟩:= s3
   exact wpAny_excMatches_sub_self (p3.2.2.bk _ _ c1) e3 e4 c2 hq
  refine key (codeAny_handlers_suite ?_)
  refine rJ (fo:= none) p.2.2 t3 ⟨a, oe, vs, a0, Tb, oT, ts, rfl, e2, e3, e4, e5, e6, e7, f1, f2, f3, f4, f5, f6, f7⟩ fun s4 t4 x4 => ?_
  exact wpAny_execs_cons (wpAny_Return_some (wpAny_Constant_bool ⟨ρ1, t4.weaken fun _ _ z => z.elim, p.2.1.tr t4, rfl⟩))
end
theorem qU {α β : Type} {f g : α -> Option β} : ∀ {l : List α}, (∀ a ∈ l, f a = g a) -> l.filterMap f = l.filterMap g
 | [], _ => rfl
 | a :: l, h => by
  rw [List.filterMap_cons, List.filterMap_cons, h a (.head _), qU fun b hb => h b (.tail _ hb)]
theorem nK : ∀ {ns : List Str} {vals : List Value}, ns.Nodup -> vals.length = ns.length -> ns.filterMap (fun n => ((ns.zip vals).lookup n).map (n, ·)) = ns.zip vals
 | [], _, _, _ => by simp
 | n :: ns, [], _, h => by simp at h
 | n :: ns, v :: vals, hn, hl => by
  have hn':= List.nodup_cons.mp hn
  rw [List.filterMap_cons]
  simp only [List.zip_cons_cons, List.lookup_cons, BEq.rfl, Option.map_some]
  congr 1
  refine Eq.trans (qU fun m hm => ?_) (nK hn'.2 (by simpa using hl))
  have : (m == n) = false:= beq_eq_false_iff_ne.mpr fun e => hn'.1 (e ▸ hm)
  rw [this]
theorem gF : ∀ {ns : List Str} {vals : List Value}, vals.length = ns.length -> ∀ n ∈ ns, ((ns.zip vals).lookup n).isNone = false
 | n :: ns, [], h, _, _ => by simp at h
 | n :: ns, v :: vals, hl, m, hm => by
  simp only [List.zip_cons_cons, List.lookup_cons]
  cases q : m == n with
  | true => rfl
  | false =>
   refine oO (fun e => ?_) (fun hm => ?_) (List.mem_cons.mp hm)
   ·
    rw [e] at q; simp at q
   ·
    exact gF (by simpa using hl) m hm
theorem lD {fd : FuncData} {as : List Arg} {vals : List Value} (hp : fd.params = ⟨[], as, Option.none, [], [], Option.none, []⟩) (hd : fd.defaults = .none) (hl : vals.length = as.length) (hn : (as.map (·.arg)).Nodup) :
  bindArgs fd ⟨vals, []⟩ = pure ((as.map (·.arg)).zip vals):= by
 have h1 : vals.length = (as.map (·.arg)).length:= by simpa using hl
 have h2:= nK hn h1
 have h3:= gF h1
 have h4 : ((as.map (·.arg)).take ((as.map (·.arg)).length - 0)).filter (fun n => (((as.map (·.arg)).zip vals).lookup n).isNone) = []:= by
  rw [List.filter_eq_nil_iff]
  intro n hm
  rw [h3 n (List.mem_of_mem_take hm)]; simp
 have h5 : ¬ (vals.length > (as.map (·.arg)).length):= by rw [h1]; exact Nat.lt_irrefl _
 have e1 : seqItems? Value.none = (pure Option.none : Sem (Option (Array Value))):= rfl
 have e2 : (#[] : Array Value).toList = []:= rfl
 unfold bindArgs
 simp only [hp, hd, e1, List.map_nil, List.nil_append, List.append_nil, List.forIn_nil, pure_bind, Option.getD_none, e2, List.length_nil, List.drop_nil, List.zip_nil_right, h4, List.isEmpty_nil, h2, Bool.not_true, Bool.false_eq_true, if_false, Option.isNone_none, Bool.and_true, decide_eq_true_eq, h5]
structure AOk (A : Around) (fr : List Addr) (k : Nat) : Prop where
 handled : A.handled = none
 units : A.units + 8 * k + 256 < cLine
 depth : A.depth + 2 * k + 16 < recursionLimit
 frames : ∃ l, A.frames = some l /\ ∀ x ∈ l, x.scope.kind ≠ .module /\ ∃ L, x.frame = some L /\ L ∈ fr
structure DefOk (B : Base) (f : Nat) (fn : Fn) : Prop where
 it : ∃ a o fd body, B.fn f = some a /\ B.hp.get? a = some o /\ o.cls = .type "function" /\ o.data = .func fd /\ B.hp.NoLimit /\ B.hp.CodeRec fd.code fd.qualname /\ fd.body = .stmts body /\ fd.closure = [] /\ fd.globals = mainGlobals /\ fd.builtins = builtinsNs /\ fd.defaults = .none /\
  rz fn fd.params body fd.scope = true /\ fn.ps.Nodup
theorem lE {kindOf : Str -> Option NameKind} {z : Str} : ∀ {binds : List (Str × Value)} {m : Str -> Option Value}, (binds.map (·.1)).Nodup -> kindOf z = some .local -> bindL kindOf binds m z = match binds.lookup z with
  | some v => some v
  | none => m z
 | [], m, _, _ => rfl
 | (n, v) :: r, m, hn, hk => by
  have hn':= List.nodup_cons.mp hn
  unfold bindL
  rw [lE hn'.2 hk, List.lookup_cons]
  cases q : z == n with
  | true =>
   have e : z = n:= beq_iff_eq.mp q
   subst e
   have : r.lookup z = none:= by
    cases w : r.lookup z with
    | none => rfl
    | some u => exact absurd (List.mem_map.mpr ⟨_, mem_of_lookup w, rfl⟩) hn'.1
   rw [this, if_pos hk]
   simp
  | false =>
   have e : z ≠ n:= fun e => by rw [e] at q; simp at q
   cases r.lookup z with
   | some u => rfl
   | none =>
    dsimp only
    split
    ·
     exact if_neg e
    ·
     rfl
theorem eR {kindOf : Str -> Option NameKind} {z : Str} : ∀ {binds : List (Str × Value)} {m : Str -> Option Value}, (binds.map (·.1)).Nodup -> kindOf z ≠ some .local -> bindC kindOf binds m z = match binds.lookup z with
  | some v => some v
  | none => m z
 | [], m, _, _ => rfl
 | (n, v) :: r, m, hn, hk => by
  have hn':= List.nodup_cons.mp hn
  unfold bindC
  rw [eR hn'.2 hk, List.lookup_cons]
  cases q : z == n with
  | true =>
   have e : z = n:= beq_iff_eq.mp q
   subst e
   have : r.lookup z = none:= by
    cases w : r.lookup z with
    | none => rfl
    | some u => exact absurd (List.mem_map.mpr ⟨_, mem_of_lookup w, rfl⟩) hn'.1
   rw [this, if_neg hk]
   simp
  | false =>
   have e : z ≠ n:= fun e => by rw [e] at q; simp at q
   cases r.lookup z with
   | some u => rfl
   | none =>
    dsimp only
    split
    ·
     rfl
    ·
     exact if_neg e
theorem kX {ρ : Adr} : ∀ {ps : List Nat} {vs : List V} {bs : List Value}, (∀ p ∈ ps, p < nmS.length) -> vs.length = ps.length -> RVs ρ vs bs -> ∀ {i : Nat}, i < nmS.length -> ORel ρ (get i (ps.zip vs)) (((ps.map nm).zip bs).lookup (nm i))
 | [], [], [], _, _, _, _, _ => trivial
 | p :: ps, v :: vs, b :: bs, hp, hl, r, i, hi => by
  simp only [List.zip_cons_cons, List.map_cons, List.lookup_cons, get]
  by_cases e : i = p
  ·
   subst e
   have : (Nat.beq i i) = true:= Nat.beq_refl i
   simp only [this, cond_true, BEq.rfl]
   exact r.1
  ·
   have e1 : Nat.beq p i = false:= by
    cases q : Nat.beq p i with
    | false => rfl
    | true => exact absurd (Nat.eq_of_beq_eq_true q).symm e
   have e2 : (nm i == nm p) = false:= beq_eq_false_iff_ne.mpr fun q => e (tO hi (hp p (.head _)) q)
   rw [e1, e2]
   simp only [cond_false]
   exact kX (fun q hq => hp q (.tail _ hq)) (by simpa using hl) r.2 hi
 | [], _ :: _, _, _, h, _, _, _ => by simp at h
 | _ :: _, [], _, _, h, _, _, _ => by simp at h
 | [], [], _ :: _, _, _, r, _, _ => r.elim
 | _ :: _, _ :: _, [], _, _, r, _, _ => r.elim
theorem aI {fn : Fn} {a : Arguments} {body : List Stmt} {sc : Scope} (h : rz fn a body sc = true) : ∃ as, a = ⟨[], as, Option.none, [], [], Option.none, []⟩ /\ as.map (·.arg) = fn.ps.map nm /\ (∀ p ∈ fn.ps, p < nmS.length) /\
  rW fn.body (fun x => sc.names.lookup x) body = true /\ sc.kind = .function /\ sc.isGenerator = false /\ sc.isCoroutine = false /\ (∀ p ∈ sc.names, p.2 = .local \/ (p.2 = .cell /\ p.1 ∈ nmS) \/ p.2 = .globalImplicit) /\ (∀ i ∈ fn.ps, wI (sc.names.lookup (nm i)) = true):= by
 have h1:= bL (bL (bL (bL (bL (bL (bL h))))))
 revert h1
 intro h1
 apply gJ (e:= a) h1
 intro as h1
 refine ⟨as, rfl, dTr (bL h1), fun p hp => Nat.le_of_ble_eq_true (List.all_eq_true.mp (bR h1) p hp), bR (bL (bL (bL (bL (bL (bL h)))))), dTr (bR (bL (bL (bL (bL (bL h)))))), bN (bR (bL (bL (bL (bL h))))), bN (bR (bL (bL (bL h)))), fun p hp => ?_, fun i hi => List.all_eq_true.mp (bR h) i hi⟩
 have z:= List.all_eq_true.mp (bR (bL (bL h))) p hp
 obtain ⟨n, k⟩:= p
 cases k <;> first | exact .inl rfl | exact .inr (.inr rfl) | (exact .inr (.inl ⟨rfl, by simpa using z⟩)) | exact ff z
section
variable {prog : Program} {w : World} {B : Base} {A : Around} {fr : List Addr} {L : Addr} {W : Addr -> Prop} {s s' s1 s2 : Shared} {ρ ρ' ρ2 : Adr} {H H' H2 : Hp} {env : Env} {e : Value}
theorem Tr.out {L' : Addr} (k : ∀ b o, s.heap.get? b = some o -> s1.heap.get? b = some o) (hL : s.heap.get? L' = none) (hO : ∀ b, Own env b -> s.heap.get? b = none) (g : s1.gens = s.gens) (d : s1.drawn = s.drawn) (os : s1.os = s.os)
  (t : Tr B (L' :: fr) (Own env) s1 s2 ρ ρ2 H H2) : Tr B fr zE s s2 ρ ρ2 H H2:= by
 have kn : ∀ b, s1.heap.get? b = none -> s.heap.get? b = none:= fun b hb => by
  cases q : s.heap.get? b with
  | none => rfl
  | some o => rw [k b o q] at hb; contradiction
 refine ⟨t.ext, fun b o e hf _ => ?_, fun b hb => (t.foot b hb).imp id (kn b), fun b hb => kn b (t.dom b hb), ?_, t.gens.trans g, t.drawn.trans d, t.os.trans os⟩
 ·
  have z:= t.keep b o (k b o e) hf fun q => by rw [hO b q] at e; contradiction
  have hbL : b ≠ L':= fun q => by rw [q, hL] at e; contradiction
  exact ⟨fun hb => z.1 fun q => by refine oO (fun q => ?_) (fun q => ?_) (List.mem_cons.mp q); exact hbL q; exact hb q, fun hb => z.2 (.tail _ hb)⟩
 ·
  have x:= t.st
  exact ⟨x.bk, x.len, x.rep, x.apart, x.mb, x.im, fun L hL => x.frs L (.tail _ hL), x.ini⟩
end
section
variable {prog : Program} {w : World} {B : Base} {A : Around} {fr : List Addr} {L : Addr} {W : Addr -> Prop} {s s' s1 s2 : Shared} {ρ ρ' ρ2 : Adr} {H H' H2 : Hp} {env : Env} {e : Value} {T : Tab} {call : Call}
theorem pe (X : qA B) (G : GlobOk T B) (BO : BadOk B) (RO : sH prog w B A fr) (F : mz prog w B A fr L call) (N : aK prog w B A fr L T call) (hh : A.handled = none) (hu : A.units + 64 < cLine) :
  ∀ m : MS, PS prog w B A fr L T call m /\ PSs prog w B A fr L T call m:= by
 have hex:= rd X G F N hh hu
 have noS : ∀ {m : MS}, (∀ K ss, rW m K ss = false) -> PSs prog w B A fr L T call m:= fun h K ss hc => by rw [h] at hc; contradiction
 intro m
 induction m with
 | nil => exact ⟨fun K st hc => ff hc, Ss_nil⟩
 | seq a b ia ib => exact ⟨fun K st hc => ff hc, Ss_seq ia.1 ib.2⟩
 | assign x e => exact ⟨my hex hh, noS fun _ _ => rfl⟩
 | unpack xs e => exact ⟨mu hh (hex e).1, noS fun _ _ => rfl⟩
 | setattr o a e => exact ⟨cu X (hex o).1 (hex e).1, noS fun _ _ => rfl⟩
 | setsub o i e => exact ⟨mv (hex o).1 (hex i).1 (hex e).1, noS fun _ _ => rfl⟩
 | augloc x op e => exact ⟨mx (hex e).1, noS fun _ _ => rfl⟩
 | augattr o a op e => exact ⟨cv X (hex o).1 (hex e).1, noS fun _ _ => rfl⟩
 | augsub o i op e => exact ⟨mw (hex o).1 (hex i).1 (hex e).1, noS fun _ _ => rfl⟩
 | expr e => exact ⟨S_expr (hex e).1, noS fun _ _ => rfl⟩
 | ite c a b ia ib => exact ⟨S_ite (hex c).2.1 ia.2 ib.2, noS fun _ _ => rfl⟩
 | «for» x it b ib => exact ⟨S_for hh (hex it).1 ib.2, noS fun _ _ => rfl⟩
 | «while» c b ib => exact ⟨tw (hex c).2.1 ib.2, noS fun _ _ => rfl⟩
 | ret e => exact ⟨S_ret (hex e).1, noS fun _ _ => rfl⟩
 | cont => exact ⟨S_cont, noS fun _ _ => rfl⟩
 | raise e => exact ⟨tx G BO RO hh (hex e).1, noS fun _ _ => rfl⟩
 | «try» e b ib => exact ⟨S_try G BO hh (hex e).1, noS fun _ _ => rfl⟩
theorem lk {fn : Fn} {fd : FuncData} {body : List Stmt} {a : Addr} {vs : List V} {bs : List Value} (x : St B fr ρ H s.heap) (hch : rz fn fd.params body fd.scope = true) (hnd : fn.ps.Nodup) (hg : fd.globals = mainGlobals) (hb : fd.builtins = builtinsNs)
  (hl : vs.length = fn.ps.length) (r : RVs ρ vs bs)
  (I : InCallC s (callEnvC fd s.heap.objs.size a).locals (bindL (callEnvC fd s.heap.objs.size a).kindOf ((fn.ps.map nm).zip bs) fun _ => none) (callEnvC fd s.heap.objs.size a).cells
    (bindC (callEnvC fd s.heap.objs.size a).kindOf ((fn.ps.map nm).zip bs) fun _ => none) s1) :
  Pre B (s.heap.objs.size :: fr) (callEnvC fd s.heap.objs.size a) (fun x => fd.scope.names.lookup x) (fn.ps.zip vs) ρ H s1 /\ ∀ b, Own (callEnvC fd s.heap.objs.size a) b -> s.heap.get? b = none:= by
 refine fl (aI hch) <| tN fun as c1 c2 c3 c4 c5 => yW fun c6 c7 c8 c9 => ?_
 have keep:= I.toInCall.keep
 have fresh : ∀ c, s.heap.objs.size <= c -> s.heap.get? c = none:= fun c hc => by
  cases z : s.heap.get? c with
  | none => rfl
  | some o => exact absurd (Nat.lt_of_le_of_lt hc (Heap.lt_size z)) (Nat.lt_irrefl _)
 have bnone : ∀ c, s.heap.get? c = none -> B.hp.get? c = none:= fun c h => by
  cases q : B.hp.get? c with
  | none => rfl
  | some o => rw [x.bk c o q] at h; contradiction
 have hL:= fresh s.heap.objs.size (Nat.le_refl _)
 have hce : (callEnvC fd s.heap.objs.size a).cells = cellsFrom (s.heap.objs.size + 1) fd.scope.names []:= rfl
 have habove : ∀ n c, (callEnvC fd s.heap.objs.size a).cells.lookup n = some c -> s.heap.get? c = none:= fun n c h => fresh c (Nat.le_of_lt (I.above n c (mem_of_lookup h)))
 have hnd' : (((fn.ps.map nm).zip bs).map (·.1)).Nodup:= by
  have e1 : ((fn.ps.map nm).zip bs).map (·.1) = fn.ps.map nm:= by
   rw [List.map_fst_zip]
   rw [List.length_map, r.length, hl]
   exact Nat.le_refl _
  rw [e1]
  refine List.Pairwise.map nm (R:= fun a b => a ≠ b /\ a ∈ fn.ps /\ b ∈ fn.ps) (fun a b h e => h.1 (tO (c3 a h.2.1) (c3 b h.2.2) e)) ?_
  exact (List.pairwise_iff_forall_sublist.mpr fun {a b} hab => ⟨(List.pairwise_iff_forall_sublist.mp hnd hab), hab.subset (by simp), hab.subset (by simp)⟩)
 have st1 : St B (s.heap.objs.size :: fr) ρ H s1.heap:= by
  have t:= xT (W:= zE) (s':= s1) x keep (by refine oEE (fun h₁ tk t02 => ?_) I.toInCall.same; obtain rfl:= t02; rfl) (by refine oEE (fun h₁ tk t02 => ?_) I.toInCall.same; obtain rfl:= t02; rfl) (by refine oEE (fun h₁ tk t02 => ?_) I.toInCall.same; obtain rfl:= t02; rfl)
  have y:= t.st
  refine ⟨y.bk, y.len, y.rep, y.apart, y.mb, y.im, fun L hL' => ?_, y.ini⟩
  rcases List.mem_cons.mp hL' with rfl | hL'
  ·
   refine jN (fun o es ep ho hd _ => ?_) I.toInCall.ns
   exact ⟨⟨o, ho, fun vs q => by rw [hd] at q; contradiction⟩, bnone _ hL, (vR x hL).1⟩
  ·
   exact y.frs L hL'
 have kk : ∀ z, (callEnvC fd s.heap.objs.size a).kindOf z = fd.scope.names.lookup z:= fun _ => rfl
 refine ⟨⟨kk, ⟨c5, hg, hb, ⟨_, I.toInCall.ns, fun i hi hk => ?_⟩, (vR x hL).1, bnone _ hL, fun i hi hk => ?_, fun i j c hi hj h1 h2 => ?_⟩, st1⟩, fun b hb => ?_⟩
 ·
  rw [lE hnd' hk]
  have z:= kX c3 hl r hi
  cases q : ((fn.ps.map nm).zip bs).lookup (nm i) with
  | some v => rw [q] at z; exact z
  | none => rw [q] at z; exact z
 ·
  have hcell : fd.scope.names.lookup (nm i) = some .cell:= by
   revert hk; refine oO (fun hk => ?_) fun hk => ?_
   ·
    exact hk
   ·
    exfalso
    have z:= c8 _ (mem_of_lookup hk)
    rcases z with z | ⟨z, _⟩ | z <;> contradiction
  refine xG (fun c g1 g2 _ => ?_) (tI fd.scope.names (s.heap.push { cls:= .none, data:= .dict #[] }) [] ⟨(nm i, .cell), mem_of_lookup hcell, rfl, rfl⟩)
  rw [Heap.size_push] at g1 g2
  have hc0:= fresh c (Nat.le_trans (Nat.le_succ _) g2)
  refine ⟨c, _, g1, I.cell _ _ g1, ?_, (vR x hc0).1, bnone _ hc0⟩
  rw [eR hnd' (by rw [kk, hcell]; simp)]
  have z:= kX c3 hl r hi
  cases q : ((fn.ps.map nm).zip bs).lookup (nm i) with
  | some v => rw [q] at z; exact z
  | none => rw [q] at z; exact z
 ·
  exact tO hi hj (name_of_addr I.apart (mem_of_lookup h1) (mem_of_lookup h2))
 ·
  rcases hb with rfl | ⟨i, hi, hk, hb⟩
  ·
   exact hL
  ·
   exact habove _ _ hb
end
section
variable {prog : Program} {w : World} {B : Base} {A : Around} {fr : List Addr} {L : Addr} {W : Addr -> Prop} {s s' s1 s2 : Shared} {ρ ρ' ρ2 : Adr} {H H' H2 : Hp} {env : Env} {e : Value} {call : Call}
structure AOk1 (A : Around) (fr : List Addr) (k : Nat) : Prop where
 ok : AOk A fr k
 units : A.units + 5 + 8 * k + 256 < cLine
 depth : A.depth + 1 + 2 * k + 16 < recursionLimit
theorem ct {k : Nat} {C : Addr} {rest : List Value} (h : AOk1 A fr k) : AOk (A.under (.builtin "type.__call__" ⟨.ref C :: rest, []⟩)) fr k := by
 have h1:= h.units
 have h2:= h.depth
 have hw : (Code.builtin "type.__call__" ⟨.ref C :: rest, []⟩).weight = 1 := by rfl
 have hu : (Code.builtin "type.__call__" ⟨.ref C :: rest, []⟩).cUnits = 1 := by rfl
 refine ⟨h.ok.handled, ?_, ?_, h.ok.frames⟩
 ·
  show A.units + (Code.builtin "type.__call__" ⟨.ref C :: rest, []⟩).cUnits + 8 * k + 256 < cLine
  rw [hu]; lia
 ·
  show A.depth + (Code.builtin "type.__call__" ⟨.ref C :: rest, []⟩).weight + 2 * k + 16 < recursionLimit
  rw [hw]; exact h2
theorem cQ {k : Nat} {fd : FuncData} {a L : Addr} (h : AOk A fr (k + 1)) (hk : fd.scope.kind = .function) : AOk1 (A.deeper (callEnvC fd L a)) (L :: fr) k /\ FrI (A.deeper (callEnvC fd L a)) (L :: fr) (callEnvC fd L a) L:= by
 refine oEA (fun l hl hf => ?_) h.frames
 have h1:= h.units
 have h2:= h.depth
 have hd : (A.deeper (callEnvC fd L a)).frames = some (callEnvC fd L a :: l):= Around.frames_deeper hl
 have hall : ∀ x ∈ callEnvC fd L a :: l, x.scope.kind ≠ .module /\ ∃ L', x.frame = some L' /\ L' ∈ L :: fr:= fun x hx => by
  rcases List.mem_cons.mp hx with rfl | hx
  ·
   refine ⟨?_, L, rfl, .head _⟩
   show fd.scope.kind ≠ .module
   rw [hk]; simp
  ·
   refine oAEA (fun g1 L' g2 g3 => ?_) (hf x hx)
   exact ⟨g1, L', g2, .tail _ g3⟩
 refine ⟨⟨⟨h.handled, ?_, ?_, ⟨_, hd, hall⟩⟩, ?_, ?_⟩, ⟨l, hd, hall⟩, rfl⟩
 ·
  show A.units + 3 + 8 * k + 256 < cLine
  lia
 ·
  show A.depth + 1 + 2 * k + 16 < recursionLimit
  lia
 ·
  show A.units + 3 + 5 + 8 * k + 256 < cLine
  lia
 ·
  show A.depth + 1 + 1 + 2 * k + 16 < recursionLimit
  lia
theorem sb {n k : Nat} {f : Nat} {fn : Fn} (D : DefOk B f fn) (hf : xI f tab.fns = some fn) (hA : AOk A fr (k + 1))
  (body_ok : ∀ (A' : Around) (fr' : List Addr) (L' : Addr), AOk1 A' fr' k -> ∀ m, PSs prog w B A' fr' L' tab (run tab n) m) :
  ∃ a, B.fn f = some a /\ (∃ o fd, B.hp.get? a = some o /\ o.data = .func fd) /\
   ∀ vs bs s ρ H, St B fr ρ H s.heap -> RVs ρ vs bs -> Does prog w B A fr L zE (PySem.call (.ref a) bs) s ρ H (run tab (n + 1) f vs) relV:= by
 refine fl D.it <| vS fun a o fd body d1 d2 => fB fun d2' d3 d4 d5 d6 d7 d8 d9 d10 d11 d12 => ?_
 refine ⟨a, d1, ⟨o, fd, d2, d3⟩, fun vs bs s ρ H x r => ?_⟩
 cases hlb : Nat.beq fn.ps.length vs.length with
 | false => exact Does.fail (by simp only [run, hf, hlb, cond_false]; rfl)
 | true =>
 have hl : vs.length = fn.ps.length:= (Nat.eq_of_beq_eq_true hlb).symm
 have e0 : run tab (n + 1) f vs = bnd (exec tab (run tab n) fn.body (fn.ps.zip vs)) fun p => match p.1 with
   | .ret v => ret v
   | _ => ret .none:= by simp only [run, hf, hlb, cond_true] <;> rfl
 rw [e0]
 refine fl (aI d11) <| tN fun as c1 c2 c3 c4 c5 => yW fun c6 c7 c8 c9 => ?_
 have hbind : bindArgs fd ⟨bs, []⟩ = pure ((fn.ps.map nm).zip bs):= by
  rw [<- c2]
  refine lD c1 d10 ?_ ?_
  ·
   rw [r.length, hl]
   have:= congrArg List.length c2
   simpa using this.symm
  ·
   rw [c2]
   refine List.Pairwise.map nm (R:= fun a b => a ≠ b /\ a ∈ fn.ps /\ b ∈ fn.ps) (fun a b h e => h.1 (tO (c3 a h.2.1) (c3 b h.2.2) e)) ?_
   exact (List.pairwise_iff_forall_sublist.mpr fun {a b} hab => ⟨(List.pairwise_iff_forall_sublist.mp d12 hab), hab.subset (by simp), hab.subset (by simp)⟩)
 have hkind : ∀ y ∈ (fn.ps.map nm).zip bs, fd.scope.names.lookup y.1 = some .local \/ (fd.scope.names.lookup y.1 = some .cell /\ ((cellsFrom (s.heap.objs.size + 1) fd.scope.names []).lookup y.1).isSome = true):= fun y hy => by
  refine oEA (fun i hi e => ?_) (List.mem_map.mp (List.of_mem_zip hy).1)
  rw [<- e]
  refine oO (fun z => ?_) (fun z => ?_) (tS (c9 i hi))
  ·
   exact .inl z
  ·
   refine .inr ⟨z, ?_⟩
   refine oEA (fun c g1 _ => ?_) (tI fd.scope.names (s.heap.push { cls:= .none, data:= .dict #[] }) [] ⟨(nm i, .cell), mem_of_lookup z, rfl, rfl⟩)
   rw [Heap.size_push] at g1
   rw [g1]; rfl
 have ao:= cQ (fd:= fd) (a:= a) (L:= s.heap.objs.size) hA c5
 have hL : s.heap.get? s.heap.objs.size = none:= yM _
 have base : ∀ {Q : Value -> Shared -> Prop} {E : Value -> Shared -> Prop}, (∀ s₁, Pre B (s.heap.objs.size :: fr) (callEnvC fd s.heap.objs.size a) (fun x => fd.scope.names.lookup x) (fn.ps.zip vs) ρ H s₁ -> (∀ b, Own (callEnvC fd s.heap.objs.size a) b -> s.heap.get? b = none) ->
   (∀ b o, s.heap.get? b = some o -> s₁.heap.get? b = some o) -> s₁.gens = s.gens -> s₁.drawn = s.drawn -> s₁.os = s.os ->
   wpAny (model prog w) (A.deeper (callEnvC fd s.heap.objs.size a)) (execs body (callEnvC fd s.heap.objs.size a)) (fun f s' => Q (match f with | .ret v => v | _ => .none) s')
    (fun e s' => wpAny (model prog w) (A.deeper (callEnvC fd s.heap.objs.size a)) (leaving (callEnvC fd s.heap.objs.size a) e) (fun _ s'' => E e s'') (fun e' s'' => E e' s'') s') s₁) ->
   wpAny (model prog w) A (PySem.call (.ref a) bs) Q E s:= by
  intro Q E z
  refine wpAny_call (codeAny_call_cells (by have:= hA.depth; lia) (x.bk _ _ d2) d3 (d4.keeps x.bk) (d5.keeps x.bk) d6 hbind d7 hkind (fun s₁ I => ?_) c7 c6 c5)
  have ce:= lk x d11 d12 d8 d9 hl r I
  refine oEE (fun h₁ tk e => ?_) I.toInCall.same
  exact z s₁ ce.1 ce.2 I.toInCall.keep (by rw [e]) (by rw [e]) (by rw [e])
 have main:= fun s₁ p => body_ok _ _ s.heap.objs.size ao.1 fn.body (fun x => fd.scope.names.lookup x) body c4 (callEnvC fd s.heap.objs.size a) (fn.ps.zip vs) s₁ ρ H p ao.2
 unfold Does at main
 cases em : exec tab (run tab n) fn.body (fn.ps.zip vs) H with
 | fail => exact Does.fail (by simp only [bnd, em])
 | exc H1 =>
  refine Does.exc (H':= H1) (by simp only [bnd, em]) (base fun s1 p1 hO kp g d os => ?_)
  have m:= main s1 p1
  rw [em] at m
  refine wpAny_mono m (fun _ _ z => z.elim) fun e s2 z => ?_
  revert z; refine oEA fun ρ2 t2 x2 => ?_
  refine dU p1.2.2 t2 ao.2 x2 fun s3 t3 x3 => ?_
  have t0 : Tr B fr zE s s1 ρ ρ H H:= xT x kp g d os
  exact ⟨ρ2, Tr.out kp hL hO g d os t3, (XT.flying x3).back t0⟩
 | ok q H1 =>
  obtain ⟨fl, l1⟩:= q
  have e1 : ∃ v, (bnd (exec tab (run tab n) fn.body (fn.ps.zip vs)) fun p => match p.1 with
   | .ret v => ret v
   | _ => ret .none) H = .ok v H1 /\ ∀ f u ρ2 s2, rN B (callEnvC fd s.heap.objs.size a) ρ2 H1 (fl, l1) f s2 -> (match f with | .ret v => v | _ => Value.none) = u -> RV ρ2 v u:= by
   cases fl with
   | ret v =>
    refine ⟨v, by simp only [bnd, em]; rfl, fun f u ρ2 s2 rf e => ?_⟩
    cases f with
    | ret u' => subst e; exact rf.2
    | _ => exact rf.2.elim
   | next =>
    refine ⟨.none, by simp only [bnd, em]; rfl, fun f u ρ2 s2 rf e => ?_⟩
    cases f with
    | next => exact e.symm
    | _ => exact rf.2.elim
   | cont =>
    refine ⟨.none, by simp only [bnd, em]; rfl, fun f u ρ2 s2 rf e => ?_⟩
    cases f with
    | cont => exact e.symm
    | _ => exact rf.2.elim
  revert e1; refine oEA fun v e1 e2 => ?_
  refine Does.ok e1 (base fun s1 p1 hO kp g d os => ?_)
  have m:= main s1 p1
  rw [em] at m
  refine wpAny_mono m (fun f s2 z => ?_) fun _ _ z => z.elim
  revert z; refine oEA fun ρ2 t2 r2 => ?_
  exact ⟨ρ2, Tr.out kp hL hO g d os t2, e2 f _ ρ2 s2 r2 rfl⟩
end
structure NewFn (B : Base) (c : Nat) (f : Nat) : Prop where
 it : ∃ C fI, B.cls c = some C /\ B.fn f = some fI /\ ClassOk B C fI
section
variable {prog : Program} {w : World} {B : Base} {A : Around} {fr : List Addr} {L : Addr} {W : Addr -> Prop} {s s' s1 s2 : Shared} {ρ ρ' ρ2 : Adr} {H H' H2 : Hp} {env : Env} {e : Value} {call : Call}
theorem new_ok {k : Nat} (hA : AOk1 A fr k) (hN : ∀ c f, xI c tab.inits = some f -> NewFn B c f /\ (xI f tab.fns).isSome = true) (hF : ∀ C rest, mz prog w B (A.under (.builtin "type.__call__" ⟨.ref C :: rest, []⟩)) fr L call) : aK prog w B A fr L tab call := by
 intro c hc
 refine oE (fun f hf => ?_) (Option.isSome_iff_exists.mp hc)
 refine oA (fun t00 hfs => ?_) (hN c f hf); obtain ⟨C, fI, b1, b2, b3⟩:= t00
 refine ⟨C, fI, b1, b3, fun vs bs s ρ H x r => ?_⟩
 refine fl b3.it <| xY fun nam q N bs' sn sub => xY fun col dd k0 k1 k2 k3 => yN fun k5 mN c1 c2 c3 c4 => tC fun c5 c6 oI c7 c8 => ?_
 have e0 : bT tab call c vs = bnd (zX (.ins c [])) fun o => bnd (call f (o :: vs)) fun r => match r with
   | .none => ret o
   | _ => bad:= by simp only [bT, hf] <;> rfl
 rw [e0]
 refine xG (fun fI' f1 f2 f3 => ?_) (hF C bs f hfs)
 obtain rfl:= s2 b2 f1
 have key : ∀ {Q : Value -> Shared -> Prop} {E : Value -> Shared -> Prop}, (∀ (h' : Heap) (y dx : Addr), Heap.MadeObj s.heap h' y dx C ->
   wpAny (model prog w) (A.under (.builtin "type.__call__" ⟨.ref C :: bs, []⟩)) (PySem.call (.ref fI) (.ref y :: bs)) (fun r s' => r = .none /\ Q (.ref y) s') E ⟨h', s.gens, s.drawn, s.toks, s.os⟩) ->
   wpAny (model prog w) A (PySem.call (.ref C) bs) Q E s:= by
  intro Q E z
  obtain ⟨h, g, d, t, os⟩:= s
  exact wpAny_call_obj_init PySem.F.objNew (x.bk _ _ c1) (c2.keeps x.bk) c6 (x.bk _ _ c7) c8 z
 have ha : zX (.ins c []) H = .ok (.ref H.length) (H ++ [.ins c []]):= rfl
 have made : ∀ {h' : Heap} {y dx : Addr}, Heap.MadeObj s.heap h' y dx C -> Tr B fr zE s ⟨h', s.gens, s.drawn, s.toks, s.os⟩ ρ (ρ ++ [(y, dx)]) H (H ++ [.ins c []]) /\ RV (ρ ++ [(y, dx)]) (.ref H.length) (.ref y):= by
  intro h' y dx m
  refine ⟨qI x m.keeps m.newX m.newD ⟨C, fun _ => none, b1, m.inst, m.dict, ?_, fun i hi => ?_⟩ rfl rfl rfl, ⟨(y, dx), ?_, rfl⟩⟩
  ·
   exact fun _ h => absurd rfl h
  ·
   show ORel _ (get i []) none
   trivial
  ·
   rw [List.getElem?_append_right (by rw [x.len]; exact Nat.le_refl _)]
   simp [x.len]
 have call2:= fun (h' : Heap) (y dx : Addr) (m : Heap.MadeObj s.heap h' y dx C) => f3 (.ref H.length :: vs) (.ref y :: bs) ⟨h', s.gens, s.drawn, s.toks, s.os⟩ (ρ ++ [(y, dx)]) (H ++ [.ins c []]) (made m).1.st ⟨(made m).2, r.mono (made m).1.ext⟩
 unfold Does at call2
 cases ec : call f (.ref H.length :: vs) (H ++ [.ins c []]) with
 | fail => exact Does.fail (by simp only [bnd, ha, ec])
 | exc H1 =>
  refine Does.exc (H':= H1) (by simp only [bnd, ha, ec]) (key fun h' y dx m => ?_)
  have z:= call2 h' y dx m
  rw [ec] at z
  refine wpAny_mono z (fun _ _ q => q.elim) fun e s2 q => ?_
  revert q; refine oEA fun ρ2 t2 x2 => ?_
  exact ⟨ρ2, (made m).1.trans t2, x2.back (made m).1⟩
 | ok v H1 =>
  cases v with
  | none =>
   refine Does.ok (a:= .ref H.length) (H':= H1) (by simp only [bnd, ha, ec]; rfl) (key fun h' y dx m => ?_)
   have z:= call2 h' y dx m
   rw [ec] at z
   refine wpAny_mono z (fun u s2 q => ?_) fun _ _ q => q.elim
   revert q; refine oEA fun ρ2 t2 r2 => ?_
   exact ⟨r2, ρ2, (made m).1.trans t2, (made m).2.mono t2.ext⟩
  | _ => exact Does.fail (by simp only [bnd, ha, ec]; rfl)
theorem fn_ok (X : qA B) (G : GlobOk tab B) (BO : BadOk B) (RO : ∀ A fr, AOk A fr 0 -> sH prog w B A fr) (hD : ∀ f fn, xI f tab.fns = some fn -> DefOk B f fn) (hN : ∀ c f, xI c tab.inits = some f -> NewFn B c f /\ (xI f tab.fns).isSome = true) :
  ∀ n (A : Around) (fr : List Addr) (L : Addr), AOk A fr n -> mz prog w B A fr L (run tab n):= by
 intro n
 induction n with
 | zero =>
  intro A fr L hA f hf
  refine oE (fun fn hfn => ?_) (Option.isSome_iff_exists.mp hf)
  refine fl ((hD f fn hfn).it) <| vS fun a o fd body d1 d2 => oAA fun d2' d3 _ => ?_
  exact ⟨a, d1, ⟨o, fd, d2, d3⟩, fun vs bs s ρ H x r => Does.fail rfl⟩
 | succ n ih =>
  intro A fr L hA f hf
  refine oE (fun fn hfn => ?_) (Option.isSome_iff_exists.mp hf)
  refine sb (k:= n) (hD f fn hfn) hfn hA fun A' fr' L' hA' m => ?_
  have h0 : AOk A' fr' 0:= ⟨hA'.ok.handled, by have:= hA'.units; lia, by have:= hA'.depth; lia, hA'.ok.frames⟩
  exact (pe X G BO (RO A' fr' h0) (ih A' fr' L' hA'.ok) (new_ok hA' hN fun C rest => ih _ fr' L' (ct hA')) hA'.ok.handled (by have:= hA'.units; lia) m).2
end
noncomputable abbrev bmE : List Value := [.type "Exception", .type "BaseException", .type "object"]
noncomputable abbrev XF:= PySem.F.excBase_Exception
set_option genInjectivity false in
structure XD where
 nm : Str
 q : Str
 N : Addr
 bs : List Value
 hd : Bool
 sn : List Str
 sub : List Value
 ab : Bool
 col : Option Bool
 dd : Option Addr
 k0 : Option Value
 k1 : Option Value
 k2 : Option Value
 k3 : Option Value
 k5 : Option Value
 nid : String
noncomputable abbrev sZ (x : XD) (C CE : Addr) : Obj := excClassObj x.nm x.q C x.N x.bs (.ref CE :: bmE) true x.sn x.sub x.ab x.col x.dd x.k0 x.k1 x.k2 x.k3 x.k5 "Exception.__new__"
noncomputable abbrev midObj (x : XD) (CE : Addr) : Obj:= excClassObj x.nm x.q CE x.N x.bs bmE x.hd x.sn x.sub x.ab x.col x.dd x.k0 x.k1 x.k2 x.k3 x.k5 x.nid
structure Two (h : Heap) (C CE : Addr) (xc yc : XD) (mN mE : Str -> Option Value) : Prop where
 c : h.get? C = some (sZ xc C CE)
 n : h.Ns xc.N mN
 e : h.get? CE = some (midObj yc CE)
 ne : h.Ns yc.N mE
theorem Two.keeps {h h' : Heap} {C CE : Addr} {xc yc : XD} {mN mE : Str -> Option Value} (T : Two h C CE xc yc mN mE) (k : ∀ b o, h.get? b = some o -> h'.get? b = some o) : Two h' C CE xc yc mN mE :=
 ⟨k _ _ T.c, T.n.keeps k, k _ _ T.e, T.ne.keeps k⟩
section
variable {M : Model} {A : Around} {E : Value -> Shared -> Prop} {h : Heap} {g : Array GenState} {d : Drawn} {t : Nat} {os : OsState}
variable {C CE : Addr} {xc yc : XD}
variable {mN mE : Str -> Option Value}
theorem rV : (Value.ref C :: .ref CE :: bmE).contains (.type "Exception") = true := by
 rw [List.contains_cons, List.contains_cons]; simp only [bmE, List.contains_cons, BEq.rfl, Bool.true_or, Bool.or_true]
theorem bQ {X : String} (h : bmE.contains (.type X) = false) : (Value.ref C :: .ref CE :: bmE).contains (.type X) = false:= by
 rw [List.contains_cons, List.contains_cons, h]; rfl
theorem eA {X : String} (h : bmE.contains (.type X) = true) : (Value.ref C :: .ref CE :: bmE).contains (.type X) = true:= by
 rw [List.contains_cons, List.contains_cons, h, Bool.or_true, Bool.or_true]
theorem jw {name : Str} {y : Option Value} {Q : Option Value -> Shared -> Prop} (T : Two h C CE xc yc mN mE) (hB : typeLookup (.type "Exception") name = pure y)
  (hq : Q (match mN name with | some v => some v | none => match mE name with | some v => some v | none => y) ⟨h, g, d, t, os⟩) : wpAny M A (typeLookup (.ref C) name) Q E ⟨h, g, d, t, os⟩:= by
 have hC:= T.c
 have hrest : lookupAlong bmE name = pure y:= by rw [typeLookup_eq, XF.mroIs] at hB; exact hB
 rw [typeLookup_eq]
 refine wpAny_bind (wpAny_mroOf_exc hC ?_)
 rw [lookupAlong_cons]
 refine wpAny_bind (wpAny_classOwn_exc hC T.n ?_)
 cases hv : mN name with
 | some v => rw [hv] at hq; exact wpAny_pure hq
 | none =>
  rw [hv] at hq
  dsimp only at hq ⊢
  rw [lookupAlong_cons]
  refine wpAny_bind (wpAny_classOwn_exc T.e T.ne ?_)
  cases hv' : mE name with
  | some v => rw [hv'] at hq; exact wpAny_pure hq
  | none => rw [hv'] at hq; dsimp only at hq ⊢; rw [hrest]; exact wpAny_pure hq
theorem cE {rest : List Value} {Q : Unit -> Shared -> Prop} (hC : h.get? C = some (sZ xc C CE))
  (hq : Q () ⟨h, g, d, t, os⟩) : wpAny M A (checkBuiltinCall "Exception.__new__" ⟨.ref C :: rest, []⟩) Q E ⟨h, g, d, t, os⟩ := by
 have hcont:= rV (C:= C) (CE:= CE)
 have hstar:= XF.noStar
 simp only [checkBuiltinCall, XF.newKind, XF.newSplit, XF.newRow]
 repeat (first | refine wpAny_loadPart_at hC ?_ | (refine wpAny_isSubtype_exc hC ?_; rw [hcont]) | refine wpAny_staticBase_exc hC ?_ | refine wpAny_madeBy_exc hC ?_ | simp only [bne_self_eq_false, Bool.false_eq_true, if_false] | wp_step)
 exact hq
theorem eM {e : Addr} {oe : Obj} {rest : List Value} {Q : Unit -> Shared -> Prop}
  (hC : h.get? C = some (sZ xc C CE)) (he : h.get? e = some oe) (hcls : oe.cls = .ref C) (hq : Q () ⟨h, g, d, t, os⟩) :
  wpAny M A (checkBuiltinCall "Exception.__init__" ⟨.ref e :: rest, []⟩) Q E ⟨h, g, d, t, os⟩ := by
 have hcont:= rV (C:= C) (CE:= CE)
 have hstar:= XF.noStar
 simp only [checkBuiltinCall, XF.initKind, XF.initSplit, XF.initRow]
 repeat (first | (with_reducible refine wpAny_loadPart_at he ?_; rw [hcls]) | with_reducible refine wpAny_loadPart_at hC ?_ | (with_reducible refine wpAny_isSubtype_exc hC ?_; rw [hcont]) | wp_step)
 refine wpAny_onRaise ?_
 rw [show ∀ (a b : String) (n : Nat), Bind.check ⟨.positional, "*", "Exception", .self, [⟨"args", .varPos, false⟩]⟩ a b n (List.map (fun x => x.fst) ({ pos := Value.ref e :: rest } : Args).kw) = pure () from
  fun a b n => check_star_args _ _ _ _ _ _]
 exact wpAny_pure hq
end
section
variable {prog : Program} {w : World} {A : Around} {E : Value -> Shared -> Prop} {R : Result -> Shared -> Prop} {h : Heap} {g : Array GenState} {d : Drawn} {t : Nat} {os : OsState}
variable {C CE : Addr} {xc yc : XD}
variable {mN mE : Str -> Option Value}
theorem bl {rest : List Value} (hC : h.get? C = some (sZ xc C CE))
  (hq : R (.ok (.ret (.ref (h.objs.size + 1)))) ⟨(h.push { cls := .type "tuple", data := .seq rest.toArray }).push
   { cls:= .ref C, data:= .fields #[.ref h.objs.size, .none, .none, .none, .bool false, .none] }, g, d, t, os⟩) (hrest : rest.length <= sizeLine) :
  codeAny (model prog w) A (.builtin "Exception.__new__" ⟨.ref C :: rest, []⟩) R ⟨h, g, d, t, os⟩ := by
 have hends:= XF.ends
 have hcB := eA (C := C) (CE := CE) (X := "Exception") XF.hasB
 have hcA := bQ (C := C) (CE := CE) (X := "AttributeError") XF.noAttr
 have hcN := bQ (C := C) (CE := CE) (X := "NameError") XF.noName
 refine codeAny_builtinAt XF.entry ?_
 unfold Builtin.«BaseException.__new__»
 refine PySem.wpAt_bind ?_
 show PySem.wpAt _ _ _ (stack >>= _) _ _ _
 refine PySem.wpAt_bind (PySem.wpAt_stack fun p below => PySem.wpAt_of_wpAny ?_)
 wp_walk
 refine PySem.wpAt_of_wpAny ?_
 rw [XF.owner]
 repeat (first | with_reducible refine wpAny_madeHere_exc XF.canon hC ?_ | with_reducible refine wpAny_loadPart_at hC ?_ | (with_reducible refine wpAny_isSubtype_exc hC ?_; first | rw [hcB] | rw [hcA] | rw [hcN]) | wp_step)
 show R _ _
 rw [Heap.size_push]
 exact hq
theorem dB {rest : List Value} {fI : Addr} {oI : Obj} {Q : Fin -> Shared -> Prop}
  (T : Two h C CE xc yc mN mE) (hi : mN "__init__" = some (.ref fI))
  (hfI : h.get? fI = some oI) (hfc : oI.cls = .type "function")
  (hq : ∀ h' e, Heap.MadeExcOf h h' e (.ref C) rest ->
   wpAny (model prog w) A (call (.ref fI) (.ref e :: rest)) (fun r s' => r = .none /\ Q (.done (.ret (.ref e))) s') E ⟨h', g, d, t, os⟩) (hrest : rest.length <= sizeLine) :
  wpAny (model prog w) A (Builtin.«type.__call__» ⟨.ref C :: rest, []⟩) Q E ⟨h, g, d, t, os⟩:= by
 have hC:= T.c
 repeat (first | with_reducible refine wpAny_loadPart_at hC ?_ | with_reducible refine wpAny_madeBy_exc hC ?_ | wp_step)
 refine codeAny_call_builtin_code (Code.quiet_builtin _ XF.quiet) (cE hC ?_)
 refine bl hC ?_ hrest
 show wpAny _ _ _ _ _ _
 have up:= fun (b : Addr) (o : Obj) (e : h.get? b = some o) => Heap.get?_push_of_some { cls:= .ref C, data:= .fields #[.ref h.objs.size, .none, .none, .none, .bool false, .none] }
  (Heap.get?_push_of_some { cls := .type "tuple", data := .seq rest.toArray } e)
 have hC₁:= up _ _ hC
 have hfI₁:= up _ _ hfI
 have hget : ((h.push { cls := .type "tuple", data := .seq rest.toArray }).push
   { cls:= .ref C, data:= .fields #[.ref h.objs.size, .none, .none, .none, .bool false, .none] }).get? (h.objs.size + 1) = some
   { cls:= .ref C, data:= .fields #[.ref h.objs.size, .none, .none, .none, .bool false, .none] }:= by heap_get
 have hcC : (Value.ref C :: Value.ref CE :: bmE).contains (.ref C) = true:= by simp
 unfold isInstance
 repeat (first | with_reducible refine wpAny_loadPart_at hget ?_ | (with_reducible refine wpAny_isSubtype_exc hC₁ ?_; rw [hcC]) | wp_step)
 show wpAny _ _ (typeLookup (.ref C) _) _ _ _
 refine jw (T.keeps up) XF.init.lookup ?_
 rw [hi]
 refine wpAny_holding (wpAny_bind ?_)
 unfold bindSpecial
 refine wpAny_bind (wpAny_typeOf (T := "function") ⟨_, hfI₁, hfc⟩ ?_)
 rw [if_pos (by decide)]
 refine wpAny_pure (wpAny_bind (wpAny_mono (hq _ (h.objs.size + 1) ⟨up, Heap.get?_none_of_le (Nat.le_succ _), h.objs.size, hget, Heap.get?_none_of_le (Nat.le_refl _), ?_⟩) (fun r s' hr => ?_) fun _ _ x => x))
 ·
  exact Heap.get?_push_of_some _ (Heap.get?_push_at rfl rfl)
 ·
  revert hr; refine oA fun t00 hQ => ?_; obtain rfl:= t00
  wp_walk
  exact hQ
theorem call2 {rest : List Value} {fI : Addr} {oI : Obj} {Q : Value -> Shared -> Prop}
  (T : Two h C CE xc yc mN mE) (hi : mN "__init__" = some (.ref fI))
  (hfI : h.get? fI = some oI) (hfc : oI.cls = .type "function")
  (hq : ∀ h' e, Heap.MadeExcOf h h' e (.ref C) rest ->
   wpAny (model prog w) (A.under (.builtin "type.__call__" ⟨.ref C :: rest, []⟩)) (call (.ref fI) (.ref e :: rest)) (fun r s' => r = .none /\ Q (.ref e) s') E ⟨h', g, d, t, os⟩) (hrest : rest.length <= sizeLine) :
  wpAny (model prog w) A (call (.ref C) rest) Q E ⟨h, g, d, t, os⟩:= by
 have hC:= T.c
 have f1:= tc_lookup
 have f2:= tc_bind (.ref C)
 have hT : (⟨h, g, d, t, os⟩ : Shared).TypeIs (.ref C) "type" := ⟨_, hC, rfl⟩
 refine wpAny_call (codeAny_of_tree ?_)
 show wpAny _ _ (callAny (.ref C) _) _ _ _
 repeat (any_goals (first | assumption | with_reducible refine wpAny_loadPart_at hC ?_ | wp_step))
 refine ⟨rfl, ?_⟩
 refine codeAny_call_builtin_at (Code.quiet_builtin _ (by decide +kernel)) entry_typeCall (wpAny_check_type_call_sub hC (dB T hi hfI hfc (fun h' e hm => ?_) hrest))
 exact hq h' e hm
theorem init2 {e : Addr} {ob : Obj} {vs : Array Value} {t0 : Addr} {rest : List Value} {Q : Value -> Shared -> Prop}
  (hC : h.get? C = some (sZ xc C CE)) (he : h.get? e = some ob) (hcls : ob.cls = .ref C) (hd : ob.data = .fields vs) (h0 : vs[0]? = some (.ref t0)) (hrest : rest.length <= sizeLine)
  (hq : Q .none ⟨(h.push { cls := .type "tuple", data := .seq rest.toArray }).update e (Obj.mapFields (·.setIfInBounds 0 (.ref h.objs.size))), g, d, t, os⟩) :
  wpAny (model prog w) A (call (.builtin "Exception.__init__") (.ref e :: rest)) Q E ⟨h, g, d, t, os⟩ := by
 refine wpAny_call (codeAny_call_builtin XF.init.plain XF.initEntry (eM hC he hcls ?_))
 unfold Builtin.«BaseException.__init__»
 dsimp only
 rw [if_neg (by simp)]
 unfold newTuple Builtin.BaseException.bexcPut
 have hsz : 0 < vs.size:= (Array.getElem?_eq_some_iff.mp h0).1
 have he₁ := Heap.get?_push_of_some (h := h) { cls := .type "tuple", data := .seq rest.toArray } he
 refine wpAny_bind (wpAny_newObj_type (wpAny_bind (wpAny_bind (wpAny_field he₁ hd h0 (wpAny_bind (wpAny_setField he₁ hd hsz ?_))))) (by show rest.toArray.size <= sizeLine; rw [List.size_toArray]; exact hrest))
 exact wpAny_letGo (wpAny_pure hq)
end
end Mine.Internal
end
section
open PySem PySem.W PyProof.Rows PySem.Calls
open Builtin Builtin.ObjectAttr
namespace Mine.Internal
noncomputable abbrev XS:= PySem.F.store_Exception
section
variable {prog : Program} {w : World} {A : Around} {E : Value -> Shared -> Prop} {h : Heap} {g : Array GenState} {d : Drawn} {t : Nat} {os : OsState}
variable {C CE x : Addr} {xc yc : XD}
variable {mN mE mA : Str -> Option Value} {name : Str} {v : Value}
noncomputable def mt (h h' : Heap) (x C : Addr) (mA : Str -> Option Value) (name : Str) (v : Value) : Prop :=
 h'.Inst x C (fun y => if y = name then some v else mA y) /\
 (∀ b o, b ≠ x -> (∀ o₀ dx, h.get? x = some o₀ -> o₀.dict = some dx -> b ≠ dx) -> h.get? b = some o -> h'.get? b = some o) /\
 (∀ o₀, h.get? x = some o₀ -> ∃ o₁, h'.get? x = some o₁ /\ o₁.cls = o₀.cls /\ o₁.data = o₀.data) /\
 (∀ o₀ o₁ dx, h.get? x = some o₀ -> o₀.dict = none -> h'.get? x = some o₁ -> o₁.dict = some dx -> h.get? dx = none)
theorem aa {M : Model} {o : Obj} {nameV : Value} {Q : Unit -> Shared -> Prop}
  (hC : h.get? C = some (sZ xc C CE)) (hx : h.get? x = some o) (hc : o.cls = .ref C) (hq : Q () ⟨h, g, d, t, os⟩) :
  wpAny M A (checkBuiltinCall "object.__setattr__" ⟨[.ref x, nameV, v], []⟩) Q E ⟨h, g, d, t, os⟩ := by
 have hcB := eA (C := C) (CE := CE) (X := "object") XS.hasOwner
 simp only [checkBuiltinCall, XS.kind, XS.split]
 refine wpAny_bind ?_
 ·
  unfold isInstance
  repeat (first | (with_reducible refine wpAny_loadPart_at hx ?_; rw [hc]) | (with_reducible refine wpAny_isSubtype_exc hC ?_; rw [hcB]) | wp_step)
  exact hq
theorem aZ {tk : Tok} {Q : Fin -> Shared -> Prop} {ns : List Str}
  (T : Two h C CE xc yc mN mE) (hna : mN name = none)
   (hne' : mE name = none)
  (hB : typeLookup (.type "Exception") name = pure none) (I : h.Inst x C mA)
  (hq : ∀ h' tk', mt h h' x C mA name v -> Q (.done (.ret .none)) ⟨h', g, d, tk', os⟩) (hw : Within mA ns) (hsz : ns.length <= sizeLine - 1) (hz1 : 1 <= sizeLine:= by decide) :
  wpAny (model prog w) A (Builtin.«object.__setattr__» ⟨[.ref x, .str name tk, v], []⟩) Q E ⟨h, g, d, t, os⟩:= by
 have hC:= T.c
 revert I; refine vO fun o hx hc hnc hd => ?_
 have hpass : refuseLoop (.ref x) "__setattr__" (.ref C :: .ref CE :: bmE) = pure () := by
  rw [refuseLoop_ref, refuseLoop_ref]; exact XS.passes (.ref x)
 have look : ∀ {Q : Option Value -> Shared -> Prop}, Q none ⟨h, g, d, t, os⟩ -> wpAny (model prog w) A (typeLookup (.ref C) name) Q E ⟨h, g, d, t, os⟩:= fun hq =>
  jw T hB (by rw [hna, hne']; exact hq)
 unfold Builtin.«object.__setattr__»
 repeat (first | rw [refuse_eq] | rw [hpass] | (with_reducible refine wpAny_loadPart_at hx ?_; rw [hc]) | with_reducible refine wpAny_mroOf_exc hC ?_ | with_reducible refine look ?_ | wp_step)
 rcases hd with ⟨hdn, hmA⟩ | ⟨dx, hdx, hne, hns⟩
 ·
  rw [hdn, if_neg (by simp [typeHasDict])]
  split
  ·
   rename_i hcd
   contradiction
  split
  ·
   rename_i c hcd
   exact absurd hcd (hnc c)
  ·
   have hx₁ : (h.push { cls := .type "dict", data := .dict #[] }).get? x = some o := Heap.get?_push_of_some _ hx
   have hxs : x ≠ h.objs.size:= Nat.ne_of_lt (Heap.lt_size hx)
   refine wpAny_bind (wpAny_alloc' ?_)
   refine wpAny_bind (wpAny_update' hx₁ ?_)
   refine wpAny_pure ?_
   have hgd : ((h.push { cls := .type "dict", data := .dict #[] }).update x fun o => { cls := o.cls, dict := some h.objs.size, data := o.data, slots := o.slots }).get? h.objs.size
     = some { cls := .type "dict", data := .dict #[] } :=
    (Heap.get?_update_ne _ _ _ _ hxs.symm).trans (Heap.get?_push_at rfl rfl)
   have hnd : ((h.push { cls := .type "dict", data := .dict #[] }).update x fun o => { cls := o.cls, dict := some h.objs.size, data := o.data, slots := o.slots }).Ns h.objs.size (fun _ => none) :=
    ⟨_, #[], _, hgd, rfl, fun e he => absurd he (by simp), fun _ => rfl⟩
   show wpAny _ _ (storeInDict h.objs.size (.str name tk) name v) _ _ _
   unfold storeInDict newKeyGuard
   refine wpAny_bind (wpAny_pure (wpAny_bind (wpAny_nsSet1 (Heap.Ns1.of_empty hnd) fun h' hn' hs => ?_)))
   refine jN (fun oD esD epD hoD hdD hcD => ?_) (hn'.count (Within.cons name v Within.nil))
   refine wpAny_bind (wpAny_lookBehind hoD (by rw [hdD]; exact pastItsLine_dict (Nat.le_trans hcD (by rw [List.length_cons, List.length_nil, sizeLine_eq]; exact yB hz1 rfl))) ?_)
   wp_walk
   have hx' : h'.get? x = some { cls:= o.cls, dict:= some h.objs.size, data:= o.data, slots:= o.slots }:= ?_
   refine hq h' _ ⟨⟨{ cls:= o.cls, dict:= some h.objs.size, data:= o.data, slots:= o.slots }, hx', hc, hnc, .inr ⟨h.objs.size, rfl, hxs.symm, ?_⟩⟩, (fun b ob hbx _ hb => ?_),
    (fun o₀ h₀ => by obtain rfl : o = o₀:= Option.some.inj (hx.symm.trans h₀); exact ⟨_, hx', rfl, rfl⟩),
    (fun o₀ o₁ dx _ _ h₁ e₁ => by obtain rfl:= s2 hx' h₁; obtain rfl:= si e₁; exact yM _)⟩
   ·
    revert hn'; refine xZ fun o' es ep e1 e2 e3 => oA fun eu e4 => ?_
    exact ⟨o', es, ep, e1, e2, e3, eu, fun y => by rw [e4 y]; by_cases hy : y = name <;> simp [hy, hmA]⟩
   ·
    exact (hs.2 b (Nat.ne_of_lt (Heap.lt_size hb))).trans ((Heap.get?_update_ne _ _ _ _ hbx).trans (Heap.get?_push_of_some _ hb))
   ·
    refine (hs.2 x hxs).trans (Heap.get?_update_self _ hx₁ ?_)
    have hfr:= (Heap.get?_some_iff.mp hx).2
    obtain ⟨oc, od, odt, osl⟩:= o
    cases odt <;> first | rfl | exact hfr
 ·
  rw [hdx]
  refine wpAny_pure ?_
  show wpAny _ _ (storeInDict dx (.str name tk) name v) _ _ _
  unfold storeInDict newKeyGuard
  refine wpAny_bind (wpAny_pure (wpAny_bind (wpAny_nsSet1 hns fun h' hn' hs => ?_)))
  refine jN (fun oD esD epD hoD hdD hcD => ?_) (hn'.count (Within.cons name v hw))
  refine wpAny_bind (wpAny_lookBehind hoD (by rw [hdD]; exact pastItsLine_dict (Nat.le_trans hcD (by rw [List.length_cons]; exact yB (cM hsz) rfl))) ?_)
  wp_walk
  refine hq h' _ ⟨⟨o, (hs.2 x hne.symm).trans hx, hc, hnc, .inr ⟨dx, hdx, hne, hn'⟩⟩, (fun b ob _ hbd hb => ?_),
   (fun o₀ h₀ => ⟨o₀, (hs.2 x hne.symm).trans h₀, rfl, rfl⟩), (fun o₀ o₁ dx' h₀ e₀ _ _ => by obtain rfl:= s2 hx h₀; rw [hdx] at e₀; contradiction)⟩
  exact (hs.2 b (hbd o dx hx hdx)).trans hb
theorem fy {Q : Unit -> Shared -> Prop} {ns : List Str}
  (T : Two h C CE xc yc mN mE) (hns : mN "__setattr__" = none) (hna : mN name = none)
   (hes : mE "__setattr__" = none) (hne' : mE name = none)
  (hB : typeLookup (.type "Exception") name = pure none) (I : h.Inst x C mA)
  (hq : ∀ h' tk', mt h h' x C mA name v -> Q () ⟨h', g, d, tk', os⟩) (hw : Within mA ns) (hsz : ns.length <= sizeLine - 1) :
  wpAny (model prog w) A (setAttr (.ref x) name v) Q E ⟨h, g, d, t, os⟩:= by
 have hC:= T.c
 refine xG (fun o hx hc _ => ?_) (id I)
 have f3:= XS.slot.bind (.ref x)
 have look : ∀ {t : Nat} {Q : Option Value -> Shared -> Prop}, Q (some (.builtin "object.__setattr__")) ⟨h, g, d, t, os⟩ -> wpAny (model prog w) A (typeLookup (.ref C) "__setattr__") Q E ⟨h, g, d, t, os⟩ := fun hq =>
  jw T XS.slot.lookup (by rw [hns, hes]; exact hq)
 unfold setAttr callSpecial? specialOf
 repeat (any_goals (first | assumption | (with_reducible refine wpAny_loadPart_at hx ?_; rw [hc]) | with_reducible refine look ?_ | wp_step))
 refine codeAny_call_builtin XS.slot.plain XS.entry (aa hC hx hc (aZ T hna hne' hB I (fun h' tk' S => ?_) hw hsz))
 repeat (any_goals (first | assumption | wp_step))
 exact hq h' tk' S
end
end Mine.Internal
end
section
open PySem PySem.W PyProof.Rows PySem.Calls
namespace Mine.Internal
theorem kl {names : List Str} {cn an vn : Str} {a : Arguments} {body : List Stmt} {sc : Scope} (h : aA names cn an vn a body sc = true) :
  ∃ as p1 ap p3 p4 p p6 p7 p8 p9 p10, a = ⟨[], as, Option.none, [], [], Option.none, []⟩ /\ as.map (·.arg) = names /\
   body = [.Expr (.Call (.Attribute (.Name cn p1) "__init__" ap) [.Name "self" p3, .Name "text" p4] [] p) p6, .Assign [.Attribute (.Name "self" p7) an p8] (.Name vn p9) p10] /\ ap.endLine = p.line /\
   sc.kind = .function /\ sc.isGenerator = false /\ sc.isCoroutine = false /\ (∀ n ∈ names, sc.names.lookup n = some .local) /\ sc.names.lookup cn = some .globalImplicit:= by
 have h1:= bL (bL (bL (bL (bL (bL h)))))
 have h2:= bR (bL (bL (bL (bL (bL h)))))
 apply gJ (e:= a) h1
 intro as h1
 apply fh (e:= body) h2
 intro s1 s2 h2
 apply nS (e:= s1) h2
 intro e p6 h2
 apply vF (e:= e) h2
 intro f es ks p h2
 apply vG (e:= f) h2
 intro c i ap h2
 apply yF (e:= c) h2
 intro c p1 h2
 apply fh (e:= es) h2
 intro x y h2
 apply yF (e:= x) h2
 intro x p3 h2
 apply yF (e:= y) h2
 intro y p4 h2
 apply wE (e:= ks) h2
 intro h2
 apply uB (e:= s2) h2
 intro ts v p10' h2
 apply vN (e:= ts) h2
 intro t h2
 apply vG (e:= t) h2
 intro z b p8 h2
 apply yF (e:= z) h2
 intro z p7 h2
 apply yF (e:= v) h2
 intro v p9 h2
 obtain rfl:= dTr (bL (bL (bL (bL (bL (bL (bL h2)))))))
 obtain rfl:= dTr (bR (bL (bL (bL (bL (bL (bL h2)))))))
 obtain rfl:= dTr (bR (bL (bL (bL (bL (bL h2))))))
 obtain rfl:= dTr (bR (bL (bL (bL (bL h2)))))
 obtain rfl:= dTr (bR (bL (bL (bL h2))))
 obtain rfl:= dTr (bR (bL (bL h2)))
 obtain rfl:= dTr (bR (bL h2))
 exact ⟨as, p1, ap, p3, p4, p, p6, p7, p8, p9, p10', rfl, dTr h1, rfl, beq_iff_eq.mp (bR h2), dTr (bR (bL (bL (bL (bL h))))), bN (bR (bL (bL (bL h)))), bN (bR (bL (bL h))), fun n hn => beq_iff_eq.mp (List.all_eq_true.mp (bR (bL h)) n hn), beq_iff_eq.mp (bR h)⟩
section
variable {prog : Program} {w : World} {A : Around} {E : Value -> Shared -> Prop} {s : Shared} {env : Env}
theorem ju {K : Frag} {C : Addr} {v : Value} {name : Str} {pl : Sem Bool} {Q : Value × List Value -> Shared -> Prop} (X : K.In s.heap) (hr : readsIn K C (.type "type") = true)
  (hg : specialIn K (.ref C) "__getattribute__" = some (some (.builtin "type.__getattribute__"))) (e : findCls K (.ref C) (.type "type") name = some (.val v)) (hh : handedIn v = true)
  (h : Q (v, []) { s with toks:= s.toks + 1 }) : wpAny (model prog w) A (getMethod (.ref C) name pl) Q E s :=
 method_cls X hg (cls_value X hr e hh h)
theorem jt {pl : Sem Bool} {Q : Value × List Value -> Shared -> Prop} (h : Q (.builtin "Exception.__init__", []) { s with toks := s.toks + 1 }) :
  wpAny (model prog w) A (getMethod (.type "Exception") "__init__" pl) Q E s := by
 have X : Frag.In [] s.heap:= fun a o e => by contradiction
 have hs : Manifest.isStub "Exception" = false := by decide +kernel
 have hstub : opaqueClassAbove (.type "Exception") = pure none := by unfold opaqueClassAbove; dsimp only; rw [hs]; rfl
 have L0 : Looks (model prog w) s.heap (typeOf (.type "Exception")) (.type "type") := Looks.of_pure (by kernel_rfl)
 have hg : findIn [] (.type "type") "__getattribute__" = some (some (.builtin "type.__getattribute__")) := type_tga
 unfold getMethod specialOf
 refine wpAny_bind (wpAny_bind (L0.here ((looks_findIn X hg).here ?_)))
 dsimp only
 rw [if_pos canon_tga]
 refine wpAny_bind (wpAny_mono (Q:= fun v => Q (v, [])) (E:= E) ?_ (fun _ _ z => wpAny_pure z) fun _ _ z => z)
 have LO : Looks (model prog w) s.heap (opaqueClassAbove (.type "Exception")) none := Looks.of_pure hstub
 refine cls_open X LO L0 hg (looks_hook X (r := none) (by rfl)) (by show subIn [] _ _ = _; decide +kernel) (r := .val (.builtin "Exception.__init__")) (by kernel_rfl)
  (wpAny_pure (by show wpAny _ _ (handedOut _) _ _ _; rw [handedOut_of rfl]; exact wpAny_pure h))
end
section
variable {prog : Program} {w : World} {A : Around} {E : Value -> Shared -> Prop} {s : Shared} {env : Env}
theorem az {cn an vn : Str} {p1 ap p3 p4 p p6 p7 p8 p9 p10 : Pos} {m : Str -> Option Value} {sv tv vv bv fv : Value} {Q : Flow -> Shared -> Prop} (hp : ap.endLine = p.line)
  (hk : env.scope.kind = .function) (k1 : env.kindOf "self" = some .local) (k2 : env.kindOf "text" = some .local) (k3 : env.kindOf vn = some .local) (hd : (vn == ("__debug__" : Str)) = false)
  (hn : s.heap.Ns env.locals m) (m1 : m "self" = some sv) (m2 : m "text" = some tv) (m3 : m vn = some vv)
  (hb : ∀ (Q : Value -> Shared -> Prop) (E : Value -> Shared -> Prop), Q bv s -> wpAny (model prog w) A (PySem.eval (.Name cn p1) env) Q E s)
  (hm : ∀ (pl : Sem Bool) (Q : Value × List Value -> Shared -> Prop) (E : Value -> Shared -> Prop), Q (fv, []) { s with toks := s.toks + 1 } -> wpAny (model prog w) A (getMethod bv "__init__" pl) Q E s)
  (hkeep : ∀ (s' : Shared) (E : Value -> Shared -> Prop) (Q : Keeper -> Shared -> Prop), s'.heap = s.heap -> (Q .machine s' /\ Q .frame s') -> wpAny (model prog w) A (keeperOf fv) Q E s')
  (hc : wpAny (model prog w) A (PySem.call fv [sv, tv]) (fun _ s2 => s2.heap.Ns env.locals m /\ wpAny (model prog w) A (setAttr sv an vv) (fun _ s3 => Q .next s3) E s2) E { s with toks:= s.toks + 1 }) :
  wpAny (model prog w) A (execs [.Expr (.Call (.Attribute (.Name cn p1) "__init__" ap) [.Name "self" p3, .Name "text" p4] [] p) p6, .Assign [.Attribute (.Name "self" p7) an p8] (.Name vn p9) p10] env) Q E s := by
 have hint : interactive env = false:= by unfold interactive; rw [hk]; rfl
 have args : ∀ q : Pos, backTo q (starEach [.Name "self" p3, .Name "text" p4] env) = [(false, PySem.eval (.Name "self" p3) env), (false, PySem.eval (.Name "text" p4) env)] := fun q => rfl
 refine wpAny_execs_cons (wpAny_Expr_any ?_ hint (mO (v := .Call (.Attribute (.Name cn p1) "__init__" ap) [.Name "self" p3, .Name "text" p4] [] p) rfl _ _ _))
 show wpAny (model prog w) A (do
   let ov <- attributeBase (.Name cn p1) "__init__" env (PySem.eval (.Name cn p1) env)
   standAt ap.atName
   methodCall (.Name cn p1) "__init__" ap p env ov 2 (backTo p (starEach [.Name "self" p3, .Name "text" p4] env)) []) _ E s
 rw [hY rfl]
 refine wpAny_bind (hb _ _ (wpAny_bind (wpAny_standAt ?_)))
 have hform : methodCallForm 2 (backTo p (starEach [.Name "self" p3, .Name "text" p4] env)) [] = true := rfl
 have hpos : methodCallPos true (.Name cn p1) env ap p = pure p:= by
  unfold methodCallPos
  simp [hp]
 unfold methodCall
 refine wpAny_bind (wpAny_holding ?_)
 rw [hform]
 unfold calleeOf
 simp only [if_true]
 refine hm _ _ _ ?_
 rw [hpos]
 refine wpAny_bind (wpAny_pure ?_)
 rw [args]
 refine jT (by intro t ht; rcases List.mem_cons.mp ht with rfl | ht; rfl; rcases List.mem_cons.mp ht with rfl | ht; rfl; cases ht) ?_
 refine spliced_cons (wpAny_Name (wpAny_loadName_local hk k1 hn m1 ?_))
 refine spliced_cons (wpAny_Name (wpAny_loadName_local hk k2 hn m2 ?_))
 refine spliced_nil ⟨fun Q' hq => hkeep _ _ _ rfl hq, ?_⟩
 refine wpAny_mono hc (fun r s2 h2 => ?_) fun _ _ z => z
 revert h2; refine oA fun n2 h2 => ?_
 refine wpAny_execs_cons (wpAny_Assign_stores (wpAny_Name (wpAny_loadName_local hk k3 n2 m3 ?_) hd) (show swapsWithSole [_] (.Name vn p9) _ env = pure false from rfl) (tE (.inl rfl) rfl env))
 show wpAny _ _ (do
   let ov <- holding [vv] (PySem.eval (.Name "self" p7) env)
   standAt p8.atName
   holding [vv, ov] (setAttr ov an vv)
   release [vv, ov] []) _ _ _
 refine wpAny_bind (wpAny_holding (wpAny_Name (wpAny_loadName_local hk k1 n2 m1 (wpAny_bind (wpAny_standAt (wpAny_bind (wpAny_holding (wpAny_mono h2 (fun _ s3 h3 => wpAny_release ?_) fun _ _ z => z))))))))
 exact wpAny_execs_nil h3
theorem kJ {names : List Str} {cn an vn : Str} {a : Addr} {o : Obj} {fd : FuncData} {body : List Stmt} {vals : List Value} {sv tv vv bv fv : Value} {Q : Value -> Shared -> Prop}
  (hroom : A.depth < recursionLimit) (ho : s.heap.get? a = some o) (hd : o.data = .func fd) (hlim : s.heap.NoLimit) (hcd : s.heap.CodeRec fd.code fd.qualname) (hbody : fd.body = .stmts body)
  (hclo : fd.closure = []) (hdf : fd.defaults = .none) (hF : aA names cn an vn fd.params body fd.scope = true) (hnd : names.Nodup) (hvd : (vn == ("__debug__" : Str)) = false) (hcn : (cn == ("__debug__" : Str)) = false)
  (hl : vals.length = names.length) (m1 : (names.zip vals).lookup ("self" : Str) = some sv) (m2 : (names.zip vals).lookup ("text" : Str) = some tv) (m3 : (names.zip vals).lookup vn = some vv)
  (hnm : ("self" : Str) ∈ names /\ ("text" : Str) ∈ names /\ vn ∈ names)
  (hb : ∀ (env : Env) (s₁ : Shared) (p1 : Pos) (A' : Around) (Q : Value -> Shared -> Prop) (E : Value -> Shared -> Prop), env.scope.kind = .function -> env.kindOf cn = some .globalImplicit -> env.globals = fd.globals -> env.builtins = fd.builtins ->
   (∀ b o, s.heap.get? b = some o -> s₁.heap.get? b = some o) -> Q bv s₁ -> wpAny (model prog w) A' (PySem.eval (.Name cn p1) env) Q E s₁)
  (hm : ∀ (s₁ : Shared) (A' : Around) (pl : Sem Bool) (Q : Value × List Value -> Shared -> Prop) (E : Value -> Shared -> Prop), (∀ b o, s.heap.get? b = some o -> s₁.heap.get? b = some o) ->
   Q (fv, []) { s₁ with toks := s₁.toks + 1 } -> wpAny (model prog w) A' (getMethod bv "__init__" pl) Q E s₁)
  (hkeep : ∀ (s' : Shared) (A' : Around) (E : Value -> Shared -> Prop) (Q : Keeper -> Shared -> Prop), (∀ b o, s.heap.get? b = some o -> s'.heap.get? b = some o) -> (Q .machine s' /\ Q .frame s') -> wpAny (model prog w) A' (keeperOf fv) Q E s')
  (hc : ∀ (s₁ : Shared) (env : Env) (m : Str -> Option Value) (E' : Value -> Shared -> Prop), (∀ b o, s.heap.get? b = some o -> s₁.heap.get? b = some o) -> s₁.gens = s.gens -> s₁.drawn = s.drawn -> s₁.os = s.os -> s.heap.get? env.locals = none -> s₁.heap.Ns env.locals m ->
   wpAny (model prog w) (A.deeper env) (PySem.call fv [sv, tv]) (fun _ s2 => s2.heap.Ns env.locals m /\ wpAny (model prog w) (A.deeper env) (setAttr sv an vv) (fun _ s3 => Q .none s3) E' s2) E' s₁) :
  wpAny (model prog w) A (PySem.call (.ref a) vals) Q E s:= by
 refine fl (kl hF) <| xY fun as p1 ap p3 p4 p => pR fun p6 p7 p8 p9 p10 c1 => wF fun c2 t213 c4 c5 c6 c7 c8 c9 => ?_; obtain rfl:= t213
 have hbind : bindArgs fd ⟨vals, []⟩ = pure (names.zip vals):= by
  rw [<- c2]
  refine lD c1 hdf ?_ (by rw [c2]; exact hnd)
  rw [hl, <- c2, List.length_map]
 have hL : s.heap.get? s.heap.objs.size = none:= yM _
 have hnd' : ((names.zip vals).map (·.1)).Nodup:= by
  rw [List.map_fst_zip (by rw [hl]; exact Nat.le_refl _)]; exact hnd
 refine wpAny_call (codeAny_call_cells hroom ho hd hlim hcd hbody hbind hclo (fun y hy => .inl (c8 _ (List.of_mem_zip hy).1)) (fun s₁ I => ?_) c7 c6 c5)
 have keep:= I.toInCall.keep
 have kk : ∀ z, (callEnvC fd s.heap.objs.size a).kindOf z = fd.scope.names.lookup z:= fun _ => rfl
 have look : ∀ z, z ∈ names -> ∀ v, (names.zip vals).lookup z = some v -> bindL (callEnvC fd s.heap.objs.size a).kindOf (names.zip vals) (fun _ => none) z = some v:= fun z hz v e => by
  rw [lE hnd' ((kk z).trans (c8 z hz)), e]
 refine oEE (fun h₁ tk e => ?_) I.toInCall.same
 refine wpAny_mono (az (Q:= fun f s' => f = .next /\ Q .none s') c4 c5 (c8 _ hnm.1) (c8 _ hnm.2.1) (c8 _ hnm.2.2) hvd I.toInCall.ns (look _ hnm.1 _ m1) (look _ hnm.2.1 _ m2) (look _ hnm.2.2 _ m3)
  (fun Q E hq => hb _ _ _ _ _ _ c5 c9 rfl rfl keep hq) (fun pl Q E hq => hm _ _ _ _ _ keep hq) (fun s' E Q he hq => hkeep s' _ E Q (fun b o e => by rw [he]; exact keep b o e) hq)
  (wpAny_mono (hc { s₁ with toks:= s₁.toks + 1 } _ _ _ keep (by rw [e]) (by rw [e]) (by rw [e]) hL I.toInCall.ns) (fun _ s2 z => ⟨z.1, wpAny_mono z.2 (fun _ s3 y => ⟨rfl, y⟩) fun _ _ y => y⟩) fun _ _ z => z)) (fun f s' z => ?_) fun _ _ z => z
 revert z; refine oA fun t00 z => ?_; obtain rfl:= t00
 exact z
end
structure InitD (B : Base) (f : Addr) (names : List Str) (cn an vn : Str) (o : Obj) (fd : FuncData) (body : List Stmt) : Prop where
 a1 : B.hp.get? f = some o
 a2 : o.cls = .type "function"
 a3 : o.data = .func fd
 a4 : B.hp.NoLimit
 a5 : B.hp.CodeRec fd.code fd.qualname
 a6 : fd.body = .stmts body
 a7 : fd.closure = []
 a8 : fd.globals = mainGlobals
 a9 : fd.builtins = builtinsNs
 a10 : fd.defaults = .none
 a11 : aA names cn an vn fd.params body fd.scope = true
structure InitOk (B : Base) (f : Addr) (names : List Str) (cn an vn : Str) : Prop where
 it : ∃ o fd body, InitD B f names cn an vn o fd body
set_option genInjectivity false in
structure MkD where
 xc : XD
 yc : XD
 CE : Addr
 fI : Addr
 fJ : Addr
 K : Frag
 mN : Str -> Option Value
 mE : Str -> Option Value
 mg : Str -> Option Value
 mb : Str -> Option Value
structure BadMkD (B : Base) (D : MkD) : Prop where
 two : Two B.hp B.bad D.CE D.xc D.yc D.mN D.mE
 i1 : D.mN "__init__" = some (.ref D.fI)
 i2 : D.mN "__setattr__" = none
 i3 : D.mE "__setattr__" = none
 i4 : D.mN "square" = none
 i5 : D.mN "text" = none
 i6 : D.mE "square" = none
 i7 : D.mE "text" = none
 I1 : InitOk B D.fI ["self", "text", "square"] "ChessError" "square" "square"
 I2 : InitOk B D.fJ ["self", "text"] "Exception" "text" "text"
 hK : D.K.In B.hp
 r1 : readsIn D.K D.CE (.type "type") = true
 r2 : specialIn D.K (.ref D.CE) "__getattribute__" = some (some (.builtin "type.__getattribute__"))
 r3 : findCls D.K (.ref D.CE) (.type "type") "__init__" = some (.val (.ref D.fJ))
 g1 : B.hp.Ns mainGlobals D.mg
 g2 : B.hp.Ns builtinsNs D.mb
 g3 : D.mg "ChessError" = some (.ref D.CE)
 g4 : D.mg "Exception" = none
 g5 : D.mb "Exception" = some (.type "Exception")
structure BadMk (B : Base) : Prop where
 it : ∃ D, BadMkD B D
theorem al : typeLookup (.type "Exception") "square" = pure none := by rw [typeLookup_type, builtinLookup_eq_fast]; kernel_rfl
theorem qk : typeLookup (.type "Exception") "text" = pure none := by rw [typeLookup_type, builtinLookup_eq_fast]; kernel_rfl
theorem gx {prog : Program} {w : World} {B : Base} {A : Around} {fr : List Addr} (hA : AOk A fr 0) (M : BadMk B) : sH prog w B A fr:= by
 intro txt tk x u s ρ H Q E st rv hQ
 refine oE (fun D m0 => ?_) M.it
 refine fA (fun oI fdI bI ia => ?_) m0.I1.it
 refine fA (fun oJ fdJ bJ ib => ?_) m0.I2.it
 have dep:= hA.depth
 have bk:= st.bk
 obtain ⟨h, g, d, t, os⟩:= s
 refine call2 (m0.two.keeps bk) m0.i1 (bk _ _ ia.a1) ia.a2 (fun h1 e hm => ?_) (by simp [sizeLine])
 have bk1:= fun b o z => hm.keeps b o (bk b o z)
 refine xG (fun t0 he _ _ => ?_) hm.there
 have hw : (Code.builtin "type.__call__" ⟨[.ref B.bad, .str txt tk, u], []⟩).weight = 1 := by rfl
 have dep1 : (A.under (.builtin "type.__call__" ⟨[.ref B.bad, .str txt tk, u], []⟩)).depth = A.depth + 1 := by
  show A.depth + (Code.builtin "type.__call__" ⟨[.ref B.bad, .str txt tk, u], []⟩).weight = _; rw [hw]
 generalize A.under (.builtin "type.__call__" ⟨[.ref B.bad, .str txt tk, u], []⟩) = A1 at dep1 ⊢
 refine kJ (s:= ⟨h1, g, d, t, os⟩) (Q:= fun r s' => r = .none /\ Q (.ref e) s') (sv:= .ref e) (tv:= .str txt tk) (vv:= u) (bv:= .ref D.CE) (fv:= .ref D.fJ) (by lia) (bk1 _ _ ia.a1) ia.a3 (ia.a4.keeps bk1) (ia.a5.keeps bk1) ia.a6 ia.a7 ia.a10 ia.a11
  (by decide) (by decide) (by decide) rfl (by rfl) (by rfl) (by rfl) (by decide) ?_ ?_ ?_ ?_
 ·
  intro env s₁ p1 A' Q E c1 c2 c3 c4 kp hq
  exact Name_function_global c1 c2 (loadGlobal_global (by rw [c3, ia.a8]; exact m0.g1.keeps fun b o z => kp _ _ (bk1 b o z)) m0.g3 hq) (by decide)
 ·
  intro s₁ A' pl Q E kp hq
  exact ju (fun b o z => kp _ _ (bk1 _ _ (m0.hK b o z))) m0.r1 m0.r2 m0.r3 rfl hq
 ·
  intro s' A' E Q kp hq
  exact kF (kp _ _ (bk1 _ _ ib.a1)) ib.a3 _ hq
 intro s₁ env m E' kp1 e1 e2 e3 hL hns
 have bk2:= fun b o z => kp1 b o (bk1 b o z)
 refine kJ (Q := fun r s2 => s2.heap.Ns env.locals m /\ wpAny (model prog w) (A1.deeper env) (setAttr (.ref e) "square" u) (fun _ s3 => (Value.none = .none) /\ Q (.ref e) s3) E' s2) (sv := .ref e) (tv := .str txt tk) (vv := .str txt tk) (bv := .type "Exception") (fv := .builtin "Exception.__init__") (by show A1.depth + 1 < _; lia) (bk2 _ _ ib.a1) ib.a3 (ib.a4.keeps bk2) (ib.a5.keeps bk2) ib.a6 ib.a7 ib.a10 ib.a11
  (by decide) (by decide) (by decide) rfl (by rfl) (by rfl) (by rfl) (by decide) ?_ ?_ ?_ ?_
 ·
  intro env s₁ p1 A' Q E c1 c2 c3 c4 kp hq
  exact Name_function_global c1 c2 (loadGlobal_builtin (by rw [c3, ib.a8]; exact m0.g1.keeps fun b o z => kp _ _ (bk2 b o z)) m0.g4 (by rw [c4, ib.a9]; exact m0.g2.keeps fun b o z => kp _ _ (bk2 b o z)) m0.g5 hq) (by decide)
 ·
  intro s₁ A' pl Q E kp hq
  exact jt hq
 ·
  intro s' A' E Q kp hq
  exact wpAny_pure hq.1
 intro s₂ env2 m2 E'' kp2 f1 f2 f3 hL2 hns2
 have bk3:= fun b o z => kp2 b o (bk2 b o z)
 have kps : ∀ b o, h.get? b = some o -> s₂.heap.get? b = some o:= fun b o z => kp2 _ _ (kp1 _ _ (hm.keeps _ _ z))
 have he2:= kp2 _ _ (kp1 _ _ he)
 have nl1 : env.locals ≠ e:= fun z => by rw [z] at hL; exact ns hL he
 have nl2 : env2.locals ≠ e:= fun z => by rw [z, kp1 _ _ he] at hL2; contradiction
 obtain ⟨h2, g2', d2, t2, os2⟩:= s₂
 refine init2 (bk3 _ _ m0.two.c) he2 rfl rfl rfl (by simp [sizeLine]) ?_
 have up := fun (b : Addr) (o : Obj) (z : h2.get? b = some o) => Heap.get?_push_of_some { cls := .type "tuple", data := .seq [Value.str txt tk].toArray } z
 have he3 : ((h2.push { cls := .type "tuple", data := .seq [Value.str txt tk].toArray }).update e (Obj.mapFields (·.setIfInBounds 0 (.ref h2.objs.size)))).get? e
   = some { cls:= .ref B.bad, data:= .fields #[.ref h2.objs.size, .none, .none, .none, .bool false, .none] }:= by
  rw [Heap.get?_update_self _ (up _ _ he2) rfl]; rfl
 have kp3 : ∀ b o, b ≠ e -> h2.get? b = some o -> ((h2.push { cls := .type "tuple", data := .seq [Value.str txt tk].toArray }).update e (Obj.mapFields (·.setIfInBounds 0 (.ref h2.objs.size)))).get? b = some o := fun b o hb z => by
  rw [Heap.get?_update_other _ _ hb.symm]; exact up _ _ z
 generalize ((h2.push { cls := .type "tuple", data := .seq [Value.str txt tk].toArray }).update e (Obj.mapFields (·.setIfInBounds 0 (.ref h2.objs.size)))) = h3 at he3 kp3 ⊢
 have ne0 : ∀ b o, h.get? b = some o -> b ≠ e:= fun b o z q => by have:= hm.new; rw [<- q, z] at this; contradiction
 have kps3 : ∀ b o, h.get? b = some o -> h3.get? b = some o:= fun b o z => kp3 _ _ (ne0 _ _ z) (kps _ _ z)
 have bk4:= fun b o z => kps3 b o (bk b o z)
 have nsk : ∀ {hh hh' : Heap} {L : Addr} {mm : Str -> Option Value}, hh.Ns L mm -> (∀ o, hh.get? L = some o -> hh'.get? L = some o) -> hh'.Ns L mm:= fun x k => let ⟨o, es, ep, ho, r⟩:= x; ⟨o, es, ep, k o ho, r⟩
 have hnsL : h3.Ns env.locals m:= nsk hns fun o z => kp3 _ _ nl1 (kp2 _ _ z)
 refine ⟨nsk hns2 fun o z => kp3 _ _ nl2 z, ?_⟩
 refine fy (mA:= fun _ => none) (m0.two.keeps bk4) m0.i2 m0.i5 m0.i3 m0.i7 qk ⟨_, he3, rfl, (fun c z => by contradiction), .inl ⟨rfl, fun _ => rfl⟩⟩ (fun h4 tk4 S => ?_) Within.nil (by simp [sizeLine])
 revert S; refine yW fun s1 s2 s3 s4 => ?_
 have kps4 : ∀ b o, h.get? b = some o -> h4.get? b = some o:= fun b o z => s2 _ _ (ne0 _ _ z) (fun o₀ dx q1 q2 => by rw [he3] at q1; obtain rfl:= si q1; contradiction) (kps3 _ _ z)
 have bk5:= fun b o z => kps4 b o (bk b o z)
 refine ⟨nsk hnsL fun o z => s2 _ _ nl1 (fun o₀ dx q1 q2 => by rw [he3] at q1; obtain rfl:= si q1; contradiction) z, ?_⟩
 refine xG (fun o4 ho4 hc4 hd4 => ?_) (s3 _ he3)
 refine fy (m0.two.keeps bk5) m0.i2 m0.i4 m0.i3 m0.i6 al s1 (fun h5 tk5 S5 => ?_) (Within.cons _ _ Within.nil) (by simp [sizeLine])
 revert S5; refine yW fun v1 v2 v3 v4 => ?_
 have kps5 : ∀ b o, h.get? b = some o -> h5.get? b = some o:= fun b o z => v2 _ _ (ne0 _ _ z) (fun o₀ dx q1 q2 q3 => by
  rw [ho4] at q1; obtain rfl:= si q1
  have:= s4 _ _ _ he3 rfl ho4 q2
  rw [<- q3, kps3 _ _ z] at this
  contradiction) (kps4 _ _ z)
 refine xG (fun o5 ho5 hc5 hd5 => ?_) (v3 _ ho4)
 refine ⟨rfl, hQ e _ (xT st kps5 ?_ ?_ ?_) hm.new ⟨o5, h2.objs.size, ho5, hc5.trans hc4, hd5.trans hd4⟩ (vR st hm.new)⟩
 ·
  exact f1.trans e1
 ·
  exact f2.trans e2
 ·
  exact f3.trans e3
end Mine.Internal
end
section
open PySem PySem.W
namespace Mine.Internal
theorem oB (a b : Nat) : Builtin.bitAnd (a : Int) (b : Int) = ((a &&& b : Nat) : Int):= by
 unfold Builtin.bitAnd
 simp
theorem dS (a : Nat) : ∀ b, (a ||| b) = (a ^^^ b) + (a &&& b):= by
 induction a using Nat.strongRecOn with
 | ind a ih =>
  intro b
  by_cases h : a = 0
  ·
   subst h; simp
  ·
   have i:= ih (a / 2) (by exact at16 h) (b / 2)
   have h1 : (a ||| b) / 2 = a / 2 ||| b / 2:= Nat.or_div_two
   have h2 : (a ^^^ b) / 2 = a / 2 ^^^ b / 2:= Nat.xor_div_two
   have h3 : (a &&& b) / 2 = a / 2 &&& b / 2:= Nat.and_div_two
   have g1:= @Nat.or_mod_two_eq_one a b
   have g2:= @Nat.xor_mod_two_eq_one a b
   have g3:= @Nat.and_mod_two_eq_one a b
   rw [<- h1, <- h2, <- h3] at i
   have m1 : (a ||| b) % 2 = 0 \/ (a ||| b) % 2 = 1:= at12
   have m2 : (a ^^^ b) % 2 = 0 \/ (a ^^^ b) % 2 = 1:= at12
   have m3 : (a &&& b) % 2 = 0 \/ (a &&& b) % 2 = 1:= at12
   by_cases p : a % 2 = 1 <;> by_cases q : b % 2 = 1 <;> (revert m1; refine oO (fun m1 => ?_) fun m1 => ?_) <;> (revert m2; refine oO (fun m2 => ?_) fun m2 => ?_) <;> (revert m3; refine oO (fun m3 => ?_) fun m3 => ?_) <;> simp [p, q, m1, m2, m3] at g1 g2 g3 <;> exact orand i (by rw [m1, m2, m3])
theorem bOr (a b : Nat) : Builtin.bitOr (a : Int) (b : Int) = ((a ||| b : Nat) : Int):= by
 unfold Builtin.bitOr Builtin.bitAnd Builtin.bitNot
 have h1 : decide (0 <= -(a : Int) - 1) = false:= by simp; lia
 have h2 : decide (0 <= -(b : Int) - 1) = false:= by simp; lia
 simp only [h1, h2]
 have e1 : (-(-(a : Int) - 1) - 1).toNat = a:= by lia
 have e2 : (-(-(b : Int) - 1) - 1).toNat = b:= by lia
 rw [e1, e2]; lia
theorem tY (a b : Nat) : Builtin.bitXor (a : Int) (b : Int) = ((a ^^^ b : Nat) : Int):= by
 unfold Builtin.bitXor
 rw [bOr, oB, dS]; lia
noncomputable def bts (f : Nat -> Bool) : Nat -> Nat
 | 0 => 0
 | n + 1 => bts f n + (if f n then 2 ^ n else 0)
theorem sY (f : Nat -> Bool) : ∀ n, bts f n < 2 ^ n
 | 0 => by simp [bts]
 | n + 1 => by
  have:= sY f n
  simp only [bts]
  split <;> lia
theorem yJ (f : Nat -> Bool) (i : Nat) : ∀ n, (bts f n).testBit i = (decide (i < n) && f i)
 | 0 => by simp [bts]
 | n + 1 => by
  have ih:= yJ f i n
  have hl:= sY f n
  simp only [bts]
  cases hf : f n with
  | false =>
   simp only [Bool.false_eq_true, if_false, Nat.add_zero, ih]
   by_cases e : i = n
   ·
    subst e; simp [hf]
   ·
    have : decide (i < n + 1) = decide (i < n):= by simp; lia
    rw [this]
  | true =>
   have e:= Nat.two_pow_add_eq_or_of_lt hl 1
   rw [Nat.mul_one] at e
   simp only [if_true]
   rw [Nat.add_comm, e, Nat.testBit_or, ih, Nat.testBit_two_pow]
   by_cases e : i = n
   ·
    subst e; simp [hf]
   ·
    have : decide (i < n + 1) = decide (i < n):= by simp; lia
    have e2 : decide (n = i) = false:= by simp; exact sG e
    rw [this, e2, Bool.false_or]
theorem vY {f g : Nat -> Bool} : ∀ {n}, (∀ i, i < n -> f i = g i) -> bts f n = bts g n
 | 0, _ => rfl
 | n + 1, h => by simp only [bts]; rw [vY fun i hi => h i (by exact yH hi vM), h n (by lia)]
theorem rM {x m : Nat} (h : x.testBit m = false) : x + 2 ^ m = x ||| 2 ^ m:= by
 have : x &&& 2 ^ m = 0:= by
  refine Nat.eq_of_testBit_eq fun i => ?_
  rw [Nat.testBit_and, Nat.testBit_two_pow, Nat.zero_testBit]
  by_cases e : m = i
  ·
   subst e; simp [h]
  ·
   simp [e]
 have h1:= PyProof.Rows.bitOr_and (x : Int) ((2 ^ m : Nat) : Int)
 rw [bOr, oB, this] at h1
 lia
theorem tK {x m : Nat} (h : x.testBit m = false) : x ^^^ 2 ^ m = x ||| 2 ^ m:= by
 refine Nat.eq_of_testBit_eq fun i => ?_
 rw [Nat.testBit_xor, Nat.testBit_or, Nat.testBit_two_pow]
 by_cases e : m = i
 ·
  subst e; simp [h]
 ·
  simp [e]
@[irreducible] noncomputable def wp {α : Type} (m : Mo α) (h : Hp) (Q : α -> Hp -> Prop) (X : Hp -> Prop) : Prop:= match m h with
 | .ok a h' => Q a h'
 | .exc h' => X h'
 | .fail => False
noncomputable def noX : Hp -> Prop:= fun _ => False
noncomputable def sel {α : Type} (t : Bool) (a b : Mo α) : Mo α:= match t with
 | true => a
 | false => b
@[irreducible] noncomputable def selP (t : Bool) (A B : Prop) : Prop:= match t with
 | true => A
 | false => B
section
variable {α β : Type} {h : Hp} {X : Hp -> Prop}
theorem xH {m : Mo α} {Q : α -> Hp -> Prop} {a : α} {h' : Hp} (e : m h = .ok a h') (q : Q a h') : wp m h Q X:= by unfold wp; rw [e]; exact q
theorem w_ofX {m : Mo α} {Q : α -> Hp -> Prop} {h' : Hp} (e : m h = .exc h') (q : X h') : wp m h Q X:= by unfold wp; rw [e]; exact q
theorem of_w {m : Mo α} {Q : α -> Hp -> Prop} (e : wp m h Q noX) : ∃ a h', m h = .ok a h' /\ Q a h':= by
 unfold wp at e
 split at e
 ·
  rename_i a h' q; exact ⟨a, h', q, e⟩
 ·
  exact e.elim
 ·
  exact e.elim
theorem uW {m : Mo α} {Q Q' : α -> Hp -> Prop} {X' : Hp -> Prop} (e : wp m h Q' X') (q : ∀ a h', Q' a h' -> Q a h') (x : ∀ h', X' h' -> X h') : wp m h Q X:= by
 unfold wp at e ⊢
 split <;> rename_i z <;> rw [z] at e
 ·
  exact q _ _ e
 ·
  exact x _ e
 ·
  exact e
theorem yQ {a : α} {Q : α -> Hp -> Prop} (q : Q a h) : wp (ret a) h Q X:= xH rfl q
theorem uQ {m : Mo α} {f : α -> Mo β} {Q : β -> Hp -> Prop} (q : wp m h (fun a h' => wp (f a) h' Q X) X) : wp (bnd m f) h Q X:= by
 unfold wp bnd at *
 revert q
 cases e : m h with
 | ok a h' => intro q; exact q
 | exc h' => intro q; exact q
 | fail => intro q; exact q
theorem zB {p : Prop} [Decidable p] {A B : Prop} (q : p -> A) (q' : ¬ p -> B) : selP (decide p) A B:= by
 by_cases e : p
 ·
  rw [eTr e]; unfold selP; exact q e
 ·
  rw [eFa e]; unfold selP; exact q' e
theorem dg {t : Bool} {A B : Prop} (q : t = true -> A) (q' : t = false -> B) : selP t A B:= by
 unfold selP
 cases t
 ·
  exact q' rfl
 ·
  exact q rfl
theorem jI {t : Bool} {A B : Prop} (e : t = true) (q : A) : selP t A B:= by subst e; unfold selP; exact q
theorem yV {t : Bool} {A B : Prop} (e : t = false) (q : B) : selP t A B:= by subst e; unfold selP; exact q
theorem wS {p : Prop} [Decidable p] {A B : Prop} (q : p -> A) (q' : ¬ p -> B) : selP (decide p) A B:= zB q q'
theorem zT {p : Prop} [Decidable p] {A B : Prop} (q : p -> A) (q' : ¬ p -> B) : selP (decide p) A B:= zB q q'
theorem sJ {t : Bool} {A B : Prop} (q : t = true -> A) (q' : t = false -> B) : selP t A B:= dg q q'
theorem vZ {t : Bool} {A B : Prop} (q : t = true -> A) (q' : t = false -> B) : selP t A B:= dg q q'
theorem aN {t : Bool} {Q : Bool -> Hp -> Prop} (q : Q t h) : wp (truth (.bool t)) h Q X:= xH rfl q
theorem qZ {i : Int} {Q : Bool -> Hp -> Prop} (q : Q (decide (i ≠ 0)) h) : wp (truth (.int i)) h Q X:= by
 rw [decide_not] at q
 exact xH rfl q
theorem zG {o : O} {Q : V -> Hp -> Prop} (e : Nat.ble (osz o) 100000 = true) (q : Q (.ref h.length) (h ++ [o])) : wp (zX o) h Q X:= by
 unfold wp zX
 rw [e]
 exact q
theorem lT {α : Type} {m m' : Mo α} {Q : α -> Hp -> Prop} (e : m h = m' h) (q : wp m' h Q X) : wp m h Q X:= by unfold wp at q ⊢; rw [e]; exact q
theorem xL {o : O} {Q : V -> Hp -> Prop} (e : osz o <= 100000) (q : Q (.ref h.length) (h ++ [o])) : wp (zX o) h Q X:= by
 unfold wp zX
 rw [Nat.ble_eq_true_of_le e]
 exact q
theorem zM {a : Int} (h1 : -1152921504606846976 < a) (h2 : a < 1152921504606846976) : small a = true:= by unfold small; simp; lia
theorem xF {a b : Int} {Q : V -> Hp -> Prop} (e : small a = true \/ small b = true) (q : Q (.int (a * b)) h) : wp (yU .mul (.int a) (.int b)) h Q X:= by
 have : (small a || small b) = true:= by (revert e; refine oO (fun e => ?_) fun e => ?_) <;> simp [e]
 exact xH (by delta yU iop; dsimp only; rw [this]; rfl) q
theorem yL {a b : Int} {Q : V -> Hp -> Prop} (e : 0 < b) (e2 : b < 1152921504606846976) (q : Q (.int (a / b)) h) : wp (yU .fdiv (.int a) (.int b)) h Q X:= by
 have s : small b = true:= zM (by exact as07 e rfl) e2
 have e3 : decide (b = 0) = false:= by simp; exact as11 e
 rw [<- Int.fdiv_eq_ediv_of_nonneg _ (by exact sw e)] at q
 exact xH (by delta yU iop; dsimp only; rw [s, e3]; rfl) q
theorem zW {a b : Int} {Q : V -> Hp -> Prop} (e : 0 < b) (q : Q (.int (a % b)) h) : wp (yU .mod (.int a) (.int b)) h Q X:= by
 have e3 : decide (b = 0) = false:= by simp; exact as11 e
 rw [<- Int.fmod_eq_emod_of_nonneg _ (by exact sw e)] at q
 exact xH (by delta yU iop; dsimp only; rw [e3]; rfl) q
theorem wC {a n : Int} {Q : V -> Hp -> Prop} (e1 : 0 <= n) (e2 : n <= 1000000) (e3 : small a = true) (q : Q (.int (a * 2 ^ n.toNat)) h) : wp (yU .shl (.int a) (.int n)) h Q X:= by
 exact xH (by delta yU iop; dsimp only; rw [eTr e1, eTr e2, e3]; rfl) q
theorem lS {a n : Int} {Q : V -> Hp -> Prop} (e1 : 0 <= a) (e2 : 0 <= n) (e3 : n < 1152921504606846976) (q : Q (.int (a / 2 ^ n.toNat)) h) : wp (yU .shr (.int a) (.int n)) h Q X:= by
 have s : small n = true:= zM (by exact sr e2 rfl) e3
 rw [<- Int.fdiv_eq_ediv_of_nonneg _ (Int.le_of_lt (Int.pow_pos (by decide)))] at q
 exact xH (by delta yU iop; dsimp only; rw [eTr e1, eTr e2, s]; rfl) q
theorem iA {a b : Nat} {xs ys : List V} {Q : V -> Hp -> Prop} (ea : h[a]? = some (.lst xs)) (eb : h[b]? = some (.lst ys)) (e : (xs ++ ys).length <= 100000) (q : Q (.ref h.length) (h ++ [.lst (xs ++ ys)])) : wp (yU .add (.ref a) (.ref b)) h Q X:= by
 have e1 : zO a h = some xs:= by unfold zO; rw [ea]
 have e2 : zO b h = some ys:= by unfold zO; rw [eb]
 have : yU .add (.ref a) (.ref b) h = zX (.lst (xs ++ ys)) h:= by delta yU; dsimp only; rw [e1, e2]
 exact lT this (xL e q)
theorem sK {a : Nat} {k : Int} {xs : List V} {Q : V -> Hp -> Prop} (ea : h[a]? = some (.lst xs)) (e1 : 0 <= k) (e2 : k <= 1000) (e3 : xs.length <= 10) (e4 : (rep xs k.toNat).length <= 100000) (q : Q (.ref h.length) (h ++ [.lst (rep xs k.toNat)])) :
  wp (yU .mul (.ref a) (.int k)) h Q X:= by
 have e : zO a h = some xs:= by unfold zO; rw [ea]
 have : yU .mul (.ref a) (.int k) h = zX (.lst (rep xs k.toNat)) h:= by delta yU; dsimp only; rw [e]; dsimp only; rw [eTr e1, eTr e2, eTr e3]; rfl
 exact lT this (xL e4 q)
theorem w_ne {a b : Int} {Q : Bool -> Hp -> Prop} (q : Q (decide (a ≠ b)) h) : wp (zQ .ne (.int a) (.int b)) h Q X:= by
 rw [decide_not] at q; exact xH rfl q
theorem dk {a b : Nat} {x y : PyData} {Q : Bool -> Hp -> Prop} (ea : deep 4 h (.ref a) = some x) (eb : deep 4 h (.ref b) = some y) (q : Q (PyData.eqv x y) h) : wp (zQ .eq (.ref a) (.ref b)) h Q X:= by
 have : veq h (.ref a) (.ref b) = some (PyData.eqv x y):= by delta veq; dsimp only; rw [ea, eb]
 exact xH (by delta zQ; dsimp only; rw [this]; rfl) q
theorem rP {a b : Nat} {x y : PyData} {Q : Bool -> Hp -> Prop} (ea : deep 4 h (.ref a) = some x) (eb : deep 4 h (.ref b) = some y) (q : Q (!(PyData.eqv x y)) h) : wp (zQ .ne (.ref a) (.ref b)) h Q X:= by
 have : veq h (.ref a) (.ref b) = some (PyData.eqv x y):= by delta veq; dsimp only; rw [ea, eb]
 exact xH (by delta zQ; dsimp only; rw [this]) q
theorem jW : ∀ l : List Int, jX (l.map .int) = some l
 | [] => rfl
 | i :: l => by simp only [List.map_cons, jX, jW l]
theorem w_in {i : Int} {n : Nat} {l : List Int} {Q : Bool -> Hp -> Prop} (e : h[n]? = some (.lst (l.map .int)) \/ h[n]? = some (.tup (l.map .int))) (q : Q (decide (i ∈ l)) h) : wp (zQ .isIn (.int i) (.ref n)) h Q X:= by
 have e1 : vH n h = some (l.map .int):= by unfold vH; (revert e; refine oO (fun e => ?_) fun e => ?_) <;> rw [e]
 exact xH (by delta zQ isIn; dsimp only; rw [e1]; dsimp only; rw [jW]; rfl) q
theorem kZ {i : Int} {n : Nat} {l : List Int} {Q : Bool -> Hp -> Prop} (e : h[n]? = some (.lst (l.map .int)) \/ h[n]? = some (.tup (l.map .int))) (q : Q (decide (i ∉ l)) h) : wp (zQ .notIn (.int i) (.ref n)) h Q X:= by
 have e1 : vH n h = some (l.map .int):= by unfold vH; (revert e; refine oO (fun e => ?_) fun e => ?_) <;> rw [e]
 rw [decide_not] at q
 exact xH (by delta zQ isIn; dsimp only; rw [e1]; dsimp only; rw [jW]) q
theorem zA {n a c : Nat} {fs : Loc} {v : V} {Q : V -> Hp -> Prop} (e : h[n]? = some (.ins c fs)) (e2 : get a fs = some v) (q : Q v h) : wp (jA (.ref n) a) h Q X:= by
 have e1 : rU n h = some (c, fs):= by unfold rU; rw [e]
 exact xH (by delta jA; dsimp only; rw [e1]; dsimp only; rw [e2]; rfl) q
theorem sI {n a c : Nat} {fs : Loc} {x : V} {Q : Unit -> Hp -> Prop} (e : h[n]? = some (.ins c fs)) (q : Q () (h.set n (.ins c (put a x fs)))) : wp (setattr (.ref n) a x) h Q X:= by
 have e1 : rU n h = some (c, fs):= by unfold rU; rw [e]
 exact xH (by delta setattr; dsimp only; rw [e1]) q
theorem zF {n : Nat} {k : Int} {xs : List V} {v : V} {Q : V -> Hp -> Prop} (e : h[n]? = some (.lst xs) \/ h[n]? = some (.tup xs)) (e1 : 0 <= k) (e2 : k < 1152921504606846976) (e3 : xs[k.toNat]? = some v) (q : Q v h) : wp (yO (.ref n) (.int k)) h Q X:= by
 have s : small k = true:= zM (by exact sr e1 rfl) e2
 have e4 : vH n h = some xs:= by unfold vH; (revert e; refine oO (fun e => ?_) fun e => ?_) <;> rw [e]
 exact xH (by delta yO; dsimp only; rw [e4]; dsimp only; rw [eTr e1, s, e3]; rfl) q
theorem wA {n : Nat} {k : Int} {xs : List V} {x : V} {Q : Unit -> Hp -> Prop} (e : h[n]? = some (.lst xs)) (e1 : 0 <= k) (e2 : k < xs.length) (e3 : k < 1152921504606846976) (q : Q () (h.set n (.lst (xs.set k.toNat x)))) : wp (yR (.ref n) (.int k) x) h Q X:= by
 have s : small k = true:= zM (by exact sr e1 rfl) e3
 have e4 : zO n h = some xs:= by unfold zO; rw [e]
 exact xH (by delta yR; dsimp only; rw [e4]; dsimp only; rw [eTr e1, eTr e2, s]; rfl) q
theorem tA {n : Nat} {xs : List V} {Q : V -> Hp -> Prop} (e : h[n]? = some (.lst xs)) (e1 : xs.length <= 100000) (q : Q (.int xs.length) h) : wp (builtin .len [.ref n]) h Q X:= by
 have e4 : vH n h = some xs:= by unfold vH; rw [e]
 exact xH (by delta builtin; dsimp only; rw [e4]; dsimp only; rw [Nat.ble_eq_true_of_le e1]; rfl) q
theorem qG {n : Nat} {xs : List V} {Q : V -> Hp -> Prop} (e : h[n]? = some (.lst xs)) (e1 : xs.length <= 100000) (q : Q (.ref h.length) (h ++ [.lst xs])) : wp (builtin .list [.ref n]) h Q X:= by
 have e4 : zO n h = some xs:= by unfold zO; rw [e]
 have : builtin .list [.ref n] h = zX (.lst xs) h:= by delta builtin; dsimp only; rw [e4]
 exact lT this (xL e1 q)
theorem xS {a : Int} {Q : V -> Hp -> Prop} (s : small a = true) (q : Q (.ref h.length) (h ++ [.rng 0 a 1])) : wp (builtin .range [.int a]) h Q X:= by
 have : builtin .range [.int a] h = zX (.rng 0 a 1) h:= by delta builtin; dsimp only; rw [s]; rfl
 exact lT this (xL (Nat.zero_le _) q)
theorem dh {a b : Int} {Q : V -> Hp -> Prop} (s : small a = true) (s' : small b = true) (q : Q (.ref h.length) (h ++ [.rng a b (-1)])) : wp (builtin .range [.int a, .int b, .int (-1)]) h Q X:= by
 have : builtin .range [.int a, .int b, .int (-1)] h = zX (.rng a b (-1)) h:= by delta builtin; dsimp only; rw [s, s']; rfl
 exact lT this (xL (Nat.zero_le _) q)
theorem ty {n : Nat} {l : List Int} {Q : V -> Hp -> Prop} (e : h[n]? = some (.lst (l.map .int))) (q : Q (.int l.sum) h) : wp (builtin .sum [.ref n]) h Q X:= by
 have e4 : zO n h = some (l.map .int):= by unfold zO; rw [e]
 exact xH (by delta builtin; dsimp only; rw [e4]; dsimp only; rw [jW]) q
noncomputable def kC (i : Int) (l : List Int) : Int:= l.foldl (fun a b => bif decide (a < b) then b else a) i
theorem w_max {n : Nat} {i : Int} {l : List Int} {Q : V -> Hp -> Prop} (e : h[n]? = some (.lst ((i :: l).map .int))) (q : Q (.int (kC i l)) h) : wp (builtin .max [.ref n]) h Q X:= by
 have e4 : zO n h = some ((i :: l).map .int):= by unfold zO; rw [e]
 exact xH (by delta builtin; dsimp only; rw [e4]; dsimp only; rw [jW]; rfl) q
theorem qH {n : Nat} {xs : List V} {x : V} {Q : V -> Hp -> Prop} (e : h[n]? = some (.lst xs)) (e1 : xs.length <= 100000) (q : Q .none (h.set n (.lst (xs ++ [x])))) : wp (yX .append (.ref n) [x]) h Q X:= by
 have e4 : zO n h = some xs:= by unfold zO; rw [e]
 exact xH (by delta yX; dsimp only; rw [e4]; dsimp only; rw [Nat.ble_eq_true_of_le e1]; rfl) q
theorem cU {n : Nat} {i : Int} {l : List Int} {Q : V -> Hp -> Prop} (e : h[n]? = some (.lst (l.map .int))) (q : Q (.int (l.count i)) h) : wp (yX .count (.ref n) [.int i]) h Q X:= by
 have e4 : zO n h = some (l.map .int):= by unfold zO; rw [e]
 exact xH (by delta yX; dsimp only; rw [e4]; dsimp only; rw [jW]) q
theorem nw {n : Nat} {i : Int} {l : List Int} {Q : V -> Hp -> Prop} (e : h[n]? = some (.lst (l.map .int))) (e1 : PyData.layable0 (.list (l.map .int)) = true) (e2 : i ∈ l) (q : Q (.int (l.idxOf i)) h) : wp (yX .index (.ref n) [.int i]) h Q X:= by
 have e4 : zO n h = some (l.map .int):= by unfold zO; rw [e]
 exact xH (by delta yX; dsimp only; rw [e4]; dsimp only; rw [jW]; dsimp only; rw [e1, eTr e2]; rfl) q
theorem wD {n : Nat} {xs : List V} {Q : Unit -> Hp -> Prop} (e : h[n]? = some (.lst xs)) (q : Q () h) : wp (pG (.ref n)) h Q X:= by
 have e4 : zO n h = some xs:= by unfold zO; rw [e]
 exact xH (by delta pG; dsimp only; rw [e4]) q
theorem gH {n a b : Nat} {lo hi : V} {xs : List V} {Q : V -> Hp -> Prop} (e : h[n]? = some (.lst xs) \/ h[n]? = some (.fro xs)) (e1 : xs.length <= 100000) (e2 : eH lo = some a) (e3 : eI xs.length hi = some b)
  (q : Q (.ref h.length) (h ++ [.lst ((xs.take b).drop a)])) : wp (cut (.ref n) lo hi) h Q X:= by
 have e4 : oL n h = some xs:= by unfold oL; (revert e; refine oO (fun e => ?_) fun e => ?_) <;> rw [e]
 have : cut (.ref n) lo hi h = zX (.lst ((xs.take b).drop a)) h:= by delta cut; dsimp only; rw [e4]; dsimp only; rw [Nat.ble_eq_true_of_le e1, e2, e3]; rfl
 exact lT this (xL (by show ((xs.take b).drop a).length <= _; rw [List.length_drop, List.length_take]; exact eW (ar72 e1)) q)
theorem pI {n : Nat} {xs : List V} {Q : Src -> Hp -> Prop} (e : h[n]? = some (.lst xs)) (q : Q (.ls n) h) : wp (jM (.ref n)) h Q X:= by
 exact xH (by delta jM; dsimp only; rw [e]) q
theorem pH {n : Nat} {xs : List V} {Q : Src -> Hp -> Prop} (e : h[n]? = some (.tup xs)) (q : Q (.fix xs) h) : wp (jM (.ref n)) h Q X:= by
 exact xH (by delta jM; dsimp only; rw [e]) q
theorem nY (lo : Int) : ∀ n, vA lo n = (List.range n).map (fun (i : Nat) => V.int (lo + i))
 | 0 => rfl
 | n + 1 => by
  simp only [vA, nY (lo + 1) n, List.range_succ_eq_map, List.map_cons, List.map_map]
  congr 1
  ·
   congr 1; lia
  ·
   refine List.map_congr_left fun i _ => ?_
   simp only [Function.comp]; congr 1; lia
theorem jR {n : Nat} {k : Nat} {Q : Src -> Hp -> Prop} (e : h[n]? = some (.rng 0 k 1)) (e1 : k < 1152921504606846976) (q : Q (.fix ((List.range k).map fun (i : Nat) => V.int i)) h) : wp (jM (.ref n)) h Q X:= by
 have s : small (k : Int) = true:= zM (by exact uK rfl) (by exact vL e1)
 have s0 : small (0 : Int) = true:= rfl
 have e2 : rF 0 (k : Int) 1 = some ((List.range k).map fun (i : Nat) => V.int i):= by
  simp only [rF, s, s0, Bool.and_self, cond_true, decide_true, nY]
  simp
 exact xH (by delta jM; dsimp only; rw [e]; dsimp only; rw [e2]) q
end
noncomputable section
@[irreducible] def wq {α : Type} (m : Mo α) (h : Hp) (Q : α -> Hp -> Prop) (X : Hp -> Prop) : Prop:= wp m h Q X
@[irreducible] def sq (t : Bool) (A B : Prop) : Prop:= selP t A B
def negQ (Q : V -> Hp -> Prop) : V -> Hp -> Prop:= fun v h => match v with
 | .int i => Q (.int (-i)) h
 | _ => False
def invQ (Q : V -> Hp -> Prop) : V -> Hp -> Prop:= fun v h => match v with
 | .int i => Q (.int (Builtin.bitNot i)) h
 | _ => False
def fD (Q : V -> Hp -> Prop) (o : V) : V -> Hp -> Prop:= fun v h => match v with
 | .none => Q o h
 | _ => False
def lF (op : BOp) (v w : V) : Mo V:= match v, w with
 | .int a, .int b => bnd (opt (aop op a b)) fun c => ret (.int c)
 | _, _ => bad
@[reducible] def kLoc (o : Option V) (K : V -> Hp -> Prop) (h : Hp) : Prop:= match o with
 | some v => K v h
 | Option.none => False
@[reducible] def kTw (E : (V -> Hp -> Prop) -> Hp -> Prop) (P : V -> V -> Hp -> Prop) (v : V) (h : Hp) : Prop:= E (P v) h
@[reducible] def kTw3 (E1 E2 : (V -> Hp -> Prop) -> Hp -> Prop) (P : V -> V -> V -> Hp -> Prop) (v : V) (h : Hp) : Prop:= E1 (kTw E2 (P v)) h
@[reducible] def pBin (o : BOp) (X : Hp -> Prop) (K : V -> Hp -> Prop) (v w : V) (h : Hp) : Prop:= match v, w with
 | .int a, .int b => match o with
  | .add => K (.int (a + b)) h
  | .sub => K (.int (a - b)) h
  | .and => K (.int (Builtin.bitAnd a b)) h
  | .or => K (.int (Builtin.bitOr a b)) h
  | .xor => K (.int (Builtin.bitXor a b)) h
  | o => wq (yU o (.int a) (.int b)) h K X
 | v, w => wq (yU o v w) h K X
@[reducible] def pAug (o : BOp) (X : Hp -> Prop) (K : V -> Hp -> Prop) (v w : V) (h : Hp) : Prop:= match v, w with
 | .int a, .int b => match o with
  | .add => K (.int (a + b)) h
  | .sub => K (.int (a - b)) h
  | .or => K (.int (Builtin.bitOr a b)) h
  | .xor => K (.int (Builtin.bitXor a b)) h
  | o => wq (lF o (.int a) (.int b)) h K X
 | v, w => wq (lF o v w) h K X
@[reducible] def pCmp (o : COp) (X : Hp -> Prop) (K : Bool -> Hp -> Prop) (v w : V) (h : Hp) : Prop:= match v, w with
 | .int a, .int b => match o with
  | .eq => K (decide (a = b)) h
  | .ne => K (decide (a ≠ b)) h
  | .lt => K (decide (a < b)) h
  | .le => K (decide (a <= b)) h
  | .gt => K (decide (b < a)) h
  | .ge => K (decide (b <= a)) h
  | o => wq (zQ o (.int a) (.int b)) h K X
 | .bool a, .bool b => match o with
  | .eq => K (a == b) h
  | .ne => K (!(a == b)) h
  | o => wq (zQ o (.bool a) (.bool b)) h K X
 | .none, .none => match o with
  | .is => K true h
  | o => wq (zQ o .none .none) h K X
 | .ref n, .none => match o with
  | .is => K false h
  | o => wq (zQ o (.ref n) .none) h K X
 | v, w => wq (zQ o v w) h K X
@[reducible] def kTruth (X : Hp -> Prop) (K : Bool -> Hp -> Prop) (v : V) (h : Hp) : Prop:= match v with
 | .bool b => K b h
 | .int i => K (decide (i ≠ 0)) h
 | v => wq (truth v) h K X
@[reducible] def kBool (K : V -> Hp -> Prop) (b : Bool) (h : Hp) : Prop:= K (.bool b) h
@[reducible] def kNot (K : V -> Hp -> Prop) (b : Bool) (h : Hp) : Prop:= K (.bool (!b)) h
@[reducible] def kIte {α : Type} (A B : α -> Hp -> Prop) (K : α) (b : Bool) (h : Hp) : Prop:= sq b (A K h) (B K h)
@[reducible] def kIteS (A B : Hp -> Prop) (b : Bool) (h : Hp) : Prop:= sq b (A h) (B h)
@[reducible] def kAnd (X : Hp -> Prop) (R : (V -> Hp -> Prop) -> Hp -> Prop) (K : V -> Hp -> Prop) (v : V) (h : Hp) : Prop:= match v with
 | .bool t => sq t (R K h) (K (.bool false) h)
 | .int i => sq (decide (i ≠ 0)) (R K h) (K (.int i) h)
 | _ => False
@[reducible] def kOr (X : Hp -> Prop) (R : (V -> Hp -> Prop) -> Hp -> Prop) (K : V -> Hp -> Prop) (v : V) (h : Hp) : Prop:= match v with
 | .bool t => sq t (K (.bool true) h) (R K h)
 | .int i => sq (decide (i ≠ 0)) (K (.int i) h) (R K h)
 | _ => False
@[reducible] def kCh (R : (Bool -> Hp -> Prop) -> Hp -> Prop) (K : Bool -> Hp -> Prop) (t : Bool) (h : Hp) : Prop:= sq t (R K h) (K false h)
@[reducible] def kCh2 (o : COp) (X : Hp -> Prop) (R : V -> (Bool -> Hp -> Prop) -> Hp -> Prop) (K : Bool -> Hp -> Prop) (v w : V) (h : Hp) : Prop:= pCmp o X (kCh (R w) K) v w h
@[reducible] def kCmp (R : V -> (Bool -> Hp -> Prop) -> Hp -> Prop) (K : V -> Hp -> Prop) (v : V) (h : Hp) : Prop:= R v (kBool K) h
@[reducible] def kCons (K : List V -> Hp -> Prop) (v : V) (vs : List V) (h : Hp) : Prop:= K (v :: vs) h
@[reducible] def kEs (R : (List V -> Hp -> Prop) -> Hp -> Prop) (K : List V -> Hp -> Prop) (v : V) (h : Hp) : Prop:= R (kCons K v) h
@[reducible] def pLst (X : Hp -> Prop) (K : V -> Hp -> Prop) (vs : List V) (h : Hp) : Prop:= wq (zX (.lst vs)) h K X
@[reducible] def pTup (X : Hp -> Prop) (K : V -> Hp -> Prop) (vs : List V) (h : Hp) : Prop:= wq (zX (.tup vs)) h K X
@[reducible] def pCall (call : Call) (f : Nat) (X : Hp -> Prop) (K : V -> Hp -> Prop) (vs : List V) (h : Hp) : Prop:= wq (call f vs) h K X
@[reducible] def pNew (T : Tab) (call : Call) (c : Nat) (X : Hp -> Prop) (K : V -> Hp -> Prop) (vs : List V) (h : Hp) : Prop:= match xI c T.inits with
 | some f => wq (call f (.ref h.length :: vs)) (h ++ [.ins c []]) (fD K (.ref h.length)) X
 | Option.none => False
@[reducible] def pBlt (k : Blt) (X : Hp -> Prop) (K : V -> Hp -> Prop) (vs : List V) (h : Hp) : Prop:= wq (builtin k vs) h K X
@[reducible] def pMeth (k : Mth) (X : Hp -> Prop) (K : V -> Hp -> Prop) (v : V) (vs : List V) (h : Hp) : Prop:= wq (yX k v vs) h K X
@[reducible] def kU (E : Hp -> Prop) (_ : Unit) (h : Hp) : Prop:= E h
@[reducible] def kMeth (k : Mth) (X : Hp -> Prop) (E : (List V -> Hp -> Prop) -> Hp -> Prop) (K : V -> Hp -> Prop) (v : V) (h : Hp) : Prop:= wq (pG v) h (kU (E (pMeth k X K v))) X
@[reducible] def pAttr (a : Nat) (X : Hp -> Prop) (K : V -> Hp -> Prop) (v : V) (h : Hp) : Prop:= wq (jA v a) h K X
@[reducible] def pSub (X : Hp -> Prop) (K : V -> Hp -> Prop) (v w : V) (h : Hp) : Prop:= wq (yO v w) h K X
@[reducible] def pCut (X : Hp -> Prop) (K : V -> Hp -> Prop) (v a b : V) (h : Hp) : Prop:= wq (cut v a b) h K X
section
variable (T : Tab) (call : Call)
mutual
@[reducible] noncomputable def wpE : ME -> Loc -> (Hp -> Prop) -> (V -> Hp -> Prop) -> Hp -> Prop
 | .none, _, _, K, h => K .none h
 | .int i, _, _, K, h => K (.int i) h
 | .bool b, _, _, K, h => K (.bool b) h
 | .loc x, l, _, K, h => kLoc (get x l) K h
 | .glb x, _, _, K, h => kLoc (get x T.glb) K h
 | .bin o a b, l, X, K, h => wpE a l X (kTw (wpE b l X) (pBin o X K)) h
 | .neg a, l, X, K, h => wpE a l X (negQ K) h
 | .inv a, l, X, K, h => wpE a l X (invQ K) h
 | .not a, l, X, K, h => wpE a l X (kTruth X (kNot K)) h
 | .and a, l, X, K, h => wpAnd a l X K h
 | .or a, l, X, K, h => wpOr a l X K h
 | .ite c a b, l, X, K, h => wpE c l X (kTruth X (kIte (wpE a l X) (wpE b l X) K)) h
 | .cmp a r, l, X, K, h => wpE a l X (kCmp (wpCh r l X) K) h
 | .lst a, l, X, K, h => wpEs a l X (pLst X K) h
 | .tup a, l, X, K, h => wpEs a l X (pTup X K) h
 | .comp e x it, l, X, K, h => wq (eval T call (.comp e x it) l) h K X
 | .compIf e x it c, l, X, K, h => wq (eval T call (.compIf e x it c) l) h K X
 | .call f a, l, X, K, h => wpEs a l X (pCall call f X K) h
 | .new c a, l, X, K, h => wpEs a l X (pNew T call c X K) h
 | .blt k a, l, X, K, h => wpEs a l X (pBlt k X K) h
 | .meth k o a, l, X, K, h => wpE o l X (kMeth k X (wpEs a l X) K) h
 | .attr o a, l, X, K, h => wpE o l X (pAttr a X K) h
 | .sub o i, l, X, K, h => wpE o l X (kTw (wpE i l X) (pSub X K)) h
 | .slice o lo hi, l, X, K, h => wpE o l X (kTw3 (wpE lo l X) (wpE hi l X) (pCut X K)) h
 | .nil, _, _, _, _ => False
 | .cons _ _, _, _, _, _ => False
 | .cc _ _ _, _, _, _, _ => False
@[reducible] noncomputable def wpEs : ME -> Loc -> (Hp -> Prop) -> (List V -> Hp -> Prop) -> Hp -> Prop
 | .nil, _, _, K, h => K [] h
 | .cons a r, l, X, K, h => wpE a l X (kEs (wpEs r l X) K) h
 | _, _, _, _, _ => False
@[reducible] noncomputable def wpAnd : ME -> Loc -> (Hp -> Prop) -> (V -> Hp -> Prop) -> Hp -> Prop
 | .cons a r, l, X, K, h => match r with
  | .nil => wpE a l X K h
  | r => wpE a l X (kAnd X (wpAnd r l X) K) h
 | _, _, _, _, _ => False
@[reducible] noncomputable def wpOr : ME -> Loc -> (Hp -> Prop) -> (V -> Hp -> Prop) -> Hp -> Prop
 | .cons a r, l, X, K, h => match r with
  | .nil => wpE a l X K h
  | r => wpE a l X (kOr X (wpOr r l X) K) h
 | _, _, _, _, _ => False
@[reducible] noncomputable def wpCh : ME -> Loc -> (Hp -> Prop) -> V -> (Bool -> Hp -> Prop) -> Hp -> Prop
 | .cc o e r, l, X, v, K, h => match r with
  | .nil => wpE e l X (pCmp o X K v) h
  | r => wpE e l X (kCh2 o X (wpCh r l X) K v) h
 | _, _, _, _, _, _ => False
end
@[reducible] def unpQ (xs : List Nat) (l : Loc) (Q : Loc -> Hp -> Prop) : V -> Hp -> Prop:= fun v h => match v with
 | .ref n => ∃ vs, h[n]? = some (.tup vs) /\ vs.length = xs.length /\ Q ((xs.zip vs).foldl (fun l p => put p.1 p.2 l) l) h
 | _ => False
@[reducible] def kSeq (r : MS) (X : Hp -> Prop) (K : Fl × Loc -> Hp -> Prop) (p : Fl × Loc) (h : Hp) : Prop:= match p with
 | (.next, l) => wq (exec T call r l) h K X
 | (.cont, l) => K (.cont, l) h
 | (.ret v, l) => K (.ret v, l) h
@[reducible] def kEx (r : MS) (X : Hp -> Prop) (K : Fl × Loc -> Hp -> Prop) (l : Loc) (h : Hp) : Prop:= wq (exec T call r l) h K X
@[reducible] def kAsg (x : Nat) (l : Loc) (K : Fl × Loc -> Hp -> Prop) (v : V) (h : Hp) : Prop:= K (.next, put x v l) h
@[reducible] def kNx (K : Fl × Loc -> Hp -> Prop) (l : Loc) (h : Hp) : Prop:= K (.next, l) h
@[reducible] def kRet (K : Fl × Loc -> Hp -> Prop) (l : Loc) (v : V) (h : Hp) : Prop:= K (.ret v, l) h
@[reducible] def kDrop (E : Hp -> Prop) (_ : V) (h : Hp) : Prop:= E h
@[reducible] def pSA (a : Nat) (X : Hp -> Prop) (E : Hp -> Prop) (v w : V) (h : Hp) : Prop:= wq (setattr w a v) h (kU E) X
@[reducible] def pSS (X : Hp -> Prop) (E : Hp -> Prop) (v w k : V) (h : Hp) : Prop:= wq (yR w k v) h (kU E) X
@[reducible] def kSA (u : V) (a : Nat) (X : Hp -> Prop) (E : Hp -> Prop) (c : V) (h : Hp) : Prop:= wq (setattr u a c) h (kU E) X
@[reducible] def kSS (u k : V) (X : Hp -> Prop) (E : Hp -> Prop) (c : V) (h : Hp) : Prop:= wq (yR u k c) h (kU E) X
@[reducible] def kAA (a : Nat) (op : BOp) (X : Hp -> Prop) (W : (V -> Hp -> Prop) -> Hp -> Prop) (E : Hp -> Prop) (u : V) (h : Hp) : Prop:= wq (jA u a) h (kTw W (pAug op X (kSA u a X E))) X
@[reducible] def kAS (op : BOp) (X : Hp -> Prop) (W : (V -> Hp -> Prop) -> Hp -> Prop) (E : Hp -> Prop) (u k : V) (h : Hp) : Prop:= wq (yO u k) h (kTw W (pAug op X (kSS u k X E))) X
@[reducible] def pFor2 (x : Nat) (b : MS) (l : Loc) (X : Hp -> Prop) (K : Fl × Loc -> Hp -> Prop) (s : Src) (h : Hp) : Prop:= wq (uT (exec T call b) x s 64 0 l) h K X
@[reducible] def pFor (x : Nat) (b : MS) (l : Loc) (X : Hp -> Prop) (K : Fl × Loc -> Hp -> Prop) (v : V) (h : Hp) : Prop:= wq (jM v) h (pFor2 T call x b l X K) X
@[reducible] noncomputable def wpS : MS -> (Hp -> Prop) -> (Fl × Loc -> Hp -> Prop) -> Loc -> Hp -> Prop
 | .nil, _, K, l, h => K (.next, l) h
 | .seq s r, X, K, l, h => wpS s X (kSeq T call r X K) l h
 | .assign x e, X, K, l, h => wpE T call e l X (kAsg x l K) h
 | .unpack xs e, X, K, l, h => wpE T call e l X (unpQ xs l (kNx K)) h
 | .setattr o a e, X, K, l, h => wpE T call e l X (kTw (wpE T call o l X) (pSA a X (kNx K l))) h
 | .setsub o i e, X, K, l, h => wpE T call e l X (kTw3 (wpE T call o l X) (wpE T call i l X) (pSS X (kNx K l))) h
 | .augloc x op e, X, K, l, h => kLoc (get x l) (kTw (wpE T call e l X) (pAug op X (kAsg x l K))) h
 | .augattr o a op e, X, K, l, h => wpE T call o l X (kAA a op X (wpE T call e l X) (kNx K l)) h
 | .augsub o i op e, X, K, l, h => wpE T call o l X (kTw (wpE T call i l X) (kAS op X (wpE T call e l X) (kNx K l))) h
 | .expr e, X, K, l, h => wpE T call e l X (kDrop (kNx K l)) h
 | .ite c a b, X, K, l, h => wpE T call c l X (kTruth X (kIteS (kEx T call a X K l) (kEx T call b X K l))) h
 | .for x it b, X, K, l, h => wpE T call it l X (pFor T call x b l X K) h
 | .while c b, X, K, l, h => wq (qQ (fun l => bnd (eval T call c l) truth) (exec T call b) 64 l) h K X
 | .ret e, X, K, l, h => wpE T call e l X (kRet K l) h
 | .cont, _, K, l, h => K (.cont, l) h
 | .raise e, X, _, l, h => wpE T call e l X (kDrop X) h
 | .try e b, X, K, l, h => wpE T call e l (kEx T call b X K l) (kDrop (kNx K l)) h
end
end
section
variable {T : Tab} {call : Call} {h : Hp} {X : Hp -> Prop}
theorem yT {α : Type} {m : Mo α} {Q : α -> Hp -> Prop} (q : wq m h Q X) : wp m h Q X:= by unfold wq at q; exact q
theorem yI {α : Type} {m : Mo α} {Q : α -> Hp -> Prop} (q : wp m h Q X) : wq m h Q X:= by unfold wq; exact q
theorem iJ {t : Bool} {A B : Prop} (q : sq t A B) : selP t A B:= by unfold sq at q; exact q
theorem k_sq {t : Bool} {A B : Prop} (q : selP t A B) : sq t A B:= by unfold sq; exact q
theorem w_b {α β : Type} {m : Mo α} {f : α -> Mo β} {Q : α -> Hp -> Prop} {K : β -> Hp -> Prop} (q : wp m h Q X) (k : ∀ a h1, Q a h1 -> wp (f a) h1 K X) : wp (bnd m f) h K X:= uQ (uW q k fun _ z => z)
theorem qa {o : BOp} {K : V -> Hp -> Prop} {v w : V} (q : pBin o X K v w h) : wp (yU o v w) h K X:= by
 cases v <;> cases w <;> first | exact yT q | (cases o <;> first | exact yT q | exact xH rfl q)
theorem iO {o : BOp} {K : V -> Hp -> Prop} {v w : V} (q : pAug o X K v w h) : wp (lF o v w) h K X:= by
 cases v <;> cases w <;> first | exact yT q | (cases o <;> first | exact yT q | exact xH rfl q)
theorem bG {o : COp} {K : Bool -> Hp -> Prop} {v w : V} (q : pCmp o X K v w h) : wp (zQ o v w) h K X:= by
 cases v <;> cases w <;> first | exact yT q | (cases o <;> first | exact yT q | exact xH rfl q | exact w_ne q)
theorem kH {K : Bool -> Hp -> Prop} {v : V} (q : kTruth X K v h) : wp (truth v) h K X:= by
 cases v <;> first | exact yT q | exact xH rfl q | exact qZ q
theorem rE {α : Type} {t : Bool} {a b : Mo α} {Q : α -> Hp -> Prop} {A B : Prop} (q : sq t A B) (ka : A -> wp a h Q X) (kb : B -> wp b h Q X) : wp (match t with | true => a | false => b) h Q X:= by
 replace q:= iJ q
 unfold selP at q
 cases t
 ·
  exact kb q
 ·
  exact ka q
theorem qr {R : (V -> Hp -> Prop) -> Hp -> Prop} {K : V -> Hp -> Prop} {v : V} {m : Mo V} (q : kAnd X R K v h) (r : R K h -> wp m h K X) : wp (bnd (truth v) fun t => match t with | true => m | false => ret v) h K X:= by
 cases v with
 | bool t =>
  refine uQ (xH rfl ?_)
  replace q:= iJ q
  unfold selP at q
  cases t
  ·
   exact yQ q
  ·
   exact r q
 | int i => exact uQ (qZ (rE q r fun z => yQ z))
 | _ => exact q.elim
theorem kOr_ok {R : (V -> Hp -> Prop) -> Hp -> Prop} {K : V -> Hp -> Prop} {v : V} {m : Mo V} (q : kOr X R K v h) (r : R K h -> wp m h K X) : wp (bnd (truth v) fun t => match t with | true => ret v | false => m) h K X:= by
 cases v with
 | bool t =>
  refine uQ (xH rfl ?_)
  replace q:= iJ q
  unfold selP at q
  cases t
  ·
   exact r q
  ·
   exact yQ q
 | int i => exact uQ (qZ (rE q (fun z => yQ z) r))
 | _ => exact q.elim
theorem pY {α : Type} {K : Bool -> Hp -> Prop} {v : V} {Q : α -> Hp -> Prop} {f : Bool -> Mo α} (q : kTruth X K v h) (k : ∀ t h1, K t h1 -> wp (f t) h1 Q X) : wp (bnd (truth v) f) h Q X:= w_b (kH q) k
theorem lv {α β γ : Type} (m : Mo α) (f : α -> Mo β) (g : β -> Mo γ) : bnd (bnd m f) g = bnd m fun a => bnd (f a) g:= by
 funext h
 unfold bnd
 cases m h <;> rfl
theorem ny {α β γ : Type} {m : Mo α} {f : α -> Mo β} {g : β -> Mo γ} {Q : γ -> Hp -> Prop} (q : wp (bnd m fun a => bnd (f a) g) h Q X) : wp (bnd (bnd m f) g) h Q X:= by rw [lv]; exact q
def OkE (T : Tab) (call : Call) (m : ME) : Prop:= ∀ l X K h, wpE T call m l X K h -> wp (eval T call m l) h K X
def Ok5 (T : Tab) (call : Call) (m : ME) : Prop:= OkE T call m /\ (∀ l X K h, wpEs T call m l X K h -> wp (wR T call m l) h K X) /\ (∀ l X K h, wpAnd T call m l X K h -> wp (wM T call m l) h K X) /\
 (∀ l X K h, wpOr T call m l X K h -> wp (uJ T call m l) h K X) /\ ∀ l X v K h, wpCh T call m l X v K h -> wp (vP T call m l v) h K X
theorem ok5 {m : ME} (a : OkE T call m) (b : wpEs T call m = fun _ _ _ _ => False:= by rfl) (c : wpAnd T call m = fun _ _ _ _ => False:= by rfl) (d : wpOr T call m = fun _ _ _ _ => False:= by rfl) (e : wpCh T call m = fun _ _ _ _ _ => False:= by rfl) : Ok5 T call m :=
 ⟨a, fun l X K h q => by rw [b] at q; exact q.elim, fun l X K h q => by rw [c] at q; exact q.elim, fun l X K h q => by rw [d] at q; exact q.elim, fun l X v K h q => by rw [e] at q; exact q.elim⟩
theorem hG {o : Option V} {K : V -> Hp -> Prop} (q : kLoc o K h) : wp (opt o) h K X:= by
 cases o with
 | none => exact q.elim
 | some v => exact xH rfl q
theorem f_t {G : Prop} (h : false = true) : G:= nomatch h
theorem t_f {G : Prop} (h : true = false) : G:= nomatch h
@[reducible] def nilM : ME -> Bool
 | .nil => true
 | _ => false
theorem iT {m : ME} (h : nilM m = true) : m = .nil:= by cases m <;> first | rfl | exact f_t h
theorem and_eq {a r : ME} {l : Loc} (n : nilM r = false) : wM T call (.cons a r) l = bnd (eval T call a l) fun v => bnd (truth v) fun t => match t with | true => wM T call r l | false => ret v:= by cases r <;> first | exact t_f n | rfl
theorem or_eq {a r : ME} {l : Loc} (n : nilM r = false) : uJ T call (.cons a r) l = bnd (eval T call a l) fun v => bnd (truth v) fun t => match t with | true => ret v | false => uJ T call r l:= by cases r <;> first | exact t_f n | rfl
theorem ch_eq {o : COp} {e r : ME} {l : Loc} {v : V} (n : nilM r = false) : vP T call (.cc o e r) l v = bnd (eval T call e l) fun w => bnd (zQ o v w) fun t => match t with | true => vP T call r l w | false => ret false:= by cases r <;> first | exact t_f n | rfl
theorem nv {a r : ME} (n : nilM r = false) : wpAnd T call (.cons a r) = fun l X K h => wpE T call a l X (kAnd X (wpAnd T call r l X) K) h:= by cases r <;> first | exact t_f n | rfl
theorem vj {a r : ME} (n : nilM r = false) : wpOr T call (.cons a r) = fun l X K h => wpE T call a l X (kOr X (wpOr T call r l X) K) h:= by cases r <;> first | exact t_f n | rfl
theorem vk {o : COp} {e r : ME} (n : nilM r = false) : wpCh T call (.cc o e r) = fun l X v K h => wpE T call e l X (kCh2 o X (wpCh T call r l X) K v) h:= by cases r <;> first | exact t_f n | rfl
theorem ky {c : Nat} {a : ME} {l : Loc} {K : V -> Hp -> Prop} (q : wp (wR T call a l) h (pNew T call c X K) X) : wp (eval T call (.new c a) l) h K X:= by
 refine w_b q fun vs h1 z => ?_
 unfold pNew at z
 show wp (match xI c T.inits with
  | some f => bnd (zX (.ins c [])) fun o => bnd (call f (o :: vs)) fun r => match r with
   | .none => ret o
   | _ => bad
  | Option.none => bad) h1 K X
 cases e : xI c T.inits with
 | none => rw [e] at z; exact z.elim
 | some f =>
  rw [e] at z
  refine uQ (xL (Nat.zero_le _) (w_b (yT z) fun v h2 y => ?_))
  cases v <;> first | exact yQ y | exact y.elim
theorem cy : ∀ m, Ok5 T call m:= by
 intro m
 induction m with
 | none => exact ok5 fun l X K h q => xH rfl q
 | int i => exact ok5 fun l X K h q => xH rfl q
 | bool i => exact ok5 fun l X K h q => xH rfl q
 | loc x => exact ok5 fun l X K h q => hG q
 | glb x => exact ok5 fun l X K h q => hG q
 | bin o a b ia ib => exact ok5 fun l X K h q => w_b (ia.1 _ _ _ _ q) fun v h1 z => w_b (ib.1 _ _ _ _ z) fun w h2 y => qa y
 | neg a ia => exact ok5 fun l X K h q => w_b (ia.1 _ _ _ _ q) fun v h1 z => by cases v <;> first | exact yQ z | exact z.elim
 | inv a ia => exact ok5 fun l X K h q => w_b (ia.1 _ _ _ _ q) fun v h1 z => by cases v <;> first | exact yQ z | exact z.elim
 | not a ia => exact ok5 fun l X K h q => ny (w_b (ia.1 _ _ _ _ q) fun v h1 z => pY z fun t h2 y => yQ y)
 | and a ia => exact ok5 fun l X K h q => ia.2.2.1 _ _ _ _ q
 | or a ia => exact ok5 fun l X K h q => ia.2.2.2.1 _ _ _ _ q
 | ite c a b ic ia ib => exact ok5 fun l X K h q => ny (w_b (ic.1 _ _ _ _ q) fun v h1 z => pY z fun t h2 y => rE y (ia.1 _ _ _ _) (ib.1 _ _ _ _))
 | cmp a r ia ir => exact ok5 fun l X K h q => w_b (ia.1 _ _ _ _ q) fun v h1 z => w_b (ir.2.2.2.2 _ _ _ _ _ z) fun t h2 y => yQ y
 | lst a ia => exact ok5 fun l X K h q => w_b (ia.2.1 _ _ _ _ q) fun v h1 z => yT z
 | tup a ia => exact ok5 fun l X K h q => w_b (ia.2.1 _ _ _ _ q) fun v h1 z => yT z
 | comp e x it ie ii => exact ok5 fun l X K h q => yT q
 | compIf e x it c ie ii ic => exact ok5 fun l X K h q => yT q
 | call f a ia => exact ok5 fun l X K h q => w_b (ia.2.1 _ _ _ _ q) fun v h1 z => yT z
 | new c a ia => exact ok5 fun l X K h q => ky (ia.2.1 _ _ _ _ q)
 | blt k a ia => exact ok5 fun l X K h q => w_b (ia.2.1 _ _ _ _ q) fun v h1 z => yT z
 | meth k o a io ia => exact ok5 fun l X K h q => w_b (io.1 _ _ _ _ q) fun v h1 z => w_b (yT z) fun _ h2 y => w_b (ia.2.1 _ _ _ _ y) fun vs h3 z => yT z
 | attr o a io => exact ok5 fun l X K h q => w_b (io.1 _ _ _ _ q) fun v h1 z => yT z
 | sub o i io ii => exact ok5 fun l X K h q => w_b (io.1 _ _ _ _ q) fun v h1 z => w_b (ii.1 _ _ _ _ z) fun w h2 y => yT y
 | slice o a b io ia ib => exact ok5 fun l X K h q => w_b (io.1 _ _ _ _ q) fun v h1 z => w_b (ia.1 _ _ _ _ z) fun w h2 y => w_b (ib.1 _ _ _ _ y) fun _ _ z => yT z
 | nil => exact ⟨fun l X K h q => q.elim, fun l X K h q => xH rfl q, fun l X K h q => q.elim, fun l X K h q => q.elim, fun l X v K h q => q.elim⟩
 | cons a r ia ir =>
  refine ⟨fun l X K h q => q.elim, fun l X K h q => w_b (ia.1 _ _ _ _ q) fun v h1 z => w_b (ir.2.1 _ _ _ _ z) fun vs h2 y => yQ y, fun l X K h q => ?_, fun l X K h q => ?_, fun l X v K h q => q.elim⟩
  ·
   cases n : nilM r with
   | true => cases iT n; exact ia.1 _ _ _ _ q
   | false => rw [nv n] at q; rw [and_eq n]; exact w_b (ia.1 _ _ _ _ q) fun v h1 z => qr z (ir.2.2.1 _ _ _ _)
  ·
   cases n : nilM r with
   | true => cases iT n; exact ia.1 _ _ _ _ q
   | false => rw [vj n] at q; rw [or_eq n]; exact w_b (ia.1 _ _ _ _ q) fun v h1 z => kOr_ok z (ir.2.2.2.1 _ _ _ _)
 | cc o a r ia ir =>
  refine ⟨fun l X K h q => q.elim, fun l X K h q => q.elim, fun l X K h q => q.elim, fun l X K h q => q.elim, fun l X v K h q => ?_⟩
  cases n : nilM r with
  | true => cases iT n; exact w_b (ia.1 _ _ _ _ q) fun w h1 z => bG z
  | false => rw [vk n] at q; rw [ch_eq n]; exact w_b (ia.1 _ _ _ _ q) fun w h1 z => w_b (bG z) fun t h2 y => rE y (ir.2.2.2.2 _ _ _ _ _) fun z => yQ z
theorem uG {m : ME} {l : Loc} {K : V -> Hp -> Prop} (q : wpE T call m l X K h) : wp (eval T call m l) h K X:= cy m |>.1 _ _ _ _ q
@[reducible] noncomputable def notC : ME -> Bool
 | .comp .. => false
 | .compIf .. => false
 | _ => true
theorem go_e {m : ME} {l : Loc} {K : V -> Hp -> Prop} (_ : notC m = true) (q : wpE T call m l X K h) : wp (eval T call m l) h K X:= uG q
theorem ly {α : Type} (op : BOp) (v w : V) (f : V -> Mo α) : bnd (lF op v w) f = match v, w with
 | .int a, .int b => bnd (opt (aop op a b)) fun c => f (.int c)
 | _, _ => bad:= by
 cases v <;> cases w <;> first | rfl | skip
 funext h
 show bnd (bnd (opt _) _) f h = _
 rw [lv]; rfl
theorem dp {op : BOp} {v w : V} {f : V -> Mo (Fl × Loc)} {Q : V -> Hp -> Prop} {K : Fl × Loc -> Hp -> Prop} (q : wp (lF op v w) h Q X) (k : ∀ a h1, Q a h1 -> wp (f a) h1 K X) : wp (match v, w with
 | .int a, .int b => bnd (opt (aop op a b)) fun c => f (.int c)
 | _, _ => bad) h K X:= by rw [<- ly]; exact w_b q k
theorem w_try {b : MS} {e : ME} {l : Loc} {K : Fl × Loc -> Hp -> Prop} {B : Hp -> Prop} (q : wp (eval T call e l) h (kDrop (kNx K l)) B) (i : ∀ {h1}, B h1 -> wp (exec T call b l) h1 K X) : wp (exec T call (.try e b) l) h K X:= by
 unfold wp at q i ⊢
 have e0 : exec T call (.try e b) l h = match eval T call e l h with
  | .ok _ h' => R.ok (Fl.next, l) h'
  | .exc h' => exec T call b l h'
  | .fail => .fail:= rfl
 rw [e0]
 cases e1 : eval T call e l h with
 | ok a h' => rw [e1] at q; exact q
 | exc h' => rw [e1] at q; exact i q
 | fail => rw [e1] at q; exact q
theorem in_s : ∀ {m : MS} {X : Hp -> Prop} {K : Fl × Loc -> Hp -> Prop} {l : Loc} {h : Hp}, wpS T call m X K l h -> wp (exec T call m l) h K X:= by
 intro m
 induction m with
 | nil => exact fun q => xH rfl q
 | seq s r is ir =>
   refine fun q => w_b (is q) fun p h1 z => ?_
   obtain ⟨f, l1⟩:= p
   cases f with
   | next => exact yT z
   | cont => exact yQ z
   | ret v => exact yQ z
 | assign x e => exact fun q => w_b (uG q) fun v h1 z => yQ z
 | unpack xs e =>
   refine fun q => w_b (uG q) fun v h1 z => ?_
   cases v with
   | ref n =>
    revert z; refine xG fun vs h1 h2 h3 => ?_
    have e2 : Nat.beq vs.length xs.length = true:= by rw [h2]; exact Nat.beq_refl _
    exact xH (a:= (Fl.next, _)) (h':= _) (by dsimp only; rw [h1]; dsimp only; rw [e2]; rfl) h3
   | _ => exact z.elim
 | setattr o a e => exact fun q => w_b (uG q) fun v h1 z => w_b (uG z) fun w h2 y => w_b (yT y) fun _ h3 z => yQ z
 | setsub o i e => exact fun q => w_b (uG q) fun v h1 z => w_b (uG z) fun w h2 y => w_b (uG y) fun k h3 z => w_b (yT z) fun _ h4 y => yQ y
 | augloc x op e => exact fun q => w_b (hG q) fun v h1 z => w_b (uG z) fun w h2 y => dp (f:= fun c => ret (.next, put x c _)) (iO y) fun c h3 z => yQ z
 | augattr o a op e => exact fun q => w_b (uG q) fun u h1 z => w_b (yT z) fun v h2 y => w_b (uG y) fun w h3 z => dp (f:= fun c => bnd (setattr u a c) fun _ => ret (.next, _)) (iO z) fun c h4 y => w_b (yT y) fun _ h5 z => yQ z
 | augsub o i op e => exact fun q => w_b (uG q) fun u h1 z => w_b (uG z) fun k h2 y => w_b (yT y) fun v h3 z => w_b (uG z) fun w h4 y => dp (f:= fun c => bnd (yR u k c) fun _ => ret (.next, _)) (iO y) fun c h5 z => w_b (yT z) fun _ h6 y => yQ y
 | expr e => exact fun q => w_b (uG q) fun v h1 z => yQ z
 | ite c a b ia ib => exact fun q => ny (w_b (uG q) fun v h1 z => pY z fun t h2 y => rE y yT yT)
 | «for» x it b ib => exact fun q => w_b (uG q) fun v h1 z => w_b (yT z) fun s h2 y => yT y
 | «while» c b ib => exact fun q => yT q
 | ret e => exact fun q => w_b (uG q) fun v h1 z => yQ z
 | cont => exact fun q => xH rfl q
 | raise e => exact fun q => w_b (uG q) fun v h1 z => w_ofX rfl z
 | «try» e b ib => exact fun q => w_try (uG q) yT
theorem k_loc {x : Nat} {v : V} {l : Loc} {K : V -> Hp -> Prop} (e : get x l = some v) (q : K v h) : kLoc (get x l) K h:= by rw [e]; exact q
theorem ur {a b : Int} {K : V -> Hp -> Prop} (q : K (.int (a + b)) h) : pAug .add X K (.int a) (.int b) h:= q
theorem de {A B : Prop} (q : A) : selP true A B:= jI rfl q
theorem df {A B : Prop} (q : B) : selP false A B:= yV rfl q
theorem db {A B : Prop} (q : A) : selP (!false) A B:= jI rfl q
theorem da {A B : Prop} (q : B) : selP (!true) A B:= yV rfl q
theorem k_ceq {a b : Int} {K : Bool -> Hp -> Prop} (q : K (decide (a = b)) h) : pCmp .eq X K (.int a) (.int b) h:= q
@[reducible] noncomputable def kSnoc (acc : List V) (K : List V -> Hp -> Prop) (w : V) (h : Hp) : Prop:= K (acc ++ [w]) h
theorem in_c {m : ME} {l : Loc} {acc : List V} {K : List V -> Hp -> Prop} (q : wpE T call m l X (kSnoc acc K) h) : wp (bnd (eval T call m l) fun w => ret (acc ++ [w])) h K X:= w_b (uG q) fun _ _ z => yQ z
theorem in_ci {c m : ME} {l : Loc} {acc : List V} {K : List V -> Hp -> Prop} (q : wpE T call c l X (kTruth X (kIteS (wpE T call m l X (kSnoc acc K)) (K acc))) h) :
  wp (bnd (bnd (eval T call c l) truth) fun t => sel t (bnd (eval T call m l) fun w => ret (acc ++ [w])) (ret acc)) h K X :=
 ny (w_b (uG q) fun _ _ z => pY z fun _ _ y => rE y in_c fun z => yQ z)
@[irreducible] noncomputable def tq (P : Prop) : Prop:= P
theorem k_tq {P : Prop} (q : P) : tq P:= by unfold tq; exact q
theorem tq_is {P : Prop} (q : tq P) : P:= by unfold tq at q; exact q
@[reducible] noncomputable def kT (K : Bool -> Hp -> Prop) (b : Bool) (h : Hp) : Prop:= tq (K b h)
theorem in_t {c : ME} {l : Loc} {K : Bool -> Hp -> Prop} (q : wpE T call c l X (kTruth X (kT K)) h) : wp (bnd (eval T call c l) truth) h K X:= w_b (uG q) fun _ _ z => uW (kH z) (fun _ _ z => tq_is z) fun _ z => z
end
section
variable {call : Call} {h : Hp} {X : Hp -> Prop} {l : Loc}
theorem cS {α : Type} {m : Mo α} {Q : α -> Hp -> Prop} (q : wp m h Q noX) : wp (pT m) h Q X:= by
 unfold wp pT at *
 revert q
 cases m h with
 | ok a h' => intro q; exact q
 | exc h' => intro q; exact q
 | fail => intro q; exact q
theorem tL {step : V -> List V -> Mo (List V)} {s : Src} (xs : List V) (I : Nat -> List V -> Hp -> Prop) {Q : List V -> Hp -> Prop} (hl : xs.length < 64)
  (hs : ∀ i acc h, I i acc h -> jV s i h = some xs[i]?)
  (turn : ∀ i acc h v, xs[i]? = some v -> I i acc h -> wp (step v acc) h (fun acc' h' => I (i + 1) acc' h') X)
  (fin : ∀ acc h, I xs.length acc h -> Q acc h) (h0 : I 0 [] h) : wp (jF step s 64 0 []) h Q X:= by
 have key : ∀ k i acc h, i <= xs.length -> xs.length < k + i -> I i acc h -> wp (jF step s k i acc) h Q X:= by
  intro k
  induction k with
  | zero => intro i acc h h1 h2; lia
  | succ k ih =>
   intro i acc h h1 h2 hi
   have e:= hs i acc h hi
   by_cases hlt : i < xs.length
   ·
    have e2 : xs[i]? = some xs[i]:= List.getElem?_eq_getElem hlt
    rw [e2] at e
    have t:= turn i acc h _ e2 hi
    have : wp (bnd (step xs[i] acc) fun acc' => jF step s k (i + 1) acc') h Q X:= uQ (uW t (fun acc' h' z => ih (i + 1) acc' h' hlt (by lia) z) fun _ z => z)
    unfold wp at this ⊢
    simp only [jF, e]
    exact this
   ·
    have e2 : xs[i]? = none:= List.getElem?_eq_none (by exact uM hlt)
    rw [e2] at e
    have : i = xs.length:= tj h1 (uM hlt)
    subst this
    exact xH (a:= acc) (h':= h) (by simp only [jF, e]) (fin acc h hi)
 exact key 64 0 [] h (Nat.zero_le _) (by exact hl) h0
theorem xK {body : Loc -> Mo (Fl × Loc)} {x : Nat} {s : Src} (xs : List V) (I : Nat -> Loc -> Hp -> Prop) {Q : Fl × Loc -> Hp -> Prop} (hl : xs.length < 64)
  (hs : ∀ i l h, I i l h -> jV s i h = some xs[i]?)
  (turn : ∀ i l h v, xs[i]? = some v -> I i l h -> wp (body (put x v l)) h (fun r h' => match r.1 with | .ret w => Q (.ret w, r.2) h' | _ => I (i + 1) r.2 h') X)
  (fin : ∀ l h, I xs.length l h -> Q (.next, l) h) (h0 : I 0 l h) : wp (uT body x s 64 0 l) h Q X:= by
 have key : ∀ k i l h, i <= xs.length -> xs.length < k + i -> I i l h -> wp (uT body x s k i l) h Q X:= by
  intro k
  induction k with
  | zero => intro i l h h1 h2; lia
  | succ k ih =>
   intro i l h h1 h2 hi
   have e:= hs i l h hi
   by_cases hlt : i < xs.length
   ·
    have e2 : xs[i]? = some xs[i]:= List.getElem?_eq_getElem hlt
    rw [e2] at e
    have t:= turn i l h _ e2 hi
    have : wp (bnd (body (put x xs[i] l)) (fun r => match r.1 with
      | .ret w => ret (.ret w, r.2)
      | _ => uT body x s k (i + 1) r.2)) h Q X:= uQ (uW t (fun r h' z => by
     obtain ⟨f, l'⟩:= r
     cases f with
     | ret w => exact yQ z
     | next => exact ih (i + 1) l' h' hlt (by lia) z
     | cont => exact ih (i + 1) l' h' hlt (by lia) z) fun _ z => z)
    unfold wp at this ⊢
    simp only [uT, e]
    exact this
   ·
    have e2 : xs[i]? = none:= List.getElem?_eq_none (by exact uM hlt)
    rw [e2] at e
    have : i = xs.length:= tj h1 (uM hlt)
    subst this
    exact xH (a:= (Fl.next, l)) (h':= h) (by simp only [uT, e]) (fin l h hi)
 exact key 64 0 l h (Nat.zero_le _) (by exact hl) h0
noncomputable def lj (Q : V -> Hp -> Prop) (X : Hp -> Prop) : List V -> Hp -> Prop:= fun vs h => wp (zX (.lst vs)) h Q X
theorem e_comp {e it : ME} {x : Nat} {Q : V -> Hp -> Prop} (q : wp (eval tab call it l) h (fun v h1 => wp (jM v) h1 (fun s h2 =>
  wp (jF (fun v acc => bnd (eval tab call e (put x v l)) fun w => ret (acc ++ [w])) s 64 0 []) h2 (lj Q X) noX) X) X) : wp (eval tab call (.comp e x it) l) h Q X:= by
 exact w_b q fun _ _ z => w_b z fun _ _ z => uQ (cS z)
theorem tG {e it c : ME} {x : Nat} {Q : V -> Hp -> Prop} (q : wp (eval tab call it l) h (fun v h1 => wp (jM v) h1 (fun s h2 =>
  wp (jF (fun v acc => bnd (bnd (eval tab call c (put x v l)) truth) fun t => sel t (bnd (eval tab call e (put x v l)) fun w => ret (acc ++ [w])) (ret acc)) s 64 0 []) h2 (lj Q X) noX) X) X) : wp (eval tab call (.compIf e x it c) l) h Q X:= by
 exact w_b q fun _ _ z => w_b z fun _ _ z => uQ (cS z)
theorem a_mul {a b : Int} {Q : V -> Hp -> Prop} (e : small a = true \/ small b = true) (q : Q (.int (a * b)) h) : wp (lF .mul (.int a) (.int b)) h Q X:= by
 have : (small a || small b) = true:= by (revert e; refine oO (fun e => ?_) fun e => ?_) <;> simp [e]
 simp only [wp, lF, aop, iop, this, cond_true, opt, bnd, ret]; exact q
theorem a_fdiv {a b : Int} {Q : V -> Hp -> Prop} (e : 0 < b) (e2 : b < 1152921504606846976) (q : Q (.int (a / b)) h) : wp (lF .fdiv (.int a) (.int b)) h Q X:= by
 have s : small b = true:= zM (by exact as07 e rfl) e2
 have e3 : decide (b = 0) = false:= by simp; exact as11 e
 simp only [wp, lF, aop, iop, s, e3, Bool.not_false, Bool.and_true, cond_true, opt, bnd, ret]
 rw [Int.fdiv_eq_ediv_of_nonneg _ (by exact sw e)]; exact q
theorem a_shr {a n : Int} {Q : V -> Hp -> Prop} (e1 : 0 <= a) (e2 : 0 <= n) (e3 : n < 1152921504606846976) (q : Q (.int (a / 2 ^ n.toNat)) h) : wp (lF .shr (.int a) (.int n)) h Q X:= by
 have s : small n = true:= zM (by exact sr e2 rfl) e3
 simp only [wp, lF, aop, iop, e1, e2, s, decide_true, Bool.and_true, cond_true, opt, bnd, ret]
 rw [Int.fdiv_eq_ediv_of_nonneg _ (Int.le_of_lt (Int.pow_pos (by decide)))]; exact q
noncomputable def oU (Q : V -> Hp -> Prop) : Fl × Loc -> Hp -> Prop:= fun p h => match p.1 with
 | .ret v => Q v h
 | _ => Q .none h
theorem zV {n f : Nat} {fn : Fn} {vs : List V} {Q : V -> Hp -> Prop} (e : xI f tab.fns = some fn) (e2 : fn.ps.length = vs.length) (q : wp (exec tab (run tab n) fn.body (fn.ps.zip vs)) h (oU Q) X) : wp (run tab (n + 1) f vs) h Q X:= by
 have e3 : Nat.beq fn.ps.length vs.length = true:= by rw [e2]; exact Nat.beq_refl _
 have : run tab (n + 1) f vs = bnd (exec tab (run tab n) fn.body (fn.ps.zip vs)) fun p => match p.1 with
   | .ret v => ret v
   | _ => ret .none:= by simp only [run, e, e3, cond_true] <;> rfl
 rw [this]
 refine uQ (uW q (fun p h' z => ?_) fun _ z => z)
 obtain ⟨f, l'⟩:= p
 cases f <;> exact yQ z
theorem get_put_eq {x : Nat} {v : V} : ∀ {l : Loc}, get x (put x v l) = some v
 | [] => by simp [put, get]
 | (y, w) :: r => by
  simp only [put]
  cases q : Nat.beq y x with
  | true => simp [get]
  | false => simp only [cond_false, get, q]; exact get_put_eq
theorem uI {x y : Nat} {v w : V} (ne : y ≠ x) : ∀ {l : Loc}, get y l = some w -> get y (put x v l) = some w
 | [], h => by contradiction
 | (z, u) :: r, h => by
  simp only [put]
  cases q : Nat.beq z x with
  | true =>
   have e:= Nat.eq_of_beq_eq_true q
   subst e
   have q2 : Nat.beq z y = false:= by
    cases q3 : Nat.beq z y with
    | false => rfl
    | true => exact absurd (Nat.eq_of_beq_eq_true q3).symm ne
   simp only [cond_true, get, q2, cond_false] at h ⊢
   exact h
  | false =>
   simp only [cond_false, get] at h ⊢
   cases q2 : Nat.beq z y with
   | true => rw [q2] at h; exact h
   | false => rw [q2] at h; simp only [cond_false] at h ⊢; exact uI ne h
theorem q_ret {l : Loc} {v : V} {Q : V -> Hp -> Prop} (q : Q v h) : oU Q (.ret v, l) h:= q
theorem q_next {l : Loc} {Q : V -> Hp -> Prop} (q : Q .none h) : oU Q (.next, l) h:= q
theorem q_neg {i : Int} {Q : V -> Hp -> Prop} (q : Q (.int (-i)) h) : negQ Q (.int i) h:= q
theorem q_inv {i : Int} {Q : V -> Hp -> Prop} (q : Q (.int (Builtin.bitNot i)) h) : invQ Q (.int i) h:= q
theorem q_none {o : V} {Q : V -> Hp -> Prop} (q : Q o h) : fD Q o .none h:= q
theorem q_comp {vs : List V} {Q : V -> Hp -> Prop} (q : wp (zX (.lst vs)) h Q X) : lj Q X vs h:= q
theorem cT {test : Loc -> Mo Bool} {body : Loc -> Mo (Fl × Loc)} (I : Nat -> Loc -> Hp -> Prop) {Q : Fl × Loc -> Hp -> Prop} (N : Nat) (hN : N < 64)
  (turn : ∀ i l h, i <= N -> I i l h -> wp (test l) h (fun t h' => match t with
   | true => i < N /\ wp (body l) h' (fun r h2 => match r.1 with | .ret w => Q (.ret w, r.2) h2 | _ => I (i + 1) r.2 h2) X
   | false => Q (.next, l) h') X)
  (h0 : I 0 l h) : wp (qQ test body 64 l) h Q X:= by
 have key : ∀ k i l h, i <= N -> N < k + i -> I i l h -> wp (qQ test body k l) h Q X:= by
  intro k
  induction k with
  | zero => intro i l h h1 h2; lia
  | succ k ih =>
   intro i l h h1 h2 hi
   simp only [qQ]
   refine uQ (uW (turn i l h h1 hi) (fun t h' z => ?_) fun _ z => z)
   cases t with
   | false => exact yQ z
   | true =>
    refine uQ (uW z.2 (fun r h2 y => ?_) fun _ z => z)
    obtain ⟨f, l'⟩:= r
    cases f with
    | ret w => exact yQ y
    | next => exact ih (i + 1) l' h2 z.1 (by lia) y
    | cont => exact ih (i + 1) l' h2 z.1 (by lia) y
 exact key 64 0 l h (Nat.zero_le _) (by exact hN) h0
end
noncomputable def cB (I : Loc -> Hp -> Prop) (Q : Fl × Loc -> Hp -> Prop) : Fl × Loc -> Hp -> Prop:= fun p h => match p.1 with
 | .next => I p.2 h
 | .cont => Q (.cont, p.2) h
 | .ret v => Q (.ret v, p.2) h
section
variable {call : Call} {h : Hp} {X : Hp -> Prop} {l : Loc} {I : Loc -> Hp -> Prop} {Q : Fl × Loc -> Hp -> Prop}
theorem pt (q : I l h) : cB I Q (.next, l) h:= q
theorem pr {v : V} (q : Q (.ret v, l) h) : cB I Q (.ret v, l) h:= q
theorem pv (q : Q (.cont, l) h) : cB I Q (.cont, l) h:= q
theorem yD {s r : MS} (I : Loc -> Hp -> Prop) (q1 : wp (exec tab call s l) h (cB I Q) X) (q2 : ∀ l' h', I l' h' -> wp (exec tab call r l') h' Q X) : wp (exec tab call (.seq s r) l) h Q X:= by
 refine w_b q1 fun p h1 z => ?_
 obtain ⟨f, l'⟩:= p
 cases f with
 | next => exact q2 _ _ z
 | cont => exact yQ z
 | ret v => exact yQ z
end
noncomputable def Has (l fs : Loc) : Prop:= ∀ x v, get x fs = some v -> get x l = some v
theorem Has.get {l fs : Loc} {x : Nat} {v : V} (H : Has l fs) (e : Mine.Internal.get x fs = some v) : Mine.Internal.get x l = some v:= H x v e
theorem Has.nil {l : Loc} : Has l []:= fun _ _ e => nomatch e
theorem Has.c {l r : Loc} {x : Nat} {v : V} (e : Mine.Internal.get x l = some v) (H : Has l r) : Has l ((x, v) :: r):= fun y u e2 => by
 unfold Mine.Internal.get at e2
 cases q : Nat.beq x y with
 | true => rw [q] at e2; cases Nat.eq_of_beq_eq_true q; obtain rfl:= si e2; exact e
 | false => rw [q] at e2; exact H y u e2
theorem Has.put {l fs : Loc} {x : Nat} {v : V} (e : Mine.Internal.get x fs = none) (H : Has l fs) : Has (put x v l) fs:= fun y u e2 => uI (fun q => by rw [q, e] at e2; contradiction) (H y u e2)
local macro_rules | `(tactic| walk_at "lc") => `(tactic| with_reducible repeat' (first | exact get_put_eq | assumption | refine uI (by decide) ?_ | exact Has.get (by assumption) (by with_unfolding_all rfl) | with_unfolding_all rfl))
local macro_rules | `(tactic| walk_at "hs") => `(tactic| repeat' (first | assumption | exact Has.nil | refine Has.put (by with_unfolding_all rfl) ?_ | refine Has.c (by walk_at "lc") ?_))
local macro_rules | `(tactic| cbv) => `(tactic| repeat walk_at "st")
local macro_rules | `(tactic| walk_at "st") => `(tactic| first
 | refine yI ?_ | refine k_sq ?_ | refine k_tq ?_ | (with_reducible refine k_loc (v := ?v) ?e ?_; (case e => first | with_unfolding_all rfl | walk_at "lc"))
 | with_reducible first | refine pt ?_ | refine pr ?_ | refine pv ?_ | refine q_ret ?_ | refine q_next ?_ | refine q_none ?_ | refine q_comp ?_ | refine q_neg ?_ | refine q_inv ?_ | refine in_s ?_ | refine go_e rfl ?_ | refine in_c ?_ | refine in_ci ?_ | refine in_t ?_ | refine yQ ?_ | refine uQ ?_ | refine aN ?_ | refine qZ ?_ | refine de ?_ | refine df ?_ | refine db ?_ | refine da ?_)
noncomputable def Ext (h h' : Hp) : Prop:= ∀ (n : Nat) (o : O), h[n]? = some o -> h'[n]? = some o
theorem Ext.refl (h : Hp) : Ext h h:= fun _ _ e => e
theorem Ext.trans {a b c : Hp} (x : Ext a b) (y : Ext b c) : Ext a c:= fun n o e => y n o (x n o e)
theorem zI {h : Hp} {l : List O} {n : Nat} {o : O} (e : h[n]? = some o) : (h ++ l)[n]? = some o:= by
 rw [List.getElem?_append_left (List.getElem?_eq_some_iff.mp e).1]; exact e
theorem zC {h : Hp} {o : O} : (h ++ [o])[h.length]? = some o:= by simp
theorem Ext.app (h : Hp) (l : List O) : Ext h (h ++ l):= fun _ _ e => zI e
theorem Ext.app' {h0 h : Hp} (x : Ext h0 h) (l : List O) : Ext h0 (h ++ l):= x.trans (Ext.app h l)
theorem zJ {h : Hp} {n : Nat} {o : O} (e : h[n]? = some o) : n < h.length:= (List.getElem?_eq_some_iff.mp e).1
theorem Ext.len {h h' : Hp} (x : Ext h h') : h.length <= h'.length:= by
 refine oO (fun q => ?_) (fun q => ?_) (Nat.lt_or_ge h'.length h.length)
 ·
  have:= zJ (x _ _ (List.getElem?_eq_getElem q))
  exact ar35 this (cP this)
 ·
  exact q
theorem zD {h : Hp} {n m : Nat} {o x : O} (e : h[n]? = some o) (ne : n ≠ m) : (h.set m x)[n]? = some o:= by
 rw [List.getElem?_set_ne (Ne.symm ne)]; exact e
theorem zS {h : Hp} {n : Nat} {o x : O} (e : h[n]? = some o) : (h.set n x)[n]? = some x:= by
 rw [List.getElem?_set_self (zJ e)]
theorem Ext.set {h0 h : Hp} (x : Ext h0 h) {m : Nat} (hm : h0.length <= m) (o : O) : Ext h0 (h.set m o):= fun n o' e => zD (x n o' e) (by have:= zJ e; exact mj (yH this hm))
set_option genInjectivity false in
structure PA where
 p : Nat
 b : Nat
 k : Nat
 s : Nat
 hi : Nat
structure PV where
 board : List Int
 kinds : List Int
 sides : List Int
 hist : List (List Int)
 side : Int
 rights : Int
 ep : Int
 half : Int
 full : Int
 key : Int
noncomputable abbrev il (l : List Int) : List V:= l.map .int
noncomputable def pC (A : PA) (g z : Nat) (v : PV) : Loc :=
 [(8, .ref g), (9, .ref z), (17, .ref A.b), (16, .ref A.k), (15, .ref A.s), (5, .int v.side), (4, .int v.rights), (3, .int v.ep), (13, .int v.half), (12, .int v.full), (11, .int v.key), (10, .ref A.hi)]
noncomputable def HL (h : Hp) : List V -> List (List Int) -> Prop
 | [], [] => True
 | .ref r :: hl, t :: ts => h[r]? = some (.tup (il t)) /\ HL h hl ts
 | _, _ => False
theorem HL.ext {h h' : Hp} (k : ∀ (n : Nat) xs, h[n]? = some (.tup xs) -> h'[n]? = some (.tup xs)) : ∀ {hl : List V} {d : List (List Int)}, HL h hl d -> HL h' hl d
 | [], [], _ => trivial
 | .ref r :: hl, t :: ts, x => ⟨k _ _ x.1, HL.ext k x.2⟩
 | [], _ :: _, x => x.elim
 | .none :: _, [], x => x.elim
 | .bool _ :: _, [], x => x.elim
 | .int _ :: _, [], x => x.elim
 | .ref _ :: _, [], x => x.elim
 | .none :: _, _ :: _, x => x.elim
 | .bool _ :: _, _ :: _, x => x.elim
 | .int _ :: _, _ :: _, x => x.elim
structure PosAt (h : Hp) (A : PA) (g z : Nat) (v : PV) : Prop where
 pos : h[A.p]? = some (.ins 20 (pC A g z v))
 board : h[A.b]? = some (.lst (il v.board))
 kinds : h[A.k]? = some (.lst (il v.kinds))
 sides : h[A.s]? = some (.lst (il v.sides))
 hist : ∃ hl, h[A.hi]? = some (.lst hl) /\ HL h hl v.hist
 n1 : A.b ≠ A.k
 n2 : A.b ≠ A.s
 n3 : A.b ≠ A.hi
 n4 : A.k ≠ A.s
 n5 : A.k ≠ A.hi
 n6 : A.s ≠ A.hi
theorem PosAt.ext {h h' : Hp} {A : PA} {g z : Nat} {v : PV} (x : PosAt h A g z v) (k : Ext h h') : PosAt h' A g z v :=
 ⟨k _ _ x.pos, k _ _ x.board, k _ _ x.kinds, k _ _ x.sides, let ⟨hl, a, b⟩:= x.hist; ⟨hl, k _ _ a, b.ext fun _ _ e => k _ _ e⟩, x.n1, x.n2, x.n3, x.n4, x.n5, x.n6⟩
theorem apart {h : Hp} {a b : Nat} {o o' : O} (x : h[a]? = some o) (y : h[b]? = some o') (ne : o ≠ o') : a ≠ b:= fun e => by
 subst e; obtain rfl:= s2 x y; exact ne rfl
section
variable {h : Hp} {A : PA} {g z : Nat} {v : PV}
theorem HL.set_lst {hl : List V} {d : List (List Int)} (x : HL h hl d) {m : Nat} {o o' : O} (e : h[m]? = some o) (ne : ∀ xs, o ≠ .tup xs) : HL (h.set m o') hl d :=
 x.ext fun n xs q => zD q (apart q e (ne xs).symm)
theorem PosAt.set_board (x : PosAt h A g z v) (bs : List Int) : PosAt (h.set A.b (.lst (il bs))) A g z { v with board:= bs } :=
 let ⟨hl, a, b⟩:= x.hist
 ⟨zD x.pos (apart x.pos x.board (by simp)), zS x.board, zD x.kinds x.n1.symm, zD x.sides x.n2.symm, ⟨hl, zD a x.n3.symm, b.set_lst x.board (by simp)⟩, x.n1, x.n2, x.n3, x.n4, x.n5, x.n6⟩
theorem PosAt.set_kinds (x : PosAt h A g z v) (bs : List Int) : PosAt (h.set A.k (.lst (il bs))) A g z { v with kinds:= bs } :=
 let ⟨hl, a, b⟩:= x.hist
 ⟨zD x.pos (apart x.pos x.kinds (by simp)), zD x.board x.n1, zS x.kinds, zD x.sides x.n4.symm, ⟨hl, zD a x.n5.symm, b.set_lst x.kinds (by simp)⟩, x.n1, x.n2, x.n3, x.n4, x.n5, x.n6⟩
theorem PosAt.set_sides (x : PosAt h A g z v) (bs : List Int) : PosAt (h.set A.s (.lst (il bs))) A g z { v with sides:= bs } :=
 let ⟨hl, a, b⟩:= x.hist
 ⟨zD x.pos (apart x.pos x.sides (by simp)), zD x.board x.n2, zD x.kinds x.n4, zS x.sides, ⟨hl, zD a x.n6.symm, b.set_lst x.sides (by simp)⟩, x.n1, x.n2, x.n3, x.n4, x.n5, x.n6⟩
theorem PosAt.set_pos (x : PosAt h A g z v) {v' : PV} {g' : Nat} (hb : v'.board = v.board) (hk : v'.kinds = v.kinds) (hs : v'.sides = v.sides) (hh : v'.hist = v.hist) : PosAt (h.set A.p (.ins 20 (pC A g' z v'))) A g' z v' :=
 let ⟨hl, a, b⟩:= x.hist
 ⟨zS x.pos, by rw [hb]; exact zD x.board (apart x.board x.pos (by simp)), by rw [hk]; exact zD x.kinds (apart x.kinds x.pos (by simp)), by rw [hs]; exact zD x.sides (apart x.sides x.pos (by simp)),
  ⟨hl, zD a (apart a x.pos (by simp)), by rw [hh]; exact b.set_lst x.pos (by simp)⟩, x.n1, x.n2, x.n3, x.n4, x.n5, x.n6⟩
noncomputable def PA.Ge (A : PA) (N : Nat) : Prop:= N <= A.p /\ N <= A.b /\ N <= A.k /\ N <= A.s /\ N <= A.hi
noncomputable def PA.Has (A : PA) (n : Nat) : Prop:= n = A.p \/ n = A.b \/ n = A.k \/ n = A.s \/ n = A.hi
noncomputable def Keep (A : PA) (h h' : Hp) : Prop:= (∀ (n : Nat) (o : O), h[n]? = some o -> ¬ A.Has n -> h'[n]? = some o) /\ h.length <= h'.length
theorem Keep.refl (A : PA) (h : Hp) : Keep A h h:= ⟨fun _ _ e _ => e, Nat.le_refl _⟩
theorem Keep.trans {A : PA} {a b c : Hp} (x : Keep A a b) (y : Keep A b c) : Keep A a c:= ⟨fun n o e q => y.1 n o (x.1 n o e q) q, Nat.le_trans x.2 y.2⟩
theorem Keep.of_ext {A : PA} {a b : Hp} (x : Ext a b) : Keep A a b:= ⟨fun n o e _ => x n o e, x.len⟩
theorem Keep.set {A : PA} {a b : Hp} (x : Keep A a b) {m : Nat} (hm : A.Has m) (o : O) : Keep A a (b.set m o) :=
 ⟨fun n o' e q => zD (x.1 n o' e q) fun z => q (z ▸ hm), by rw [List.length_set]; exact x.2⟩
theorem Keep.ext {A : PA} {h0 a b : Hp} (x : Keep A a b) (y : Ext h0 a) (ge : A.Ge h0.length) : Ext h0 b:= fun n o e => x.1 n o (y n o e) fun q => by
 have:= zJ e
 revert ge; refine yE fun g1 g2 g3 g4 g5 => ?_
 rcases q with q | q | q | q | q <;> lia
end
section
variable {n : Nat} {h : Hp} {X : Hp -> Prop}
theorem vT {a b : Int} {Q : V -> Hp -> Prop} (q : Q (.int (a * 8 + b)) h) : wp (run tab (n + 1) 41 [.int a, .int b]) h Q X:= by
 refine zV (fn:= fn_make_piece) rfl rfl ?_
 cbv; refine xF (.inr rfl) ?_
 cbv; exact q
theorem tB {a : Int} {Q : V -> Hp -> Prop} (h0 : 0 <= a) (q : Q (.int (a / 8)) h) : wp (run tab (n + 1) 43 [.int a]) h Q X:= by
 refine zV (fn:= fn_side_of) rfl rfl ?_
 cbv; refine lS h0 (by decide) (by decide) ?_
 exact q
theorem vW {a : Int} {Q : V -> Hp -> Prop} (q : Q (.int (a % 8)) h) : wp (run tab (n + 1) 45 [.int a]) h Q X:= by
 refine zV (fn:= fn_kind_of) rfl rfl ?_
 cbv; rw [PyProof.Rows.bitAnd_m3]
 exact q
theorem tU {l : List Int} {k : Nat} {x : Int} (e : l[k]? = some x) : (il l)[k]? = some (.int x):= by rw [List.getElem?_map, e]; rfl
theorem mG {A : PA} {g z : Nat} {v : PV} (x : PosAt h A g z v) {a b : Nat} {c d : Int} {Q : V -> Hp -> Prop} (e1 : v.sides[a]? = some c) (e2 : v.kinds[b]? = some d) (ha : a < 100) (hb : b < 100) (q : Q (.int (Builtin.bitAnd c d)) h) :
  wp (run tab (n + 1) 2 [.ref A.p, .int a, .int b]) h Q X:= by
 refine zV (fn:= fn_pieces) rfl rfl ?_
 cbv; refine zA x.pos rfl ?_
 cbv; refine zF (.inl x.sides) (by exact zK) (by exact xJ ha rfl) (tU (by simpa using e1)) ?_
 cbv; refine zA x.pos rfl ?_
 cbv; refine zF (.inl x.kinds) (by exact zK) (by exact xJ hb rfl) (tU (by simpa using e2)) ?_
 exact q
end
theorem sE {f g : Nat -> Bool} {n s : Nat} (hs : s < n) (h : ∀ i, i < n -> i ≠ s -> g i = f i) (hd : g s = !f s) : bts g n = bts f n ^^^ 2 ^ s:= by
 refine Nat.eq_of_testBit_eq fun i => ?_
 rw [Nat.testBit_xor, yJ, yJ, Nat.testBit_two_pow]
 by_cases e : s = i
 ·
  subst e; simp [hs, hd]
 ·
  by_cases q : i < n
  ·
   rw [h i q (Ne.symm e)]; simp [q, e]
  ·
   simp [q, e]
theorem je {a b : Nat} (h : a ≠ b) : 2 ^ a ||| 2 ^ b = 2 ^ a ^^^ 2 ^ b:= by
 rw [tK]
 rw [Nat.testBit_two_pow]; simp [h]
noncomputable def gd (ck : List Nat) (s : Nat) : Nat:= ck.getD s 0
noncomputable def isK (ck : List Nat) (k s : Nat) : Bool:= decide (gd ck s ≠ 0) && decide (gd ck s % 8 = k)
noncomputable def isS (ck : List Nat) (w s : Nat) : Bool:= decide (gd ck s ≠ 0) && decide (gd ck s / 8 = w)
noncomputable def isM (ck : List Nat) (j : Nat) : Bool:= decide (j / ck.length ≠ 0) && decide (gd ck (j % ck.length) = j / ck.length)
noncomputable def kB (ck : List Nat) (k : Nat) : Nat:= bts (isK ck k) ck.length
noncomputable def sB (ck : List Nat) (w : Nat) : Nat:= bts (isS ck w) ck.length
noncomputable def jP (ck : List Nat) : Nat:= bts (isM ck) (15 * ck.length)
noncomputable def cI (ck : List Nat) : List Int:= ck.map fun (c : Nat) => (c : Int)
noncomputable def kL (ck : List Nat) : List Int:= (List.range 7).map fun k => (kB ck k : Int)
noncomputable def sL (ck : List Nat) : List Int:= [(sB ck 0 : Int), (sB ck 1 : Int)]
noncomputable def men : List Nat:= [1, 2, 3, 4, 5, 6, 9, 10, 11, 12, 13, 14]
noncomputable def Val (ck : List Nat) : Prop:= ∀ c ∈ ck, c = 0 \/ c ∈ men
noncomputable def pv0 (ck : List Nat) : PV:= ⟨cI ck, kL ck, sL ck, [], 0, 0, -1, 0, 1, (jP ck : Int)⟩
theorem xD {m : Nat} (h : m ∈ men) : 1 <= m % 8 /\ m % 8 <= 6 /\ m / 8 <= 1 /\ m < 15 /\ m ≠ 0:= by
 have k : ∀ m ∈ men, 1 <= m % 8 /\ m % 8 <= 6 /\ m / 8 <= 1 /\ m < 15 /\ m ≠ 0:= by decide
 exact k m h
theorem xN {ck : List Nat} {s : Nat} (h : s < ck.length) : ck[s]? = some (gd ck s):= by
 unfold gd; rw [List.getD_eq_getElem?_getD, List.getElem?_eq_getElem h]; rfl
theorem kq {ck : List Nat} {s : Nat} (h : ck.length <= s) : gd ck s = 0:= by
 unfold gd; rw [List.getD_eq_getElem?_getD, List.getElem?_eq_none h]; rfl
theorem gd_mem {ck : List Nat} {s : Nat} (h : gd ck s ≠ 0) : s < ck.length /\ gd ck s ∈ ck:= by
 refine oO (fun q => ?_) (fun q => ?_) (Nat.lt_or_ge s ck.length)
 ·
  exact ⟨q, List.mem_of_getElem? (xN q)⟩
 ·
  exact absurd (kq q) h
theorem Val.gd {ck : List Nat} (v : Val ck) (s : Nat) (h : gd ck s ≠ 0) : gd ck s ∈ men:= (v _ (gd_mem h).2).resolve_left h
theorem wL {ck : List Nat} {s m : Nat} (h : s < ck.length) (i : Nat) : gd (ck.set s m) i = if i = s then m else gd ck i:= by
 unfold gd
 rw [List.getD_eq_getElem?_getD, List.getD_eq_getElem?_getD]
 by_cases e : i = s
 ·
  subst e; rw [List.getElem?_set_self h]; simp
 ·
  rw [List.getElem?_set_ne (Ne.symm e)]; simp [e]
theorem yG {ck : List Nat} {s : Nat} (h : s < ck.length) : (cI ck)[s]? = some (gd ck s : Int):= by
 unfold cI; rw [List.getElem?_map, xN h]; rfl
theorem pE (ck : List Nat) (s m : Nat) : (cI ck).set s (m : Int) = cI (ck.set s m):= by unfold cI; rw [List.map_set]
theorem zN (ck : List Nat) : (cI ck).length = ck.length:= by simp [cI]
theorem wH (ck : List Nat) {k : Nat} (h : k < 7) : (kL ck)[k]? = some (kB ck k : Int):= by
 unfold kL; rw [List.getElem?_map, List.getElem?_range h]; rfl
theorem uC (ck : List Nat) {w : Nat} (h : w < 2) : (sL ck)[w]? = some (sB ck w : Int):= by
 match w, h with
 | 0, _ => rfl
 | 1, _ => rfl
theorem jy {ck : List Nat} {s m k : Nat} (hs : s < ck.length) (hk : k < 7) (h : ∀ k', k' ≠ k -> isK (ck.set s m) k' s = isK ck k' s) (hd : isK (ck.set s m) k s = !isK ck k s) :
  kL (ck.set s m) = (kL ck).set k ((kB ck k ^^^ 2 ^ s : Nat) : Int):= by
 have other : ∀ k' i, i ≠ s -> isK (ck.set s m) k' i = isK ck k' i:= fun k' i e => by unfold isK; rw [wL hs, if_neg e]
 have e0 : ∀ k', kB (ck.set s m) k' = if k' = k then kB ck k ^^^ 2 ^ s else kB ck k':= fun k' => by
  unfold kB
  rw [List.length_set]
  split
  ·
   rename_i e; subst e; exact sE hs (fun i _ e => other _ i e) hd
  ·
   rename_i e
   refine vY fun i _ => ?_
   by_cases q : i = s
   ·
    subst q; exact h _ e
   ·
    exact other _ i q
 refine List.ext_getElem? fun i => ?_
 by_cases hi : i < 7
 ·
  rw [wH _ hi, e0]
  by_cases e : i = k
  ·
   subst e; rw [if_pos rfl, List.getElem?_set_self (by simp [kL]; exact hi)]
  ·
   rw [if_neg e, List.getElem?_set_ne (Ne.symm e), wH _ hi]
 ·
  rw [List.getElem?_eq_none (by simp [kL]; exact uM hi), List.getElem?_eq_none (by simp [kL]; exact uM hi)]
theorem gp {ck : List Nat} {s m w : Nat} (hs : s < ck.length) (hk : w < 2) (h : ∀ k', k' ≠ w -> isS (ck.set s m) k' s = isS ck k' s) (hd : isS (ck.set s m) w s = !isS ck w s) :
  sL (ck.set s m) = (sL ck).set w ((sB ck w ^^^ 2 ^ s : Nat) : Int):= by
 have other : ∀ k' i, i ≠ s -> isS (ck.set s m) k' i = isS ck k' i:= fun k' i e => by unfold isS; rw [wL hs, if_neg e]
 have e0 : ∀ k', sB (ck.set s m) k' = if k' = w then sB ck w ^^^ 2 ^ s else sB ck k':= fun k' => by
  unfold sB
  rw [List.length_set]
  split
  ·
   rename_i e; subst e; exact sE hs (fun i _ e => other _ i e) hd
  ·
   rename_i e
   refine vY fun i _ => ?_
   by_cases q : i = s
   ·
    subst q; exact h _ e
   ·
    exact other _ i q
 unfold sL
 rw [e0, e0]
 match w, hk with
 | 0, _ => rfl
 | 1, _ => rfl
theorem fV {ck : List Nat} {s m j : Nat} (hs : s < ck.length) (hj : j < 15 * ck.length) (hjs : j % ck.length = s) (h : ∀ i, i ≠ j -> i % ck.length = s -> isM (ck.set s m) i = isM ck i) (hd : isM (ck.set s m) j = !isM ck j) :
  jP (ck.set s m) = jP ck ^^^ 2 ^ j:= by
 unfold jP
 rw [List.length_set]
 refine sE hj (fun i _ e => ?_) hd
 by_cases q : i % ck.length = s
 ·
  exact h i e q
 ·
  unfold isM; rw [List.length_set, wL hs, if_neg q]
section
variable {ck : List Nat} {s m : Nat}
theorem jdm (hs : s < ck.length) : (m * ck.length + s) % ck.length = s /\ (m * ck.length + s) / ck.length = m:= by
 have hp : 0 < ck.length:= tu gC hs
 constructor
 ·
  rw [Nat.mul_comm, Nat.mul_add_mod]; exact Nat.mod_eq_of_lt hs
 ·
  rw [Nat.mul_comm, Nat.mul_add_div hp, Nat.div_eq_of_lt hs]; rfl
theorem jlt (hs : s < ck.length) (hm : m < 15) : m * ck.length + s < 15 * ck.length:= by
 have:= Nat.mul_le_mul_right ck.length (show m + 1 <= 15 by exact cr (ar52 hm) rfl)
 rw [Nat.add_mul] at this
 lia
theorem jeq {i : Nat} (h : i % ck.length = s) (h2 : i / ck.length = m) : i = m * ck.length + s:= by
 have:= Nat.div_add_mod i ck.length
 rw [h, h2, Nat.mul_comm] at this
 exact this.symm
theorem gz (hs : s < ck.length) (h0 : gd ck s = 0) (hm : m ∈ men) : kL (ck.set s m) = (kL ck).set (m % 8) ((kB ck (m % 8) ^^^ 2 ^ s : Nat) : Int):= by
 refine yE (fun a b c d e => ?_) (xD hm)
 refine jy hs (by exact jH b rfl) (fun k' hk => ?_) ?_ <;> unfold isK <;> rw [wL hs, if_pos rfl, h0]
 ·
  have : decide (m % 8 = k') = false:= by simp; exact sG hk
  rw [this]; simp
 ·
  simp [e]
theorem gy (hs : s < ck.length) (h0 : gd ck s = 0) (hm : m ∈ men) : sL (ck.set s m) = (sL ck).set (m / 8) ((sB ck (m / 8) ^^^ 2 ^ s : Nat) : Int):= by
 refine yE (fun a b c d e => ?_) (xD hm)
 refine gp hs (by exact jH c rfl) (fun k' hk => ?_) ?_ <;> unfold isS <;> rw [wL hs, if_pos rfl, h0]
 ·
  have : decide (m / 8 = k') = false:= by simp; exact sG hk
  rw [this]; simp
 ·
  simp [e]
theorem bE (hs : s < ck.length) (h0 : gd ck s = 0) (hm : m ∈ men) : jP (ck.set s m) = jP ck ^^^ 2 ^ (m * ck.length + s):= by
 refine yE (fun a b c d e => ?_) (xD hm)
 have j:= jdm (m:= m) hs
 refine fV hs (jlt hs d) j.1 (fun i hi hi2 => ?_) ?_ <;> unfold isM <;> rw [List.length_set, wL hs]
 ·
  rw [if_pos hi2, hi2, h0]
  have : i / ck.length ≠ m:= fun z => hi (jeq hi2 z)
  by_cases q : i / ck.length = 0
  ·
   simp [q]
  ·
   have e1 : decide (m = i / ck.length) = false:= by simp; exact sG this
   have e2 : decide (0 = i / ck.length) = false:= by simp; exact sG q
   rw [e1, e2]
 ·
  rw [j.1, j.2, if_pos rfl, h0]
  have e2 : decide (0 = m) = false:= by simp; exact sG e
  simp [e, e2]
theorem bA (hs : s < ck.length) (h0 : gd ck s = m) (hm : m ∈ men) : kL (ck.set s 0) = (kL ck).set (m % 8) ((kB ck (m % 8) ^^^ 2 ^ s : Nat) : Int):= by
 refine yE (fun a b c d e => ?_) (xD hm)
 refine jy hs (by exact jH b rfl) (fun k' hk => ?_) ?_ <;> unfold isK <;> rw [wL hs, if_pos rfl, h0]
 ·
  have : decide (m % 8 = k') = false:= by simp; exact sG hk
  rw [this]; simp
 ·
  simp [e]
theorem cZ (hs : s < ck.length) (h0 : gd ck s = m) (hm : m ∈ men) : sL (ck.set s 0) = (sL ck).set (m / 8) ((sB ck (m / 8) ^^^ 2 ^ s : Nat) : Int):= by
 refine yE (fun a b c d e => ?_) (xD hm)
 refine gp hs (by exact jH c rfl) (fun k' hk => ?_) ?_ <;> unfold isS <;> rw [wL hs, if_pos rfl, h0]
 ·
  have : decide (m / 8 = k') = false:= by simp; exact sG hk
  rw [this]; simp
 ·
  simp [e]
theorem gO (hs : s < ck.length) (h0 : gd ck s = m) (hm : m ∈ men) : jP (ck.set s 0) = jP ck ^^^ 2 ^ (m * ck.length + s):= by
 refine yE (fun a b c d e => ?_) (xD hm)
 have j:= jdm (m:= m) hs
 refine fV hs (jlt hs d) j.1 (fun i hi hi2 => ?_) ?_ <;> unfold isM <;> rw [List.length_set, wL hs]
 ·
  rw [if_pos hi2, hi2, h0]
  have : i / ck.length ≠ m:= fun z => hi (jeq hi2 z)
  by_cases q : i / ck.length = 0
  ·
   simp [q]
  ·
   have e1 : decide (m = i / ck.length) = false:= by simp; exact sG this
   have e2 : decide (0 = i / ck.length) = false:= by simp; exact sG q
   rw [e1, e2]
 ·
  rw [j.1, j.2, if_pos rfl, h0]
  have e2 : decide (0 = m) = false:= by simp; exact sG e
  simp [e, e2]
end
theorem Val.set {ck : List Nat} (v : Val ck) {s m : Nat} (h : m = 0 \/ m ∈ men) : Val (ck.set s m):= fun c hc => by
 rcases List.mem_or_eq_of_mem_set hc with q | rfl
 ·
  exact v c q
 ·
  exact h
theorem kB_off {ck : List Nat} {s k : Nat} (h : gd ck s = 0) : (kB ck k).testBit s = false:= by unfold kB; rw [yJ]; simp [isK, h]
theorem sB_off {ck : List Nat} {s k : Nat} (h : gd ck s = 0) : (sB ck k).testBit s = false:= by unfold sB; rw [yJ]; simp [isS, h]
set_option genInjectivity false in
structure SI where
 fg : Nat
 rg : Nat
 dv : Bool
 wg : Bool
 g : Nat
 z : Nat
 rows : Nat
 epl : Nat
 rl : Nat
 rm : Nat
 pw : Nat
 p0 : Nat
 p1 : Nat
 cs : Nat
 rowA : Nat -> Nat
 gf : Loc
 zf : Loc
 rowL : List V
noncomputable abbrev SI.size (S : SI) : Nat:= S.fg * S.rg
noncomputable def SI.room (S : SI) (i : Nat) : Bool:= if i % 2 = 1 then decide (2 < S.fg / 2) else decide (S.fg / 2 + 2 < S.fg - 1)
noncomputable def SI.kingSq (S : SI) (i : Nat) : Nat:= i / 2 * (S.size - S.fg) + S.fg / 2
noncomputable def SI.rookSq (S : SI) (i : Nat) : Nat:= i / 2 * (S.size - S.fg) + (if i % 2 = 1 then 0 else S.fg - 1)
noncomputable def SI.att (S : SI) (w s t : Nat) : Bool:= (if w = 0 then decide (t / S.fg = s / S.fg + 1) else decide (t / S.fg + 1 = s / S.fg)) && (decide (t % S.fg = s % S.fg + 1) || decide (t % S.fg + 1 = s % S.fg))
structure Stat (h : Hp) (S : SI) : Prop where
 f2 : 2 <= S.fg
 f8 : S.fg <= 8
 r3 : 3 <= S.rg
 r8 : S.rg <= 8
 sz : S.fg * S.rg <= 21
 fr : S.fg ≠ S.rg
 dbl : S.dv = true -> S.fg = 4 /\ S.rg = 5
 geo : h[S.g]? = some (.ins 34 S.gf)
 g22 : get 22 S.gf = some (.int S.fg)
 g23 : get 23 S.gf = some (.int S.rg)
 g19 : get 19 S.gf = some (.int (S.fg * S.rg : Nat))
 g12 : get 12 S.gf = some (.int (2 ^ (S.fg * S.rg) - 1 : Nat))
 g24 : get 24 S.gf = some (.bool S.dv)
 g32 : get 32 S.gf = some (.ref S.rm)
 g28 : get 28 S.gf = some (.ref S.pw)
 g27 : get 27 S.gf = some (.ref S.cs)
 zob : h[S.z]? = some (.ins 6 S.zf)
 z2 : get 2 S.zf = some (.ref S.rows)
 z3 : get 3 S.zf = some (.ref S.epl)
 z4 : get 4 S.zf = some (.ref S.rl)
 z5 : get 5 S.zf = some (.int (2 ^ (15 * (S.fg * S.rg) + 4 + S.fg) : Nat))
 rws : h[S.rows]? = some (.lst S.rowL)
 row : ∀ m, m < 15 -> S.rowL[m]? = some (.ref (S.rowA m)) /\ ∃ xs, h[S.rowA m]? = some (.lst xs) /\ ∀ s, s < S.fg * S.rg -> xs[s]? = some (.int (2 ^ (m * (S.fg * S.rg) + s) : Nat))
 ept : ∃ xs, h[S.epl]? = some (.lst xs) /\ ∀ f, f < S.fg -> xs[f]? = some (.int (2 ^ (15 * (S.fg * S.rg) + 4 + f) : Nat))
 rgt : ∃ xs, h[S.rl]? = some (.lst xs) /\ ∀ r, r < 16 -> xs[r]? = some (.int (r * 2 ^ (15 * (S.fg * S.rg)) : Nat))
 rmk : ∃ xs, h[S.rm]? = some (.lst xs) /\ ∀ r, r < S.rg -> xs[r]? = some (.int ((2 ^ S.fg - 1) * 2 ^ (r * S.fg) : Nat))
 pwl : h[S.pw]? = some (.lst [.ref S.p0, .ref S.p1])
 pwn : ∀ w, w < 2 -> ∃ xs, h[if w = 0 then S.p0 else S.p1]? = some (.lst xs) /\ ∀ s, s < S.fg * S.rg -> xs[s]? = some (.int (bts (S.att w s) (S.fg * S.rg) : Nat))
 cst : ∃ xs, h[S.cs]? = some (.lst xs) /\ ∀ i, i < 4 -> if (S.wg && S.room i) = true then ∃ t b d, xs[i]? = some (.ref t) /\ h[t]? = some (.tup [.int (S.kingSq i : Nat), b, .int (S.rookSq i : Nat), d]) else xs[i]? = some .none
section
variable {n : Nat} {h : Hp} {X : Hp -> Prop} {A : PA} {g z : Nat} {v : PV}
theorem qS (l : List Int) (k : Nat) (y : Int) : (il l).set k (.int y) = il (l.set k y):= by simp [il, List.map_set]
theorem wB {k y : Int} {Q : Unit -> Hp -> Prop} (x : PosAt h A g z v) (e1 : 0 <= k) (e2 : k < v.board.length) (e3 : k < 1152921504606846976)
  (q : ∀ h', Keep A h h' -> PosAt h' A g z { v with board:= v.board.set k.toNat y } -> Q () h') : wp (yR (.ref A.b) (.int k) (.int y)) h Q X:= by
 cbv; refine wA x.board e1 (by simpa using e2) e3 ?_
 rw [qS]; exact q _ ((Keep.refl A h).set (.inr (.inl rfl)) _) (x.set_board _)
theorem vE {k y : Int} {Q : Unit -> Hp -> Prop} (x : PosAt h A g z v) (e1 : 0 <= k) (e2 : k < v.kinds.length) (e3 : k < 1152921504606846976)
  (q : ∀ h', Keep A h h' -> PosAt h' A g z { v with kinds:= v.kinds.set k.toNat y } -> Q () h') : wp (yR (.ref A.k) (.int k) (.int y)) h Q X:= by
 cbv; refine wA x.kinds e1 (by simpa using e2) e3 ?_
 rw [qS]; exact q _ ((Keep.refl A h).set (.inr (.inr (.inl rfl))) _) (x.set_kinds _)
theorem vD {k y : Int} {Q : Unit -> Hp -> Prop} (x : PosAt h A g z v) (e1 : 0 <= k) (e2 : k < v.sides.length) (e3 : k < 1152921504606846976)
  (q : ∀ h', Keep A h h' -> PosAt h' A g z { v with sides:= v.sides.set k.toNat y } -> Q () h') : wp (yR (.ref A.s) (.int k) (.int y)) h Q X:= by
 cbv; refine wA x.sides e1 (by simpa using e2) e3 ?_
 rw [qS]; exact q _ ((Keep.refl A h).set (.inr (.inr (.inr (.inl rfl)))) _) (x.set_sides _)
theorem zY {a : Nat} {y : V} {v' : PV} {g' : Nat} {Q : Unit -> Hp -> Prop} (x : PosAt h A g z v) (e : put a y (pC A g z v) = pC A g' z v') (hb : v'.board = v.board) (hk : v'.kinds = v.kinds) (hs : v'.sides = v.sides) (hh : v'.hist = v.hist)
  (q : ∀ h', Keep A h h' -> PosAt h' A g' z v' -> Q () h') : wp (setattr (.ref A.p) a y) h Q X:= by
 cbv; refine sI x.pos ?_
 rw [e]; exact q _ ((Keep.refl A h).set (.inl rfl) _) (x.set_pos hb hk hs hh)
theorem xB {k y : Int} {Q : V -> Hp -> Prop} (x : PosAt h A g z v) (e1 : 0 <= k) (e2 : v.board[k.toNat]? = some y) (e3 : k < 1152921504606846976) (q : Q (.int y) h) : wp (yO (.ref A.b) (.int k)) h Q X :=
 zF (.inl x.board) e1 e3 (tU e2) q
theorem xP {k y : Int} {Q : V -> Hp -> Prop} (x : PosAt h A g z v) (e1 : 0 <= k) (e2 : v.kinds[k.toNat]? = some y) (e3 : k < 1152921504606846976) (q : Q (.int y) h) : wp (yO (.ref A.k) (.int k)) h Q X :=
 zF (.inl x.kinds) e1 e3 (tU e2) q
theorem xA {k y : Int} {Q : V -> Hp -> Prop} (x : PosAt h A g z v) (e1 : 0 <= k) (e2 : v.sides[k.toNat]? = some y) (e3 : k < 1152921504606846976) (q : Q (.int y) h) : wp (yO (.ref A.s) (.int k)) h Q X :=
 zF (.inl x.sides) e1 e3 (tU e2) q
theorem kY {h0 : Hp} {S : SI} (hS : Stat h0 S) (hx : Ext h0 h) {m : Nat} {Q : V -> Hp -> Prop} (hm : m < 15) (q : Q (.ref (S.rowA m)) h) : wp (yO (.ref S.rows) (.int m)) h Q X :=
 zF (.inl (hx _ _ hS.rws)) (by exact zK) (by exact xJ hm rfl) (by simpa using (hS.row m hm).1) q
theorem nN {h0 : Hp} {S : SI} (hS : Stat h0 S) (hx : Ext h0 h) {m s : Nat} {Q : V -> Hp -> Prop} (hm : m < 15) (hs : s < S.fg * S.rg) (q : Q (.int (2 ^ (m * (S.fg * S.rg) + s) : Nat)) h) : wp (yO (.ref (S.rowA m)) (.int s)) h Q X:= by
 refine oEA (fun xs h1 h2 => ?_) ((hS.row m hm).2)
 have:= hS.sz
 exact zF (.inl (hx _ _ h1)) (by exact zK) (by exact xJ (yH hs this) rfl) (by simpa using h2 s hs) q
theorem pA (ck : List Nat) : (kL ck).length = 7:= by simp [kL]
theorem toN (a : Nat) : (a : Int).toNat = a:= rfl
theorem sh1 (s : Nat) : (1 : Int) * 2 ^ (s : Int).toNat = ((2 ^ s : Nat) : Int):= by rw [Int.one_mul, toN]; simp
theorem ks8 (m : Nat) : (m : Int) % 8 = ((m % 8 : Nat) : Int) /\ (m : Int) / 8 = ((m / 8 : Nat) : Int):= by lia
theorem qK {h0 : Hp} {S : SI} (hS : Stat h0 S) (hx : Ext h0 h) (ge : A.Ge h0.length) {ck : List Nat} (hl : ck.length = S.fg * S.rg) {m s : Nat} (x : PosAt h A S.g S.z (pv0 ck)) (hs : s < ck.length) (he : gd ck s = 0) (hm : m ∈ men) {Q : V -> Hp -> Prop}
  (q : ∀ h', Keep A h h' -> PosAt h' A S.g S.z (pv0 (ck.set s m)) -> Q .none h') : wp (run tab (n + 2) 51 [.ref A.p, .int m, .int s]) h Q X:= by
 refine yE (fun m1 m2 m3 m4 m5 => ?_) (xD hm)
 have sz:= hS.sz
 refine zV (fn:= fn_put_piece) rfl rfl ?_
 cbv; refine wC (by exact zK) (by exact sk hs hl sz rfl) rfl ?_
 rw [sh1]
 cbv; refine zA x.pos rfl ?_
 cbv; refine wB x (by exact zK) (by show _ < ((cI ck).length : Int); rw [zN]; exact vL hs) (by exact gA hs hl sz rfl) fun h1 k1 x1 => ?_
 dsimp only [pv0] at x1
 cbv; refine zA x1.pos rfl ?_
 cbv; refine vW ?_
 rw [(ks8 m).1]
 cbv; refine xP x1 (by exact zK) (by rw [toN]; exact wH ck (mf m2)) (by exact yP m2 rfl) ?_
 cbv; rw [bOr]
 cbv; refine vE x1 (by exact zK) (by show _ < ((kL ck).length : Int); rw [pA]; exact yP m2 rfl) (by exact yP m2 rfl) fun h2 k2 x2 => ?_
 dsimp only at x2
 cbv; refine zA x2.pos rfl ?_
 cbv; refine tB (by exact zK) ?_
 rw [(ks8 m).2]
 cbv; refine xA x2 (by exact zK) (by rw [toN]; exact uC ck (by exact lz (ar82 m3) rfl)) (by exact yP m3 rfl) ?_
 cbv; rw [bOr]
 cbv; refine vD x2 (by exact zK) (by show _ < ((sL ck).length : Int); simp [sL]; lia) (by exact yP m3 rfl) fun h3 k3 x3 => ?_
 dsimp only at x3
 have k3:= k1.trans (k2.trans k3)
 have hx3:= k3.ext hx ge
 cbv; refine zA x3.pos rfl ?_
 cbv; refine zA x3.pos rfl ?_
 cbv; refine zA (hx3 _ _ hS.zob) hS.z2 ?_
 cbv; refine kY hS hx3 m4 ?_
 cbv; refine nN hS hx3 m4 (by exact eX hl hs) ?_
 cbv; try refine yI ?_
 show wp (setattr _ _ (.int (Builtin.bitXor (jP ck : Int) _))) _ _ _
 rw [tY]
 cbv; refine zY (g':= S.g) (v':= pv0 (ck.set s m)) x3 ?_ ?_ ?_ ?_ rfl fun h4 k4 x4 => ?_
 ·
  unfold pv0; rw [bE hs he hm, hl]; rfl
 ·
  exact (pE ck s m).symm
 ·
  show kL _ = (kL ck).set _ _; rw [gz hs he hm, tK (kB_off he)]; rfl
 ·
  show sL _ = (sL ck).set _ _; rw [gy hs he hm, tK (sB_off he)]; rfl
 cbv; exact q _ (k3.trans k4) x4
theorem iI {h0 : Hp} {S : SI} (hS : Stat h0 S) (hx : Ext h0 h) (ge : A.Ge h0.length) {ck : List Nat} (hl : ck.length = S.fg * S.rg) {m s : Nat} (x : PosAt h A S.g S.z (pv0 ck)) (hs : s < ck.length) (he : gd ck s = m) (hm : m ∈ men) {Q : V -> Hp -> Prop}
  (q : ∀ h', Keep A h h' -> PosAt h' A S.g S.z (pv0 (ck.set s 0)) -> Q (.int m) h') : wp (run tab (n + 2) 54 [.ref A.p, .int s]) h Q X:= by
 refine yE (fun m1 m2 m3 m4 m5 => ?_) (xD hm)
 have sz:= hS.sz
 refine zV (fn:= fn_take_piece) rfl rfl ?_
 cbv; refine zA x.pos rfl ?_
 cbv; refine xB (y:= (m : Int)) x (by exact zK) (by rw [toN, <- he]; exact yG hs) (by exact gA hs hl sz rfl) ?_
 cbv; refine wC (by exact zK) (by exact sk hs hl sz rfl) rfl ?_
 rw [sh1]
 cbv; refine zA x.pos rfl ?_
 cbv; refine wB x (by exact zK) (by show _ < ((cI ck).length : Int); rw [zN]; exact vL hs) (by exact gA hs hl sz rfl) fun h1 k1 x1 => ?_
 dsimp only [pv0] at x1
 cbv; refine zA x1.pos rfl ?_
 cbv; refine vW ?_
 rw [(ks8 m).1]
 cbv; refine xP x1 (by exact zK) (by rw [toN]; exact wH ck (mf m2)) (by exact yP m2 rfl) ?_
 cbv; rw [tY]
 cbv; refine vE x1 (by exact zK) (by show _ < ((kL ck).length : Int); rw [pA]; exact yP m2 rfl) (by exact yP m2 rfl) fun h2 k2 x2 => ?_
 dsimp only at x2
 cbv; refine zA x2.pos rfl ?_
 cbv; refine tB (by exact zK) ?_
 rw [(ks8 m).2]
 cbv; refine xA x2 (by exact zK) (by rw [toN]; exact uC ck (by exact lz (ar82 m3) rfl)) (by exact yP m3 rfl) ?_
 cbv; rw [tY]
 cbv; refine vD x2 (by exact zK) (by show _ < ((sL ck).length : Int); simp [sL]; lia) (by exact yP m3 rfl) fun h3 k3 x3 => ?_
 dsimp only at x3
 have k3:= k1.trans (k2.trans k3)
 have hx3:= k3.ext hx ge
 cbv; refine zA x3.pos rfl ?_
 cbv; refine zA x3.pos rfl ?_
 cbv; refine zA (hx3 _ _ hS.zob) hS.z2 ?_
 cbv; refine kY hS hx3 m4 ?_
 cbv; refine nN hS hx3 m4 (by exact eX hl hs) ?_
 cbv; try refine yI ?_
 show wp (setattr _ _ (.int (Builtin.bitXor (jP ck : Int) _))) _ _ _
 rw [tY]
 cbv; refine zY (g':= S.g) (v':= pv0 (ck.set s 0)) x3 ?_ ?_ ?_ ?_ rfl fun h4 k4 x4 => ?_
 ·
  unfold pv0; rw [gO hs he hm, hl]; rfl
 ·
  exact (pE ck s 0).symm
 ·
  show kL _ = (kL ck).set _ _; rw [bA hs he hm]; rfl
 ·
  show sL _ = (sL ck).set _ _; rw [cZ hs he hm]; rfl
 cbv; exact q _ (k3.trans k4) x4
theorem gg {ck : List Nat} {a b m : Nat} (ha : a < ck.length) (hb : b < ck.length) (hab : a ≠ b) (he : gd ck a = m) (hm : m ∈ men) (hf : gd ck b = 0) :
  kL ((ck.set a 0).set b m) = (kL ck).set (m % 8) ((kB ck (m % 8) ^^^ (2 ^ a ||| 2 ^ b) : Nat) : Int):= by
 refine yE (fun m1 m2 m3 m4 m5 => ?_) (xD hm)
 have t:= bA ha he hm
 have hf' : gd (ck.set a 0) b = 0:= by rw [wL ha, if_neg hab.symm]; exact hf
 rw [gz (by rw [List.length_set]; exact hb) hf' hm, t, List.set_set]
 have e : kB (ck.set a 0) (m % 8) = kB ck (m % 8) ^^^ 2 ^ a:= by
  have g:= wH (ck.set a 0) (k:= m % 8) (by exact jH m2 rfl)
  rw [t, List.getElem?_set_self (by rw [pA]; exact jH m2 rfl)] at g
  have:= Option.some.inj g
  lia
 rw [e, je hab, Nat.xor_assoc]
theorem gc {ck : List Nat} {a b m : Nat} (ha : a < ck.length) (hb : b < ck.length) (hab : a ≠ b) (he : gd ck a = m) (hm : m ∈ men) (hf : gd ck b = 0) :
  sL ((ck.set a 0).set b m) = (sL ck).set (m / 8) ((sB ck (m / 8) ^^^ (2 ^ a ||| 2 ^ b) : Nat) : Int):= by
 refine yE (fun m1 m2 m3 m4 m5 => ?_) (xD hm)
 have t:= cZ ha he hm
 have hf' : gd (ck.set a 0) b = 0:= by rw [wL ha, if_neg hab.symm]; exact hf
 rw [gy (by rw [List.length_set]; exact hb) hf' hm, t, List.set_set]
 have e : sB (ck.set a 0) (m / 8) = sB ck (m / 8) ^^^ 2 ^ a:= by
  have g:= uC (ck.set a 0) (w:= m / 8) (by exact jH m3 rfl)
  rw [t, List.getElem?_set_self (by simp [sL]; exact jH m3 rfl)] at g
  have:= Option.some.inj g
  lia
 rw [e, je hab, Nat.xor_assoc]
theorem aW {ck : List Nat} {a b m : Nat} (ha : a < ck.length) (hb : b < ck.length) (hab : a ≠ b) (he : gd ck a = m) (hm : m ∈ men) (hf : gd ck b = 0) :
  jP ((ck.set a 0).set b m) = jP ck ^^^ (2 ^ (m * ck.length + a) ^^^ 2 ^ (m * ck.length + b)):= by
 have hf' : gd (ck.set a 0) b = 0:= by rw [wL ha, if_neg hab.symm]; exact hf
 rw [bE (by rw [List.length_set]; exact hb) hf' hm, gO ha he hm, List.length_set, Nat.xor_assoc]
theorem lK {h0 : Hp} {S : SI} (hS : Stat h0 S) (hx : Ext h0 h) (ge : A.Ge h0.length) {ck : List Nat} (hl : ck.length = S.fg * S.rg) {m a b : Nat} (x : PosAt h A S.g S.z (pv0 ck)) (ha : a < ck.length) (hb : b < ck.length) (hab : a ≠ b) (he : gd ck a = m) (hm : m ∈ men) (hf : gd ck b = 0) {Q : V -> Hp -> Prop}
  (q : ∀ h', Keep A h h' -> PosAt h' A S.g S.z (pv0 ((ck.set a 0).set b m)) -> Q .none h') : wp (run tab (n + 2) 55 [.ref A.p, .int a, .int b]) h Q X:= by
 refine yE (fun m1 m2 m3 m4 m5 => ?_) (xD hm)
 have sz:= hS.sz
 refine zV (fn:= fn_shift_piece) rfl rfl ?_
 cbv; refine zA x.pos rfl ?_
 cbv; refine xB (y:= (m : Int)) x (by exact zK) (by rw [toN, <- he]; exact yG ha) (by exact gA ha hl sz rfl) ?_
 cbv; refine wC (by exact zK) (by exact sk ha hl sz rfl) rfl ?_
 rw [sh1]
 cbv; refine wC (by exact zK) (by exact sk hb hl sz rfl) rfl ?_
 rw [sh1]
 cbv; rw [bOr]
 cbv; refine zA x.pos rfl ?_
 cbv; refine wB x (by exact zK) (by show _ < ((cI ck).length : Int); rw [zN]; exact vL ha) (by exact gA ha hl sz rfl) fun h1 k1 x1 => ?_
 dsimp only [pv0] at x1
 cbv; refine zA x1.pos rfl ?_
 cbv; refine wB x1 (by exact zK) (by dsimp only; rw [List.length_set, zN]; exact vL hb) (by exact gA hb hl sz rfl) fun h2 k2 x2 => ?_
 dsimp only at x2
 cbv; refine zA x2.pos rfl ?_
 cbv; refine vW ?_
 rw [(ks8 m).1]
 cbv; refine xP x2 (by exact zK) (by rw [toN]; exact wH ck (mf m2)) (by exact yP m2 rfl) ?_
 cbv; rw [tY]
 cbv; refine vE x2 (by exact zK) (by show _ < ((kL ck).length : Int); rw [pA]; exact yP m2 rfl) (by exact yP m2 rfl) fun h3 k3 x3 => ?_
 dsimp only at x3
 cbv; refine zA x3.pos rfl ?_
 cbv; refine tB (by exact zK) ?_
 rw [(ks8 m).2]
 cbv; refine xA x3 (by exact zK) (by rw [toN]; exact uC ck (by exact lz (ar82 m3) rfl)) (by exact yP m3 rfl) ?_
 cbv; rw [tY]
 cbv; refine vD x3 (by exact zK) (by show _ < ((sL ck).length : Int); simp [sL]; lia) (by exact yP m3 rfl) fun h4 k4 x4 => ?_
 dsimp only at x4
 have k4:= k1.trans (k2.trans (k3.trans k4))
 have hx4:= k4.ext hx ge
 cbv; refine zA x4.pos rfl ?_
 cbv; refine zA (hx4 _ _ hS.zob) hS.z2 ?_
 cbv; refine kY hS hx4 m4 ?_
 cbv; refine zA x4.pos rfl ?_
 cbv; refine nN hS hx4 m4 (by exact eX hl ha) ?_
 cbv; refine nN hS hx4 m4 (by exact eX hl hb) ?_
 cbv; try refine yI ?_
 show wp (setattr _ _ (.int (Builtin.bitXor (jP ck : Int) (Builtin.bitXor _ _)))) _ _ _
 rw [tY, tY]
 cbv; refine zY (g':= S.g) (v':= pv0 ((ck.set a 0).set b m)) x4 ?_ ?_ ?_ ?_ rfl fun h5 k5 x5 => ?_
 ·
  unfold pv0; rw [aW ha hb hab he hm hf, hl]; rfl
 ·
  show cI _ = ((cI ck).set _ _).set _ _; rw [<- pE, <- pE]; rfl
 ·
  show kL _ = (kL ck).set _ _; rw [gg ha hb hab he hm hf]; rfl
 ·
  show sL _ = (sL ck).set _ _; rw [gc ha hb hab he hm hf]; rfl
 cbv; exact q _ (k4.trans k5) x5
end
section
variable {n : Nat} {h : Hp} {X : Hp -> Prop} {A : PA} {g z : Nat} {v : PV}
theorem npow (a b : Nat) : ((a : Int) / 2 ^ (b : Int).toNat) = ((a / 2 ^ b : Nat) : Int):= by rw [toN]; simp
theorem bc {t : Nat} : decide ((t : Int) ≠ 0) = decide (t ≠ 0):= by
 by_cases e : t = 0
 ·
  subst e; rfl
 ·
  rw [eTr e, eTr (show (t : Int) ≠ 0 by exact cj e)]
theorem kM {b : Nat} (hb : 0 < b) (hl : b < 2 ^ 32) {Q : V -> Hp -> Prop} (q : ∀ r, 2 ^ r <= b -> b < 2 ^ (r + 1) -> Q (.int (r : Nat)) h) : wp (run tab (n + 1) 37 [.int b]) h Q X:= by
 refine zV (fn:= fn_highest) rfl rfl ?_
 cbv; refine zB (fun e => by exact th hb (wO e)) fun _ => ?_
 cbv; refine cT (fun i l h' => h' = h /\ l = [(36, .int b), (39, .int (2 ^ i : Nat))]) 5 (by decide) (fun i l h' hi => oA fun eh el => ?_) ⟨rfl, rfl⟩
 subst eh el
 cbv; have p5 : 2 ^ i <= 2 ^ 5:= Nat.pow_le_pow_right (by decide) hi
 have p50 : ((2 ^ i : Nat) : Int) < 1152921504606846976:= by
  generalize 2 ^ i = t at p5 ⊢; exact yP p5 rfl
 cbv; refine lS (by exact zK) (Int.natCast_nonneg _) p50 ?_
 rw [npow]
 cbv; rw [bc]
 by_cases e : b / 2 ^ 2 ^ i = 0
 ·
  rw [e]
  have hlt : b < 2 ^ 2 ^ i:= (Nat.div_eq_zero_iff_lt (Nat.pow_pos (by decide))).mp e
  simp only [ne_eq, not_true_eq_false, decide_false]
  cbv; refine cT (fun j l h2 => h2 = h' /\ ∃ (c sq : Nat), l = [(36, .int c), (39, .int (2 ^ (i - j) : Nat)), (38, .int sq)] /\ 0 < c /\ c < 2 ^ 2 ^ (i - j) /\ b / 2 ^ sq = c) i (by exact jH hi rfl) (fun j l h2 hj => qg fun eh c sq el c0 c1 c2 => ?_) ⟨rfl, b, 0, rfl, hb, hlt, by simp⟩
  subst eh el
  cbv; by_cases ej : j = i
  ·
   subst ej
   rw [Nat.sub_self] at c1 ⊢
   simp only [Nat.pow_zero, Nat.pow_one] at c1 ⊢
   have : decide ((1 : Int) < ((1 : Nat) : Int)) = false:= rfl
   rw [this]
   dsimp only
   cbv; have ec : c = 1:= by lia
   rw [ec] at c2
   refine q sq ?_ ?_
   ·
    have:= Nat.div_mul_le_self b (2 ^ sq); rw [c2, Nat.one_mul] at this; exact this
   ·
    have:= Nat.lt_div_mul_add (a:= b) (b:= 2 ^ sq) (Nat.pow_pos (by decide)); rw [c2] at this; rw [Nat.pow_succ]; lia
  ·
   have hji : j < i:= ar32 hj ej
   have e1 : 2 ^ (i - j) = 2 * 2 ^ (i - (j + 1)):= by
    have : i - j = (i - (j + 1)) + 1:= ar75 hji
    rw [this, Nat.pow_succ]; lia
   have pp : 0 < 2 ^ (i - (j + 1)):= Nat.pow_pos (by decide)
   have p6 : 2 ^ (i - (j + 1)) <= 2 ^ 5:= Nat.pow_le_pow_right (by decide) (by exact eW hi)
   rw [e1] at c1 ⊢
   generalize hw : 2 ^ (i - (j + 1)) = w at c1 pp p6 ⊢
   have : decide ((1 : Int) < ((2 * w : Nat) : Int)) = true:= by simp; lia
   rw [this]
   refine ⟨hji, ?_⟩
   cbv; refine a_fdiv (by decide) (by decide) ?_
   have e2 : ((2 * w : Nat) : Int) / 2 = (w : Int):= by lia
   rw [e2]
   cbv; refine lS (by exact zK) (by exact zK) (by exact yP p6 rfl) ?_
   rw [npow]
   cbv; rw [bc]
   cbv; refine zB (fun e3 => ?_) fun e3 => ?_
   ·
    cbv; refine a_shr (by exact zK) (by exact zK) (by exact yP p6 rfl) ?_
    rw [npow]
    cbv; have c3 : 0 < c / 2 ^ w:= Nat.pos_of_ne_zero e3
    refine ⟨rfl, c / 2 ^ w, sq + w, ?_, c3, ?_, ?_⟩
    ·
     show [(36, V.int _), (39, V.int _), (38, V.int _)] = _
     simp
    ·
     refine Nat.div_lt_of_lt_mul ?_
     rw [<- Nat.pow_add, <- Nat.two_mul]; exact c1
    ·
     rw [Nat.pow_add, <- Nat.div_div_eq_div_mul, c2]
   ·
    cbv; have e4 : c / 2 ^ w = 0:= by lia
    refine ⟨rfl, c, sq, ?_, c0, ?_, c2⟩
    ·
     rfl
    ·
     exact (Nat.div_eq_zero_iff_lt (Nat.pow_pos (by decide))).mp e4
 ·
  rw [eTr e]
  dsimp only
  refine ⟨?_, ?_⟩
  ·
   refine oO (fun q => ?_) (fun q => ?_) (Nat.lt_or_ge i 5)
   ·
    exact q
   ·
    have : i = 5:= tj hi q
    subst this
    exact absurd (Nat.div_eq_of_lt hl) e
  ·
   cbv; refine a_mul (.inr rfl) ?_
   cbv; refine ⟨rfl, ?_⟩
   show [(36, V.int b), (39, V.int _)] = _
   rw [Nat.pow_succ]; simp
theorem fP {b i : Nat} (h1 : b.testBit i = true) (h2 : ∀ j, j < i -> b.testBit j = false) : b = 2 ^ i * (2 * (b / 2 ^ (i + 1)) + 1):= by
 have m0 : b % 2 ^ i = 0:= by
  refine Nat.eq_of_testBit_eq fun j => ?_
  rw [Nat.testBit_mod_two_pow, Nat.zero_testBit]
  by_cases e : j < i
  ·
   rw [h2 j e]; simp
  ·
   simp [e]
 have e1 : b / 2 ^ i % 2 = 1:= by
  have:= h1
  rw [Nat.testBit_eq_decide_div_mod_eq] at this
  simpa using this
 have e2 : b / 2 ^ (i + 1) = b / 2 ^ i / 2:= by rw [Nat.pow_succ, Nat.div_div_eq_div_mul]
 have e3:= Nat.div_add_mod b (2 ^ i)
 rw [m0, Nat.add_zero] at e3
 rw [e2, show 2 * (b / 2 ^ i / 2) + 1 = b / 2 ^ i by lia]
 exact e3.symm
theorem fO {b i : Nat} (h1 : b.testBit i = true) (h2 : ∀ j, j < i -> b.testBit j = false) (hi : i < 32) {Q : V -> Hp -> Prop} (q : Q (.int (i : Nat)) h) : wp (run tab (n + 2) 40 [.int b]) h Q X:= by
 refine zV (fn:= fn_lowest) rfl rfl ?_
 cbv; have e:= kbt_low i (b / 2 ^ (i + 1) : Nat)
 have e2 : (2 : Int) ^ i * (2 * ((b / 2 ^ (i + 1) : Nat) : Int) + 1) = (b : Int):= by
  have:= fP h1 h2
  have e4 : (b : Int) = ((2 ^ i * (2 * (b / 2 ^ (i + 1)) + 1) : Nat) : Int):= congrArg _ this
  rw [e4]
  push_cast
  rfl
 rw [e2] at e
 rw [e, show (2 : Int) ^ i = ((2 ^ i : Nat) : Int) by simp]
 cbv; refine kM (Nat.pow_pos (by decide)) (Nat.pow_lt_pow_right (by decide) hi) fun r r1 r2 => ?_
 have r3 : r <= i:= (Nat.pow_le_pow_iff_right (by decide)).mp r1
 have r4 : i < r + 1:= (Nat.pow_lt_pow_iff_right (by decide)).mp r2
 have : r = i:= tj r3 (me r4)
 subst this
 cbv; exact q
theorem mP {b : Nat} (hl : b < 2 ^ 32) {Q : V -> Hp -> Prop} (q : ∀ i : Int, Q (.int i) h) (hb : b ≠ 0) : wp (run tab (n + 2) 40 [.int b]) h Q X:= by
 have key : ∀ k, (∃ i, i < k /\ b.testBit i = true) -> ∃ i, i < k /\ b.testBit i = true /\ ∀ j, j < i -> b.testBit j = false:= by
  intro k
  induction k with
  | zero => refine oEA fun i hi _ => ?_; exact gD hi
  | succ k ih =>
   refine oEA fun i hi e => ?_
   by_cases w : ∃ i, i < k /\ b.testBit i = true
   ·
    refine xG (fun i a b c => ?_) (ih w); exact ⟨i, by exact yH a vM, b, c⟩
   ·
    refine ⟨i, hi, e, fun j hj => ?_⟩
    cases q : b.testBit j with
    | false => rfl
    | true => exact absurd ⟨j, by exact yH hj (me hi), q⟩ w
 have ex : ∃ i, i < 32 /\ b.testBit i = true:= by
  apply Classical.byContradiction
  intro no
  apply hb
  refine Nat.eq_of_testBit_eq fun i => ?_
  rw [Nat.zero_testBit]
  by_cases e : i < 32
  ·
   cases q : b.testBit i with
   | false => rfl
   | true => exact absurd ⟨i, e, q⟩ no
  ·
   exact Nat.testBit_lt_two_pow (Nat.lt_of_lt_of_le hl (Nat.pow_le_pow_right (by decide) (by exact uM e)))
 refine xG (fun i a b c => ?_) (key 32 ex)
 exact fO b c a (q _)
end
noncomputable def kLi (ck : List Nat) (i : Nat) : List Int:= (List.range 7).map fun k => (bts (isK ck k) i : Int)
noncomputable def sLi (ck : List Nat) (i : Nat) : List Int:= [(bts (isS ck 0) i : Int), (bts (isS ck 1) i : Int)]
theorem nF (ck : List Nat) (i : Nat) {k : Nat} (h : k < 7) : (kLi ck i)[k]? = some (bts (isK ck k) i : Int):= by
 unfold kLi; rw [List.getElem?_map, List.getElem?_range h]; rfl
theorem bB (ck : List Nat) (i : Nat) {k : Nat} (h : k < 2) : (sLi ck i)[k]? = some (bts (isS ck k) i : Int):= by
 match k, h with
 | 0, _ => rfl
 | 1, _ => rfl
theorem pZ (ck : List Nat) (i : Nat) : (kLi ck i).length = 7:= by simp [kLi]
theorem bV (ck : List Nat) : kLi ck ck.length = kL ck:= rfl
theorem bC (ck : List Nat) : sLi ck ck.length = sL ck:= rfl
theorem fX {ck : List Nat} {i : Nat} (h : gd ck i = 0) : kLi ck (i + 1) = kLi ck i:= by
 unfold kLi; refine List.map_congr_left fun k _ => ?_
 simp [bts, isK, h]
theorem gU {ck : List Nat} {i : Nat} (h : gd ck i = 0) : sLi ck (i + 1) = sLi ck i:= by simp [sLi, bts, isS, h]
theorem fW {ck : List Nat} {i m : Nat} (h : gd ck i = m) (hm : m ∈ men) : kLi ck (i + 1) = (kLi ck i).set (m % 8) ((bts (isK ck (m % 8)) i + 2 ^ i : Nat) : Int):= by
 refine yE (fun m1 m2 m3 m4 m5 => ?_) (xD hm)
 refine List.ext_getElem? fun k => ?_
 by_cases hk : k < 7
 ·
  rw [nF _ _ hk]
  by_cases e : k = m % 8
  ·
   subst e
   rw [List.getElem?_set_self (by rw [pZ]; exact hk)]
   simp [bts, isK, h, m5]
  ·
   rw [List.getElem?_set_ne (Ne.symm e), nF _ _ hk]
   have : decide (m % 8 = k) = false:= by simp; exact sG e
   simp [bts, isK, h, this]
 ·
  rw [List.getElem?_eq_none (by rw [pZ]; exact uM hk), List.getElem?_eq_none (by rw [List.length_set, pZ]; exact uM hk)]
theorem gT {ck : List Nat} {i m : Nat} (h : gd ck i = m) (hm : m ∈ men) : sLi ck (i + 1) = (sLi ck i).set (m / 8) ((bts (isS ck (m / 8)) i + 2 ^ i : Nat) : Int):= by
 refine yE (fun m1 m2 m3 m4 m5 => ?_) (xD hm)
 have : m / 8 = 0 \/ m / 8 = 1:= by lia
 (revert this; refine oO (fun e => ?_) fun e => ?_) <;> simp [sLi, bts, isS, h, e, m5]
section
variable {n : Nat} {h : Hp} {X : Hp -> Prop} {A : PA} {g z : Nat} {v : PV}
theorem jG {sc k : Nat} {ns : List Int} (e : h[sc]? = some (.lst (il ns))) (hl : ns.length <= 63) (hk : k < 100) {Q : V -> Hp -> Prop} (q : Q (.int (ns.getD k 0)) h) : wp (run tab (n + 1) 116 [.ref sc, .int k]) h Q X:= by
 refine zV (fn:= fn_law_at) rfl rfl ?_
 cbv; refine tA e (by rw [List.length_map]; exact yB hl rfl) ?_
 rw [List.length_map]
 cbv; rw [List.getD_eq_getElem?_getD] at q
 cbv; refine zB (fun e1 => ?_) fun e1 => ?_
 ·
  cbv; have hk' : k < ns.length:= cp e1
  rw [List.getElem?_eq_getElem hk'] at q
  cbv; refine zF (.inl e) (by exact zK) (by exact xJ hk rfl) (tU (by rw [toN]; exact List.getElem?_eq_getElem hk')) ?_
  cbv; exact q
 ·
  have hk' : ns.length <= k:= ar84 (ch e1)
  rw [List.getElem?_eq_none hk'] at q
  cbv; exact q
theorem gN {ck : List Nat} {s : Nat} (hs : s < ck.length) : (il (cI ck))[(s : Int).toNat]? = some (.int (gd ck s : Nat)):= tU (by rw [toN]; exact yG hs)
theorem xW {N i : Nat} {v : V} (h : ((List.range N).map fun (i : Nat) => V.int i)[i]? = some v) : i < N /\ v = .int (i : Nat):= by
 have hl:= (List.getElem?_eq_some_iff.mp h).1
 rw [List.length_map, List.length_range] at hl
 rw [List.getElem?_map, List.getElem?_range hl] at h
 exact ⟨hl, (Option.some.inj h).symm⟩
theorem tQ {c : Nat} {ck : List Nat} (e : h[c]? = some (.lst (il (cI ck)))) (hl : ck.length <= 21) (hv : Val ck) {Q : V -> Hp -> Prop}
  (q : ∀ h' t a b, Ext h h' -> h'[t]? = some (.tup [.ref a, .ref b]) -> h'[a]? = some (.lst (il (kL ck))) -> h'[b]? = some (.lst (il (sL ck))) -> Q (.ref t) h') : wp (run tab (n + 1) 119 [.ref c]) h Q X:= by
 refine zV (fn:= fn_law_boards) rfl rfl ?_
 cbv; refine xL (by decide) ?_
 cbv; refine sK zC (by decide) (by decide) (by decide) (by decide) ?_
 have x0:= (Ext.app h [O.lst [V.int 0]]).app' [.lst (rep [V.int 0] (7 : Int).toNat)]
 have ha : h.length <= (h ++ [O.lst [V.int 0]]).length:= by simp
 have ea : ((h ++ [O.lst [V.int 0]]) ++ [.lst (rep [V.int 0] (7 : Int).toNat)])[(h ++ [O.lst [V.int 0]]).length]? = some (.lst (il (kLi ck 0))):= zC
 generalize ((h ++ [O.lst [V.int 0]]) ++ [.lst (rep [V.int 0] (7 : Int).toNat)]) = h1 at x0 ea ⊢
 generalize (h ++ [O.lst [V.int 0]]).length = a at ha ea ⊢
 cbv; refine xL (by decide) ?_
 have x1:= x0.app' [O.lst [V.int 0, V.int 0]]
 have hb : h.length <= h1.length:= x0.len
 have eb : (h1 ++ [O.lst [V.int 0, V.int 0]])[h1.length]? = some (.lst (il (sLi ck 0))):= zC
 have hab : a ≠ h1.length:= fun z => by have:= zJ ea; exact gE this z
 have ea:= zI (l:= [O.lst [V.int 0, V.int 0]]) ea
 generalize h1 ++ [O.lst [V.int 0, V.int 0]] = h2 at x1 ea eb ⊢
 generalize h1.length = b at hb eb hab ⊢
 cbv; refine tA (x1 _ _ e) (by simp [cI]; exact yB hl rfl) ?_
 rw [List.length_map, zN]
 cbv; refine xS (zM (by exact uK rfl) (by exact yP hl rfl)) ?_
 cbv; refine jR zC (by exact jH hl rfl) ?_
 cbv; refine xK (h:= _) (l:= _) _ (fun i l h' => Ext h h' /\ h'[a]? = some (.lst (il (kLi ck i))) /\ h'[b]? = some (.lst (il (sLi ck i))) /\ get 120 l = some (.ref c) /\ get 16 l = some (.ref a) /\ get 15 l = some (.ref b))
  (by simp; exact jH hl rfl) (fun _ _ _ _ => rfl) (fun i l h' v hv1 I => ?_) (fun l h' I => ?_) ⟨x1.app' _, zI ea, zI eb, rfl, rfl, rfl⟩
 ·
  refine oA (fun hi t01 => ?_) (xW hv1); obtain rfl:= t01
  revert I; refine wG fun i1 i2 i3 i4 i5 i6 => ?_
  cbv; refine zF (.inl (i1 _ _ e)) (by exact zK) (by exact xJ (yH hi hl) rfl) (gN hi) ?_
  cbv; refine zB (fun e1 => ?_) fun e1 => ?_
  ·
   have hm : gd ck i ∈ men:= hv.gd i (by exact tJ e1)
   refine yE (fun m1 m2 m3 m4 m5 => ?_) (xD hm)
   cbv; refine zF (.inl (i1 _ _ e)) (by exact zK) (by exact xJ (yH hi hl) rfl) (gN hi) ?_
   cbv; refine zW (by decide) ?_
   rw [(ks8 _).1]
   cbv; refine zF (.inl i2) (by exact zK) (by exact yP m2 rfl) (tU (by rw [toN]; exact nF ck i (by exact jH m2 rfl))) ?_
   cbv; refine wC (by exact zK) (by exact lR (yH hi hl) rfl) rfl ?_
   rw [sh1]
   cbv; refine wA i2 (by exact zK) (by rw [List.length_map, pZ]; exact yP m2 rfl) (by exact yP m2 rfl) ?_
   rw [qS, toN, show ((bts (isK ck (gd ck i % 8)) i : Nat) : Int) + ((2 ^ i : Nat) : Int) = ((bts (isK ck (gd ck i % 8)) i + 2 ^ i : Nat) : Int) by lia, <- fW rfl hm]
   have j1:= i1.set ha (.lst (il (kLi ck (i + 1))))
   have j2:= zS (x:= .lst (il (kLi ck (i + 1)))) i2
   have j3:= zD (x:= .lst (il (kLi ck (i + 1)))) i3 hab.symm
   generalize List.set h' a (.lst (il (kLi ck (i + 1)))) = h3 at j1 j2 j3 ⊢
   cbv; refine zF (.inl (j1 _ _ e)) (by exact zK) (by exact xJ (yH hi hl) rfl) (gN hi) ?_
   cbv; refine yL (by decide) (by decide) ?_
   rw [(ks8 _).2]
   cbv; refine zF (.inl j3) (by exact zK) (by exact yP m3 rfl) (tU (by rw [toN]; exact bB ck i (by exact jH m3 rfl))) ?_
   cbv; refine wC (by exact zK) (by exact lR (yH hi hl) rfl) rfl ?_
   rw [sh1]
   cbv; refine wA j3 (by exact zK) (by rw [List.length_map]; simp [sLi]; lia) (by exact yP m3 rfl) ?_
   rw [qS, toN, show ((bts (isS ck (gd ck i / 8)) i : Nat) : Int) + ((2 ^ i : Nat) : Int) = ((bts (isS ck (gd ck i / 8)) i + 2 ^ i : Nat) : Int) by lia, <- gT rfl hm]
   cbv; exact ⟨j1.set hb _, zD j2 hab, zS j3, by walk_at "lc", by walk_at "lc", by walk_at "lc"⟩
  ·
   have e2 : gd ck i = 0:= qW e1
   cbv; rw [fX e2, gU e2]
   exact ⟨i1, i2, i3, by walk_at "lc", by walk_at "lc", by walk_at "lc"⟩
 ·
  revert I; refine wG fun i1 i2 i3 i4 i5 i6 => ?_
  rw [List.length_map, List.length_range] at i2 i3
  rw [bV] at i2
  rw [bC] at i3
  cbv; refine zG rfl ?_
  cbv; exact q _ _ _ _ (i1.app' _) zC (zI i2) (zI i3)
end
noncomputable def rZ (ck : List Nat) : Nat -> Nat
 | 0 => 0
 | i + 1 => rZ ck i + (if gd ck i ≠ 0 then 2 ^ (gd ck i * ck.length + i) else 0)
theorem pV {ck : List Nat} (hv : Val ck) : ∀ i, i <= ck.length -> rZ ck i = bts (fun j => isM ck j && decide (j % ck.length < i)) (15 * ck.length)
 | 0, _ => by
  have : bts (fun j => isM ck j && decide (j % ck.length < 0)) (15 * ck.length) = bts (fun _ => false) (15 * ck.length):= vY fun i _ => by simp
  rw [this]
  have z : ∀ n, bts (fun _ => false) n = 0:= fun n => by
   induction n with
   | zero => rfl
   | succ n ih => simp [bts, ih]
  rw [z]; rfl
 | i + 1, hi => by
  have ih:= pV hv i (by exact jZ vM hi)
  simp only [rZ]
  by_cases e : gd ck i = 0
  ·
   rw [if_neg (by simp [e]), Nat.add_zero, ih]
   refine vY fun j hj => ?_
   by_cases q : j % ck.length = i
   ·
    have : isM ck j = false:= by
     unfold isM; rw [q, e]
     by_cases z : j / ck.length = 0
     ·
      simp [z]
     ·
      have : decide (0 = j / ck.length) = false:= by simp; exact sG z
      rw [this]; simp
    rw [this]; simp
   ·
    have : decide (j % ck.length < i + 1) = decide (j % ck.length < i):= by
     by_cases w : j % ck.length < i
     ·
      rw [eTr w, eTr (by exact yH w vM)]
     ·
      rw [eFa w, eFa (by lia)]
    rw [this]
  ·
   rw [if_pos e, ih]
   have hm:= hv.gd i e
   refine yE (fun m1 m2 m3 m4 m5 => ?_) (xD hm)
   have hs : i < ck.length:= by lia
   have jd:= jdm (m:= gd ck i) hs
   have jl:= jlt (m:= gd ck i) hs m4
   have off : (bts (fun j => isM ck j && decide (j % ck.length < i)) (15 * ck.length)).testBit (gd ck i * ck.length + i) = false:= by
    rw [yJ, jd.1]; simp
   rw [rM off, <- tK off]
   refine (sE jl (fun j hj hne => ?_) ?_).symm
   ·
    by_cases q : j % ck.length = i
    ·
     have : isM ck j = false:= by
      unfold isM
      rw [q]
      have : gd ck i ≠ j / ck.length:= fun z => hne (jeq q z.symm)
      rw [eFa this]; simp
     rw [this]; simp
    ·
     have : decide (j % ck.length < i + 1) = decide (j % ck.length < i):= by
      by_cases w : j % ck.length < i
      ·
       rw [eTr w, eTr (by exact yH w vM)]
      ·
       rw [eFa w, eFa (by lia)]
     rw [this]
   ·
    rw [jd.1]
    have : isM ck (gd ck i * ck.length + i) = true:= by unfold isM; rw [jd.1, jd.2]; simp [e]
    rw [this]; simp
theorem fK {ck : List Nat} (hv : Val ck) : rZ ck ck.length = jP ck:= by
 rw [pV hv _ (Nat.le_refl _)]
 unfold jP
 refine vY fun j hj => ?_
 have : 0 < ck.length:= by lia
 have : j % ck.length < ck.length:= Nat.mod_lt _ this
 rw [eTr this, Bool.and_true]
noncomputable def mB (ck : List Nat) (m : Nat) : Nat:= bts (fun s => decide (gd ck s = m)) ck.length
theorem nJ {ck : List Nat} {w k : Nat} (hk : 1 <= k) (hk' : k < 8) : sB ck w &&& kB ck k = mB ck (w * 8 + k):= by
 refine Nat.eq_of_testBit_eq fun i => ?_
 unfold sB kB mB
 rw [Nat.testBit_and, yJ, yJ, yJ]
 by_cases hi : i < ck.length
 ·
  simp only [hi, decide_true, Bool.true_and, isS, isK]
  by_cases e : gd ck i = w * 8 + k
  ·
   have e1 : gd ck i ≠ 0:= by lia
   have e2 : gd ck i / 8 = w:= by lia
   have e3 : gd ck i % 8 = k:= by lia
   rw [eTr e1, eTr e2, eTr e3, eTr e]; rfl
  ·
   rw [eFa e]
   by_cases e2 : gd ck i / 8 = w
   ·
    have e3 : ¬ gd ck i % 8 = k:= by lia
    rw [eFa e3]; simp
   ·
    rw [eFa e2]; simp
 ·
  simp [hi]
theorem gS (ck : List Nat) : sB ck 0 ||| sB ck 1 = sB ck 0 + sB ck 1:= by
 have e : sB ck 0 &&& sB ck 1 = 0:= by
  refine Nat.eq_of_testBit_eq fun i => ?_
  unfold sB
  rw [Nat.testBit_and, yJ, yJ, Nat.zero_testBit]
  by_cases hi : gd ck i / 8 = 0
  ·
   have : ¬ gd ck i / 8 = 1:= mj (ar22 hi rfl)
   simp [isS, this]
  ·
   simp [isS, hi]
 have h1:= PyProof.Rows.bitOr_and (sB ck 0 : Int) (sB ck 1 : Int)
 rw [bOr, oB, e] at h1
 lia
noncomputable def iD (l : List Int) : List PyData:= l.map .int
theorem vI : ∀ a b : List Int, PyData.eqvAll (iD a) (iD b) = decide (a = b)
 | [], [] => rfl
 | [], _ :: _ => by simp [iD, PyData.eqvAll]
 | _ :: _, [] => by simp [iD, PyData.eqvAll]
 | x :: a, y :: b => by
  have:= vI a b
  simp only [iD] at this
  simp only [iD, List.map_cons, PyData.eqvAll, PyData.eqv, this, List.cons.injEq, Bool.decide_and]
  congr 1
theorem tF (a b : List Int) : PyData.eqv (.list (iD a)) (.list (iD b)) = decide (a = b):= by simp only [PyData.eqv]; exact vI a b
theorem oM : ∀ a b : List (List Int), PyData.eqvAll (a.map fun t => .tuple (iD t)) (b.map fun t => .tuple (iD t)) = decide (a = b)
 | [], [] => rfl
 | [], _ :: _ => by simp [PyData.eqvAll]
 | _ :: _, [] => by simp [PyData.eqvAll]
 | x :: a, y :: b => by
  simp only [List.map_cons, PyData.eqvAll, PyData.eqv, oM a b, vI, List.cons.injEq, Bool.decide_and]
noncomputable def hD (d : List (List Int)) : PyData:= .list (d.map fun t => .tuple (iD t))
theorem eD (a b : List (List Int)) : PyData.eqv (hD a) (hD b) = decide (a = b):= by simp only [hD, PyData.eqv]; exact oM a b
noncomputable def pg (v : PV) : PyData:= .list [.list (iD v.board), .list (iD v.kinds), .list (iD v.sides), hD v.hist, .int v.side, .int v.rights, .int v.ep, .int v.half, .int v.full, .int v.key]
theorem pO (v w : PV) : PyData.eqv (pg v) (pg w) = true ↔ v = w:= by
 obtain ⟨a1, a2, a3, a4, a5, a6, a7, a8, a9, a10⟩:= v
 obtain ⟨b1, b2, b3, b4, b5, b6, b7, b8, b9, b10⟩:= w
 simp only [pg, PyData.eqv, PyData.eqvAll, vI, eD, Bool.and_true, Bool.and_eq_true, decide_eq_true_eq, beq_iff_eq, PV.mk.injEq]
theorem sR (k : Nat) (h : Hp) : ∀ l : List Int, (il l).mapM (deep k h) = some (iD l)
 | [] => rfl
 | i :: l => by
  have:= sR k h l
  simp only [il, iD] at this
  simp only [il, iD, List.map_cons, List.mapM_cons, this]
  cases k <;> rfl
theorem yA {h : Hp} {n : Nat} {l : List Int} (k : Nat) (e : h[n]? = some (.lst (il l))) : deep (k + 1) h (.ref n) = some (.list (iD l)):= by simp only [deep, e, sR]
theorem kz {h : Hp} {n : Nat} {l : List Int} (k : Nat) (e : h[n]? = some (.tup (il l))) : deep (k + 1) h (.ref n) = some (.tuple (iD l)):= by simp only [deep, e, sR]
theorem aG {h : Hp} (k : Nat) : ∀ {hl : List V} {d : List (List Int)}, HL h hl d -> hl.mapM (deep (k + 1) h) = some (d.map fun t => .tuple (iD t))
 | [], [], _ => rfl
 | .ref _ :: _, _ :: _, x => by
  have a:= kz k x.1
  have b:= aG k x.2
  simp only [List.map_cons, List.mapM_cons, a, b]; rfl
 | [], _ :: _, x => x.elim
 | .none :: _, [], x => x.elim
 | .bool _ :: _, [], x => x.elim
 | .int _ :: _, [], x => x.elim
 | .ref _ :: _, [], x => x.elim
 | .none :: _, _ :: _, x => x.elim
 | .bool _ :: _, _ :: _, x => x.elim
 | .int _ :: _, _ :: _, x => x.elim
theorem sW {h : Hp} {n : Nat} {hl : List V} {d : List (List Int)} (k : Nat) (e : h[n]? = some (.lst hl)) (x : HL h hl d) : deep (k + 2) h (.ref n) = some (hD d):= by
 show deep (k + 1 + 1) h (.ref n) = _
 simp only [deep, e, aG k x, hD]
noncomputable def RowAt (h : Hp) (r : Nat) (v : PV) : Prop:= ∃ a b c d hl, h[r]? = some (.lst [.ref a, .ref b, .ref c, .ref d, .int v.side, .int v.rights, .int v.ep, .int v.half, .int v.full, .int v.key]) /\
 h[a]? = some (.lst (il v.board)) /\ h[b]? = some (.lst (il v.kinds)) /\ h[c]? = some (.lst (il v.sides)) /\ h[d]? = some (.lst hl) /\ HL h hl v.hist
theorem RowAt.ext {h h' : Hp} {r : Nat} {v : PV} (x : RowAt h r v) (k : Ext h h') : RowAt h' r v :=
 let ⟨a, b, c, d, hl, h1, h2, h3, h4, h5, h6⟩:= x
 ⟨a, b, c, d, hl, k _ _ h1, k _ _ h2, k _ _ h3, k _ _ h4, k _ _ h5, h6.ext fun _ _ e => k _ _ e⟩
theorem la {h : Hp} {n k : Nat} {xs : List V} {ds : List PyData} (e : h[n]? = some (.lst xs)) (e2 : xs.mapM (deep k h) = some ds) : deep (k + 1) h (.ref n) = some (.list ds):= by simp only [deep, e, e2]
theorem lb (h : Hp) (k : Nat) (i : Int) : deep k h (.int i) = some (.int i):= by cases k <;> rfl
theorem RowAt.deep {h : Hp} {r : Nat} {v : PV} (x : RowAt h r v) : deep 4 h (.ref r) = some (pg v):= by
 revert x; refine pR fun a b c d hl h1 => yE fun h2 h3 h4 h5 h6 => ?_
 have e1:= yA 2 h2
 have e2:= yA 2 h3
 have e3:= yA 2 h4
 have e4:= sW 1 h5 h6
 refine la h1 ?_
 simp only [List.mapM_cons, List.mapM_nil, e1, e2, e3, e4, lb]
 rfl
theorem aw {l : List Int} (h1 : l.length <= 100) (h2 : ∀ x ∈ l, x.natAbs < 2 ^ 20) : PyData.layable0 (.list (l.map .int)) = true:= by
 have a : ∀ l : List Int, PyData.canLayAll0 (l.map .int) = true:= fun l => by
  induction l with
  | nil => rfl
  | cons x l ih => simp only [List.map_cons, PyData.canLayAll0, ih]; rfl
 have b : ∀ l : List Int, PyData.depthAll (l.map .int) = 0:= fun l => by
  induction l with
  | nil => rfl
  | cons x l ih => simp only [List.map_cons, PyData.depthAll, ih]; rfl
 have c : ∀ l : List Int, (∀ x ∈ l, x.natAbs < 2 ^ 20) -> PyData.weightAll (l.map .int) <= 22 * l.length:= fun l => by
  induction l with
  | nil => intro _; exact Nat.le_refl _
  | cons x l ih =>
   intro hx
   have i:= ih fun y hy => hx y (.tail _ hy)
   have w : PyData.weight (.int x) <= 20:= by
    simp only [PyData.weight]
    split
    ·
     exact gC
    ·
     rename_i hz
     have hz : x.natAbs ≠ 0:= by simpa using hz
     have:= Nat.log2_lt hz |>.mpr (hx x (.head _))
     exact cr (ar52 this) rfl
   simp only [List.map_cons, PyData.weightAll, List.length_cons]
   lia
 unfold PyData.layable0
 have c:= c l h2
 have e1 : PyData.canLay0 (.list (l.map .int)) = true:= by simp only [PyData.canLay0]; exact a l
 have e2 : PyData.depth (.list (l.map .int)) <= 64:= by simp only [PyData.depth, b]; exact gC
 have e3 : PyData.weight (.list (l.map .int)) <= 2 ^ 20:= by
  simp only [PyData.weight]
  exact Nat.le_trans c (by lia)
 rw [e1, eTr e2, eTr e3]; rfl
section
variable {n : Nat} {h : Hp} {X : Hp -> Prop} {A : PA} {g z : Nat} {v : PV} {call : Call}
theorem bh {c : Nat} {ck : List Nat} {l : Loc} (e : h[c]? = some (.lst (il (cI ck)))) (hl : ck.length <= 21) (hv : Val ck) (g1 : get 120 l = some (.ref c)) (g2 : get 19 l = some (.int (ck.length : Nat))) {Q : V -> Hp -> Prop}
  (q : ∀ h' r ws, Ext h h' -> h'[r]? = some (.lst (il ws)) -> ws.sum = (jP ck : Int) -> Q (.ref r) h') :
  wp (eval tab call (.compIf (.bin .shl (.int 1) (.bin .add (.bin .mul (.sub (.loc 120) (.loc 52)) (.loc 19)) (.loc 52))) 52 (.blt .range (.cons (.loc 19) .nil)) (.cmp (.sub (.loc 120) (.loc 52)) (.cc .ne (.int 0) .nil))) l) h Q X:= by
 refine tG ?_
 cbv; refine xS (zM (by exact uK rfl) (by exact yP hl rfl)) ?_
 cbv; refine jR zC (by exact jH hl rfl) ?_
 cbv; refine tL (h:= _) _ (fun i acc h' => Ext h h' /\ ∃ ws, acc = il ws /\ ws.length <= i /\ ws.sum = (rZ ck i : Int)) (by simp; exact jH hl rfl) (fun _ _ _ _ => rfl) (fun i acc h' v hv1 I => ?_) (fun acc h' I => ?_) ⟨Ext.app h _, [], rfl, by simp, rfl⟩
 ·
  refine oA (fun hi t01 => ?_) (xW hv1); obtain rfl:= t01
  revert I; refine uE fun i1 ws t02 i2 i3 => ?_; obtain rfl:= t02
  cbv; refine zF (.inl (i1 _ _ e)) (by exact zK) (by exact xJ (yH hi hl) rfl) (gN hi) ?_
  cbv; refine zB (fun e1 => ?_) fun e1 => ?_
  ·
   have e1 : gd ck i ≠ 0:= tJ e1
   have hm : gd ck i ∈ men:= hv.gd i e1
   refine yE (fun m1 m2 m3 m4 m5 => ?_) (xD hm)
   have:= jlt (m:= gd ck i) hi m4
   cbv; refine zF (.inl (i1 _ _ e)) (by exact zK) (by exact xJ (yH hi hl) rfl) (gN hi) ?_
   cbv; refine xF (.inl (zM (by exact uK rfl) (by exact xJ m4 rfl))) ?_
   rw [show (gd ck i : Int) * (ck.length : Nat) = ((gd ck i * ck.length : Nat) : Int) by simp]
   cbv; rw [show ((gd ck i * ck.length : Nat) : Int) + (i : Nat) = ((gd ck i * ck.length + i : Nat) : Int) by lia]
   cbv; refine wC (by exact zK) (by lia) rfl ?_
   rw [sh1]
   cbv; refine ⟨i1, ws ++ [((2 ^ (gd ck i * ck.length + i) : Nat) : Int)], by simp [il], by simp; exact i2, ?_⟩
   rw [List.sum_append, i3]
   simp [rZ, e1]
  ·
   have e1 : gd ck i = 0:= qW e1
   cbv; exact ⟨i1, ws, rfl, by exact tf i2, by rw [i3]; simp [rZ, e1]⟩
 ·
  revert I; refine uE fun i1 ws t02 i2 i3 => ?_; obtain rfl:= t02
  rw [List.length_map, List.length_range] at i2 i3
  cbv; refine xL (by simp [osz]; exact jZ i2 (yB hl rfl)) ?_
  exact q _ _ ws (i1.app' _) zC (by rw [i3, fK hv])
noncomputable def vQ (ck : List Nat) (f : Nat) (w : Int) (r : Nat) (ep : Int) : Nat :=
 r * 2 ^ (15 * ck.length) + (if 0 <= ep then 2 ^ (15 * ck.length + 4 + (ep % (f : Int)).toNat) else 0) + (if w = 1 then 2 ^ (15 * ck.length + 4 + f) else 0) + jP ck
theorem sU {c : Nat} {ck : List Nat} (e : h[c]? = some (.lst (il (cI ck)))) (hl : ck.length <= 21) (hv : Val ck) {f r : Nat} {w ep : Int} (hf : 0 < f) (hf' : f <= 8) (hr : r < 16) {Q : V -> Hp -> Prop}
  (q : ∀ h', Ext h h' -> Q (.int (vQ ck f w r ep : Nat)) h') : wp (run tab (n + 1) 121 [.ref c, .int f, .int w, .int r, .int ep]) h Q X:= by
 refine zV (fn:= fn_law_sum) rfl rfl ?_
 cbv; refine tA e (by simp [cI]; exact yB hl rfl) ?_
 rw [List.length_map, zN]
 cbv; refine xF (.inl rfl) ?_
 rw [show (15 : Int) * (ck.length : Nat) = ((15 * ck.length : Nat) : Int) by lia]
 cbv; refine wC (by exact zK) (by lia) (zM (by exact uK rfl) (by exact xJ hr rfl)) ?_
 rw [toN, show (r : Int) * 2 ^ (15 * ck.length) = ((r * 2 ^ (15 * ck.length) : Nat) : Int) by simp]
 cbv; have fin : ∀ (T : Nat) (l : Loc), T + jP ck = vQ ck f w r ep -> get 120 l = some (.ref c) -> get 19 l = some (.int (ck.length : Nat)) -> get 123 l = some (.int (T : Nat)) ->
   wp (exec tab (run tab n) (.seq (.ret (.bin .add (.loc 123) (.blt .sum (.cons (.compIf (.bin .shl (.int 1) (.bin .add (.bin .mul (.sub (.loc 120) (.loc 52)) (.loc 19)) (.loc 52))) 52 (.blt .range (.cons (.loc 19) .nil)) (.cmp (.sub (.loc 120) (.loc 52)) (.cc .ne (.int 0) .nil))) .nil)))) .nil) l) h (oU Q) X:= by
  intro T l hT g1 g2 g3
  cbv; refine bh e hl hv g1 g2 fun h' rr ws x1 x2 x3 => ?_
  cbv; refine ty x2 ?_
  rw [x3]
  cbv; rw [show ((T : Nat) : Int) + (jP ck : Nat) = ((T + jP ck : Nat) : Int) by lia, hT]
  exact q h' x1
 have mid : ∀ (T : Nat) (l : Loc), T + (if w = 1 then 2 ^ (15 * ck.length + 4 + f) else 0) + jP ck = vQ ck f w r ep -> get 120 l = some (.ref c) -> get 19 l = some (.int (ck.length : Nat)) -> get 123 l = some (.int (T : Nat)) -> get 122 l = some (.int w) -> get 22 l = some (.int (f : Nat)) ->
   wp (exec tab (run tab n) (.seq (.ite (.cmp (.loc 122) (.cc .eq (.int 1) .nil))
    (.seq (.augloc 123 .add (.bin .shl (.int 1) (.bin .add (.bin .add (.bin .mul (.int 15) (.loc 19)) (.int 4)) (.loc 22)))) .nil) .nil)
    (.seq (.ret (.bin .add (.loc 123) (.blt .sum (.cons (.compIf (.bin .shl (.int 1) (.bin .add (.bin .mul (.sub (.loc 120) (.loc 52)) (.loc 19)) (.loc 52))) 52 (.blt .range (.cons (.loc 19) .nil)) (.cmp (.sub (.loc 120) (.loc 52)) (.cc .ne (.int 0) .nil))) .nil)))) .nil)) l) h (oU Q) X:= by
  intro T l hT g1 g2 g3 g4 g5
  cbv; refine zB (fun e1 => ?_) fun e1 => ?_
  ·
   cbv; refine xF (.inl rfl) ?_
   rw [show (15 : Int) * (ck.length : Nat) = ((15 * ck.length : Nat) : Int) by lia]
   cbv; rw [show ((15 * ck.length : Nat) : Int) + 4 + (f : Nat) = ((15 * ck.length + 4 + f : Nat) : Int) by lia]
   cbv; refine wC (by exact zK) (by lia) rfl ?_
   rw [sh1]
   refine ur ?_
   rw [show ((T : Nat) : Int) + ((2 ^ (15 * ck.length + 4 + f) : Nat) : Int) = ((T + 2 ^ (15 * ck.length + 4 + f) : Nat) : Int) by lia]
   iterate 3 walk_at "st"
   exact fin _ _ (by rw [if_pos e1] at hT; exact hT) (by walk_at "lc") (by walk_at "lc") (by walk_at "lc")
  ·
   iterate 3 walk_at "st"
   exact fin _ _ (by rw [if_neg e1] at hT; exact hT) g1 g2 g3
 cbv; refine zB (fun e1 => ?_) fun e1 => ?_
 ·
  cbv; refine xF (.inl rfl) ?_
  rw [show (15 : Int) * (ck.length : Nat) = ((15 * ck.length : Nat) : Int) by lia]
  cbv; refine zW (by exact vL hf) ?_
  cbv; have h1:= Int.emod_nonneg ep (show (f : Int) ≠ 0 by exact cj (qX hf))
  have h2:= Int.emod_lt_of_pos ep (show (0 : Int) < f by exact vL hf)
  have h3 : ((ep % (f : Int)).toNat : Int) = ep % (f : Int):= Int.toNat_of_nonneg h1
  rw [show ((15 * ck.length : Nat) : Int) + 4 + ep % (f : Nat) = ((15 * ck.length + 4 + (ep % (f : Int)).toNat : Nat) : Int) by lia]
  cbv; refine wC (by exact zK) (by lia) rfl ?_
  rw [sh1]
  refine ur ?_
  rw [show ((r * 2 ^ (15 * ck.length) : Nat) : Int) + ((2 ^ (15 * ck.length + 4 + (ep % (f : Int)).toNat) : Nat) : Int) = ((r * 2 ^ (15 * ck.length) + 2 ^ (15 * ck.length + 4 + (ep % (f : Int)).toNat) : Nat) : Int) by lia]
  iterate 3 walk_at "st"
  exact mid _ _ (by unfold vQ; rw [if_pos e1]) (by walk_at "lc") (by walk_at "lc") (by walk_at "lc") (by walk_at "lc") (by walk_at "lc")
 ·
  iterate 3 walk_at "st"
  exact mid _ _ (by unfold vQ; rw [if_neg e1]; rfl) rfl rfl rfl rfl rfl
end
theorem HL.len {h : Hp} : ∀ {hl : List V} {d : List (List Int)}, HL h hl d -> hl.length = d.length
 | [], [], _ => rfl
 | .ref _ :: _, _ :: _, x => by simp [HL.len x.2]
 | [], _ :: _, x => x.elim
 | .none :: _, [], x => x.elim
 | .bool _ :: _, [], x => x.elim
 | .int _ :: _, [], x => x.elim
 | .ref _ :: _, [], x => x.elim
 | .none :: _, _ :: _, x => x.elim
 | .bool _ :: _, _ :: _, x => x.elim
 | .int _ :: _, _ :: _, x => x.elim
structure Bnd (v : PV) : Prop where
 b : v.board.length <= 100
 k : v.kinds.length <= 100
 s : v.sides.length <= 100
 h : v.hist.length <= 100
section
variable {n : Nat} {h : Hp} {X : Hp -> Prop} {A : PA} {g z : Nat} {v : PV} {call : Call}
theorem wW (x : PosAt h A g z v) (B : Bnd v) {Q : V -> Hp -> Prop} (q : ∀ h' r, Ext h h' -> RowAt h' r v -> Q (.ref r) h') : wp (run tab (n + 1) 124 [.ref A.p]) h Q X:= by
 refine oEA (fun hl e1 e2 => ?_) x.hist
 have el:= e2.len
 have B1:= B.b
 have B2:= B.k
 have B3:= B.s
 have B4:= B.h
 refine zV (fn:= fn_law_row) rfl rfl ?_
 cbv; refine zA x.pos rfl ?_
 cbv; refine qG x.board (by simp; exact yB B1 rfl) ?_
 have k1:= Ext.app h [.lst (il v.board)]
 have n1:= zC (h:= h) (o:= .lst (il v.board))
 generalize h ++ [.lst (il v.board)] = h1 at k1 n1 ⊢
 cbv; refine zA (k1 _ _ x.pos) rfl ?_
 cbv; refine qG (k1 _ _ x.kinds) (by simp; exact yB B2 rfl) ?_
 have k2:= Ext.app h1 [.lst (il v.kinds)]
 have n2:= zC (h:= h1) (o:= .lst (il v.kinds))
 have n1:= k2 _ _ n1
 have k2:= k1.trans k2
 generalize h1 ++ [.lst (il v.kinds)] = h2 at k2 n1 n2 ⊢
 cbv; refine zA (k2 _ _ x.pos) rfl ?_
 cbv; refine qG (k2 _ _ x.sides) (by simp; exact yB B3 rfl) ?_
 have k3:= Ext.app h2 [.lst (il v.sides)]
 have n3:= zC (h:= h2) (o:= .lst (il v.sides))
 have n1:= k3 _ _ n1
 have n2:= k3 _ _ n2
 have k3:= k2.trans k3
 generalize h2 ++ [.lst (il v.sides)] = h3 at k3 n1 n2 n3 ⊢
 cbv; refine zA (k3 _ _ x.pos) rfl ?_
 cbv; refine qG (k3 _ _ e1) (by exact yB (jO el B4) rfl) ?_
 have k4:= Ext.app h3 [.lst hl]
 have n4:= zC (h:= h3) (o:= .lst hl)
 have n1:= k4 _ _ n1
 have n2:= k4 _ _ n2
 have n3:= k4 _ _ n3
 have k4:= k3.trans k4
 generalize h3 ++ [.lst hl] = h4 at k4 n1 n2 n3 n4 ⊢
 cbv; refine zG rfl ?_
 have k5:= Ext.app h4 [.lst [.ref h.length, .ref h1.length, .ref h2.length, .ref h3.length]]
 have n5:= zC (h:= h4) (o:= .lst [.ref h.length, .ref h1.length, .ref h2.length, .ref h3.length])
 have n1:= k5 _ _ n1
 have n2:= k5 _ _ n2
 have n3:= k5 _ _ n3
 have n4:= k5 _ _ n4
 have k5:= k4.trans k5
 generalize h4 ++ [.lst [.ref h.length, .ref h1.length, .ref h2.length, .ref h3.length]] = h5 at k5 n1 n2 n3 n4 n5 ⊢
 cbv; refine zA (k5 _ _ x.pos) rfl ?_
 cbv; refine zA (k5 _ _ x.pos) rfl ?_
 cbv; refine zA (k5 _ _ x.pos) rfl ?_
 cbv; refine zA (k5 _ _ x.pos) rfl ?_
 cbv; refine zA (k5 _ _ x.pos) rfl ?_
 cbv; refine zA (k5 _ _ x.pos) rfl ?_
 cbv; refine zG rfl ?_
 cbv; refine iA (zI n5) zC (by simp) ?_
 cbv; have k6:= (Ext.app h5 [O.lst [.int v.side, .int v.rights, .int v.ep, .int v.half, .int v.full, .int v.key]]).app' [.lst ([.ref h.length, .ref h1.length, .ref h2.length, .ref h3.length] ++ [.int v.side, .int v.rights, .int v.ep, .int v.half, .int v.full, .int v.key])]
 exact q _ _ (k5.trans k6) ⟨_, _, _, _, hl, zC, k6 _ _ n1, k6 _ _ n2, k6 _ _ n3, k6 _ _ n4, e2.ext fun _ _ e => k6 _ _ (k5 _ _ e)⟩
theorem dN {ck : List Nat} (x : PosAt h A g z v) (hs : v.sides = sL ck) {Q : V -> Hp -> Prop} (q : Q (.int (sB ck 0 + sB ck 1 : Nat)) h) : wp (run tab (n + 1) 58 [.ref A.p]) h Q X:= by
 have e0 : v.sides[(0 : Int).toNat]? = some (sB ck 0 : Int):= by rw [hs]; rfl
 have e1 : v.sides[(1 : Int).toNat]? = some (sB ck 1 : Int):= by rw [hs]; rfl
 refine zV (fn:= fn_occupied) rfl rfl ?_
 cbv; refine zA x.pos rfl ?_
 cbv; refine xA x (by decide) e0 (by decide) ?_
 cbv; refine zA x.pos rfl ?_
 cbv; refine xA x (by decide) e1 (by decide) ?_
 cbv; rw [bOr, gS]
 exact q
theorem ba {ck : List Nat} {m : Nat} (hm : m ∈ ck) : gd ck (ck.idxOf m) = m /\ ck.idxOf m < ck.length /\ ∀ j, j < ck.idxOf m -> gd ck j ≠ m:= by
 have hlt:= List.idxOf_lt_length_iff.mpr hm
 refine ⟨?_, hlt, fun j hj e => ?_⟩
 ·
  have:= xN hlt
  rw [List.getElem?_eq_getElem hlt, List.getElem_idxOf] at this
  exact (Option.some.inj this).symm
 ·
  have hj' : j < ck.length:= as40 hj hlt
  have g:= xN hj'
  rw [e, List.getElem?_eq_getElem hj'] at g
  have g:= Option.some.inj g
  have:= List.not_of_lt_findIdx (p:= (· == m)) hj
  rw [g] at this
  simp at this
theorem idx_cI (ck : List Nat) (m : Nat) : (cI ck).idxOf (m : Int) = ck.idxOf m:= by
 unfold cI
 induction ck with
 | nil => rfl
 | cons c r ih =>
  simp only [List.map_cons, List.idxOf_cons]
  by_cases e : c = m
  ·
   subst e; simp
  ·
   have e1 : ((c : Int) == (m : Int)) = false:= by simp; exact cj e
   have e2 : (c == m) = false:= by simp [e]
   rw [e1, e2, ih]
theorem mem_cI {ck : List Nat} {m : Nat} : (m : Int) ∈ cI ck ↔ m ∈ ck:= by
 unfold cI
 rw [List.mem_map]
 exact ⟨oEA fun a h e => (show a = m by exact wO e) ▸ h, fun h => ⟨m, h, rfl⟩⟩
theorem lM {ck : List Nat} (x : PosAt h A g z v) (hk : v.kinds = kL ck) (hs : v.sides = sL ck) (hl : ck.length <= 21) {w : Nat} (hw : w < 2) (hm : w * 8 + 6 ∈ ck) {Q : V -> Hp -> Prop} (q : Q (.int (ck.idxOf (w * 8 + 6) : Nat)) h) :
  wp (run tab (n + 3) 59 [.ref A.p, .int w]) h Q X:= by
 refine oAA (fun f1 f2 f3 => ?_) (ba hm)
 refine zV (fn:= fn_king_square) rfl rfl ?_
 cbv; refine zA x.pos rfl ?_
 cbv; refine xA (y:= (sB ck w : Int)) x (by exact zK) (by rw [hs, toN]; exact uC ck hw) (by exact xJ hw rfl) ?_
 cbv; refine zA x.pos rfl ?_
 cbv; refine xP (y:= (kB ck 6 : Int)) x (by decide) (by rw [hk]; exact wH ck (by decide)) (by decide) ?_
 cbv; rw [oB, nJ (by decide) (by decide)]
 cbv; refine fO (i:= ck.idxOf (w * 8 + 6)) ?_ (fun j hj => ?_) (by exact yH f2 (yB hl rfl)) ?_
 ·
  unfold mB; rw [yJ]; simp [f1, f2]
 ·
  unfold mB; rw [yJ]; simp [f3 j hj]
 ·
  cbv; exact q
end
theorem iH {a b : Int} {i : Nat} {v : V} (h : [V.int a, V.int b][i]? = some v) : v = .int a \/ v = .int b:= by
 match i, h with
 | 0, h => exact .inl (Option.some.inj h).symm
 | 1, h => exact .inr (Option.some.inj h).symm
 | i + 2, h => simp at h
section
variable {n : Nat} {h : Hp} {X : Hp -> Prop} {A : PA} {g z : Nat} {v : PV} {call : Call}
theorem rx {c : Nat} {ck : List Nat} {l : Loc} {w k : Nat} (e : h[c]? = some (.lst (il (cI ck)))) (hl : ck.length <= 21) (hw : w < 2) (hk : k < 8) (g1 : get 120 l = some (.ref c)) (g2 : get 122 l = some (.int w)) (g3 : get 42 l = some (.int k)) {Q : V -> Hp -> Prop}
  (q : ∀ h' r ws, Ext h h' -> h'[r]? = some (.lst (il ws)) -> ws.sum = (mB ck (w * 8 + k) : Int) -> Q (.ref r) h') :
  wp (eval tab call (.compIf (.bin .shl (.int 1) (.loc 52)) 52 (.blt .range (.cons (.blt .len (.cons (.loc 120) .nil)) .nil)) (.cmp (.sub (.loc 120) (.loc 52)) (.cc .eq (.bin .add (.bin .mul (.loc 122) (.int 8)) (.loc 42)) .nil))) l) h Q X:= by
 refine tG ?_
 cbv; refine tA e (by simp [cI]; exact yB hl rfl) ?_
 rw [List.length_map, zN]
 cbv; refine xS (zM (by exact uK rfl) (by exact yP hl rfl)) ?_
 cbv; refine jR zC (by exact jH hl rfl) ?_
 cbv; refine tL (h:= _) _ (fun i acc h' => Ext h h' /\ ∃ ws, acc = il ws /\ ws.length <= i /\ ws.sum = (bts (fun s => decide (gd ck s = w * 8 + k)) i : Int)) (by simp; exact jH hl rfl) (fun _ _ _ _ => rfl) (fun i acc h' v hv1 I => ?_) (fun acc h' I => ?_) ⟨Ext.app h _, [], rfl, by simp, rfl⟩
 ·
  refine oA (fun hi t01 => ?_) (xW hv1); obtain rfl:= t01
  revert I; refine uE fun i1 ws t02 i2 i3 => ?_; obtain rfl:= t02
  cbv; refine zF (.inl (i1 _ _ e)) (by exact zK) (by exact xJ (yH hi hl) rfl) (gN hi) ?_
  cbv; refine xF (.inr rfl) ?_
  cbv; refine zB (fun e1 => ?_) fun e1 => ?_
  ·
   have e1 : gd ck i = w * 8 + k:= by lia
   cbv; refine wC (by exact zK) (by exact lR (yH hi hl) rfl) rfl ?_
   rw [sh1]
   cbv; refine ⟨i1, ws ++ [((2 ^ i : Nat) : Int)], by simp [il], by simp; exact i2, ?_⟩
   rw [List.sum_append, i3]
   simp [bts, e1]
  ·
   have e1 : ¬ gd ck i = w * 8 + k:= by lia
   cbv; exact ⟨i1, ws, rfl, by exact tf i2, by rw [i3]; simp [bts, e1]⟩
 ·
  revert I; refine uE fun i1 ws t02 i2 i3 => ?_; obtain rfl:= t02
  rw [List.length_map, List.length_range] at i2 i3
  cbv; refine xL (by simp [osz]; exact jZ i2 (yB hl rfl)) ?_
  exact q _ _ ws (i1.app' _) zC i3
theorem py {ck : List Nat} (hl : ck.length <= 21) : Bnd (pv0 ck):= ⟨by simp [pv0, cI]; exact yB hl rfl, by simp [pv0, kL], by simp [pv0, sL], by simp [pv0]⟩
theorem cI_lay {ck : List Nat} (hl : ck.length <= 21) (hv : Val ck) : PyData.layable0 (.list ((cI ck).map .int)) = true:= by
 refine aw (by rw [zN]; exact yB hl rfl) fun x hx => ?_
 unfold cI at hx
 refine oEA (fun c hc t02 => ?_) (List.mem_map.mp hx); obtain rfl:= t02
 rcases hv c hc with rfl | hm
 ·
  decide
 ·
  have:= (xD hm).2.2.2.1; lia
theorem tR {c f : Nat} {ck : List Nat} (x : PosAt h A g z (pv0 ck)) (e : h[c]? = some (.lst (il (cI ck)))) (hl : ck.length <= 21) (hv : Val ck) (hf : 0 < f) (hf' : f <= 8) {Q : V -> Hp -> Prop}
  (q : ∀ h', Ext h h' -> Q (.bool true) h') : wp (run tab (n + 4) 126 [.ref A.p, .ref c, .int f]) h Q X:= by
 refine zV (fn:= fn_law_agrees) rfl rfl ?_
 cbv; refine tQ e hl hv fun h1 t a b k1 ht ha hb => ?_
 refine ⟨_, ht, rfl, ?_⟩
 cbv; refine wW (x.ext k1) (py hl) fun h2 r1 k2 R1 => ?_
 cbv; refine zG rfl ?_
 have k3:= Ext.app h2 [.lst []]
 have n3:= zC (h:= h2) (o:= .lst [])
 generalize h2 ++ [.lst []] = h3 at k3 n3 ⊢
 cbv; have k13:= k1.trans (k2.trans k3)
 cbv; refine sU (r:= 0) (k13 _ _ e) hl hv hf hf' (by decide) fun h4 k4 => ?_
 cbv; refine zG rfl ?_
 have es : vQ ck f 0 0 (-1) = jP ck:= by unfold vQ; simp
 rw [es]
 have k5:= Ext.app h4 [.lst [.ref c, .ref a, .ref b, .ref h2.length, .int 0, .int 0, .int (-1), .int 0, .int 1, .int (jP ck : Nat)]]
 have n5:= zC (h:= h4) (o:= .lst [.ref c, .ref a, .ref b, .ref h2.length, .int 0, .int 0, .int (-1), .int 0, .int 1, .int (jP ck : Nat)])
 generalize h4 ++ [.lst [.ref c, .ref a, .ref b, .ref h2.length, .int 0, .int 0, .int (-1), .int 0, .int 1, .int (jP ck : Nat)]] = h5 at k5 n5 ⊢
 have k45:= k4.trans k5
 have k25:= k3.trans k45
 have k15:= k2.trans k25
 have k05:= k1.trans k15
 have R2 : RowAt h5 h4.length (pv0 ck):= ⟨_, _, _, _, _, n5, k05 _ _ e, k15 _ _ ha, k15 _ _ hb, k45 _ _ n3, trivial⟩
 cbv; refine rP (R1.ext k25).deep R2.deep ?_
 rw [(pO _ _).mpr rfl]
 cbv; try refine yV rfl ?_
 cbv; refine dN (ck:= ck) (x.ext k05) rfl ?_
 cbv; refine zF (.inl (k15 _ _ hb)) (by decide) (by decide) (tU (x:= (sB ck 0 : Int)) rfl) ?_
 cbv; refine zF (.inl (k15 _ _ hb)) (by decide) (by decide) (tU (x:= (sB ck 1 : Int)) rfl) ?_
 cbv; refine zB (fun e1 => absurd (show ((sB ck 0 + sB ck 1 : Nat) : Int) = (sB ck 0 : Int) + (sB ck 1 : Int) by lia) e1) fun _ => ?_
 cbv; refine zG rfl ?_
 have k6:= k05.app' [.tup [.int 0, .int 1]]
 have n6:= zC (h:= h5) (o:= .tup [.int 0, .int 1])
 generalize h5 ++ [.tup [.int 0, .int 1]] = h6 at k6 n6 ⊢
 cbv; refine pH n6 ?_
 cbv; refine xK (h:= _) (l:= _) _ (fun i l h' => Ext h h' /\ get 47 l = some (.ref A.p) /\ get 120 l = some (.ref c)) (by simp) (fun _ _ _ _ => rfl) (fun i l h' v hv1 I => ?_) (fun l h' I => ?_) ⟨k6, rfl, rfl⟩
 ·
  revert I; refine oAA fun i1 i2 i3 => ?_
  obtain ⟨w, hw, rfl⟩ : ∃ w : Nat, w < 2 /\ v = .int (w : Nat):= by
   rcases iH hv1 with rfl | rfl
   ·
    exact ⟨0, by decide, rfl⟩
   ·
    exact ⟨1, by decide, rfl⟩
  cbv; refine xF (.inr rfl) ?_
  cbv; rw [show (w : Int) * 8 + 6 = ((w * 8 + 6 : Nat) : Int) by lia]
  cbv; refine w_in (.inl (i1 _ _ e)) ?_
  have rest : ∀ (l' : Loc) (h' : Hp), Ext h h' -> get 47 l' = some (.ref A.p) -> get 120 l' = some (.ref c) -> get 122 l' = some (.int (w : Nat)) ->
    wp (exec tab (run tab (n + 3)) (.seq (.for 42 (.tup (.cons (.int 1) (.cons (.int 4) .nil)))
     (.seq (.ite (.cmp (.call 2 (.cons (.loc 47) (.cons (.loc 122) (.cons (.loc 42) .nil)))) (.cc .ne (.blt .sum (.cons (.compIf (.bin .shl (.int 1) (.loc 52)) 52 (.blt .range (.cons (.blt .len (.cons (.loc 120) .nil)) .nil)) (.cmp (.sub (.loc 120) (.loc 52)) (.cc .eq (.bin .add (.bin .mul (.loc 122) (.int 8)) (.loc 42)) .nil))) .nil)) .nil))
      (.seq (.ret (.bool false)) .nil) .nil) .nil)) .nil) l') h'
     (fun r h' => match r.1 with | .ret w => oU Q (.ret w, r.2) h' | _ => Ext h h' /\ get 47 r.2 = some (.ref A.p) /\ get 120 r.2 = some (.ref c)) X:= by
   intro l' h' j1 j2 j3 j4
   cbv; refine zG rfl ?_
   cbv; refine pH zC ?_
   cbv; refine xK (h:= _) (l:= _) _ (fun i l h' => Ext h h' /\ get 47 l = some (.ref A.p) /\ get 120 l = some (.ref c) /\ get 122 l = some (.int (w : Nat))) (by simp) (fun _ _ _ _ => rfl) (fun i l h' v hv1 I => ?_) (fun l h' I => ?_) ⟨j1.app' _, j2, j3, j4⟩
   ·
    revert I; refine yW fun i1 i2 i3 i4 => ?_
    obtain ⟨k, hk, hk', rfl⟩ : ∃ k : Nat, 1 <= k /\ k < 7 /\ v = .int (k : Nat):= by
     rcases iH hv1 with rfl | rfl
     ·
      exact ⟨1, by decide, by decide, rfl⟩
     ·
      exact ⟨4, by decide, by decide, rfl⟩
    cbv; refine mG (c:= (sB ck w : Int)) (d:= (kB ck k : Int)) (x.ext i1) (uC ck hw) (wH ck hk') (by exact oF hw rfl) (by exact oF hk' rfl) ?_
    rw [oB, nJ hk (by exact oF hk' rfl)]
    cbv; refine rx (w := w) (k := k) (i1 _ _ e) hl hw (by exact oF hk' rfl) (by walk_at "lc") (by walk_at "lc") (by walk_at "lc") fun h7 rr ws j1 j2 j3 => ?_
    cbv; refine ty j2 ?_
    rw [j3]
    cbv; refine zB (fun e1 => absurd rfl e1) fun _ => ?_
    cbv; exact ⟨i1.trans j1, by walk_at "lc", by walk_at "lc", by walk_at "lc"⟩
   ·
    revert I; refine yW fun i1 i2 i3 i4 => ?_
    cbv; exact ⟨i1, i2, i3⟩
  cbv; refine wS (fun e1 => ?_) fun e1 => ?_
  ·
   have e1:= mem_cI.mp e1
   cbv; refine lM (x.ext i1) rfl rfl hl hw e1 ?_
   cbv; refine wD (i1 _ _ e) ?_
   cbv; refine nw (i1 _ _ e) (cI_lay hl hv) (mem_cI.mpr e1) ?_
   rw [idx_cI]
   cbv; refine zB (fun e1 => absurd rfl e1) fun _ => ?_
   iterate 3 walk_at "st"
   exact rest _ _ i1 (by walk_at "lc") (by walk_at "lc") (by walk_at "lc")
  ·
   iterate 5 walk_at "st"
   exact rest _ _ i1 (by walk_at "lc") (by walk_at "lc") (by walk_at "lc")
 ·
  cbv; exact q _ I.1
end
theorem uP {h : Hp} {X : Hp -> Prop} {c k m : Nat} {ck : List Nat} {Q : Unit -> Hp -> Prop} (e : h[c]? = some (.lst (il (cI ck)))) (hk : k < ck.length) (hl : ck.length <= 21)
  (q : ∀ h', h' = h.set c (.lst (il (cI (ck.set k m)))) -> h'[c]? = some (.lst (il (cI (ck.set k m)))) -> Q () h') : wp (yR (.ref c) (.int k) (.int m)) h Q X:= by
 cbv; refine wA e (by exact zK) (by rw [List.length_map, zN]; exact vL hk) (by exact xJ (yH hk hl) rfl) ?_
 rw [qS, toN, pE]
 exact q _ rfl (zS e)
noncomputable def CL (h0 h : Hp) (c N : Nat) : Prop:= Ext h0 h /\ h0.length <= c /\ ∃ ck, h[c]? = some (.lst (il (cI ck))) /\ Val ck /\ ck.length = N
section
variable {n : Nat} {h : Hp} {X : Hp -> Prop} {A : PA} {g z : Nat} {v : PV} {call : Call}
theorem uZ {h0 : Hp} {c N k m : Nat} {Q : Unit -> Hp -> Prop} (x : CL h0 h c N) (hN : N <= 21) (hk : k < N) (hm : m = 0 \/ m ∈ men) (q : ∀ h', CL h0 h' c N -> Q () h') : wp (yR (.ref c) (.int k) (.int m)) h Q X:= by
 revert x; refine qM fun x1 x2 ck x3 x4 x5 => ?_
 exact uP x3 (by exact uN x5 hk) (by exact jO x5 hN) fun h' e1 e2 => q h' ⟨e1 ▸ x1.set x2 _, x2, _, e2, x4.set hm, by rw [List.length_set]; exact x5⟩
theorem uD : ∀ N : Nat, rep [V.int 0] N = il (cI (List.replicate N 0))
 | 0 => rfl
 | N + 1 => by simp only [rep, uD N, List.replicate_succ]; rfl
theorem fR {S : SI} {h0 : Hp} (hS : Stat h0 S) {num : Int} {w : Nat} (hw : w < 2) {Q : V -> Hp -> Prop}
  (q : ∀ h' c, CL h h' c (S.fg * S.rg) -> Q (.ref c) h') : wp (run tab (n + 1) 127 [.int S.fg, .int S.rg, .bool S.dv, .bool S.wg, .int num, .int w]) h Q X:= by
 have f2:= hS.f2
 have f8:= hS.f8
 have r3:= hS.r3
 have r8:= hS.r8
 have sz:= hS.sz
 have N1 : S.fg <= S.fg * S.rg:= Nat.le_mul_of_pos_right _ (by exact yY r3 rfl)
 refine zV (fn:= fn_law_first) rfl rfl ?_
 cbv; refine xF (.inl (zM (by exact uK rfl) (by exact yP f8 rfl))) ?_
 rw [show (S.fg : Int) * (S.rg : Nat) = ((S.fg * S.rg : Nat) : Int) by simp]
 cbv; refine zG rfl ?_
 cbv; refine sK zC (by exact zK) (by exact sx sz rfl) (by simp) (by rw [toN, uD]; simp [cI]; exact yB sz rfl) ?_
 rw [toN, uD]
 have c0 : CL h ((h ++ [O.lst [V.int 0]]) ++ [.lst (il (cI (List.replicate (S.fg * S.rg) 0)))]) (h ++ [O.lst [V.int 0]]).length (S.fg * S.rg) :=
  ⟨(Ext.app h _).app' _, by simp, _, zC, fun c hc => .inl (List.eq_of_mem_replicate hc), List.length_replicate⟩
 generalize (h ++ [O.lst [V.int 0]]) ++ [.lst (il (cI (List.replicate (S.fg * S.rg) 0)))] = h1 at c0 ⊢
 generalize (h ++ [O.lst [V.int 0]]).length = c at c0 ⊢
 try refine yI ?_
 refine yD (fun l h' => (get 22 l = some (.int S.fg) /\ get 23 l = some (.int S.rg) /\ get 19 l = some (.int (S.fg * S.rg : Nat)) /\ get 120 l = some (.ref c) /\ get 122 l = some (.int w) /\ get 128 l = some (.bool S.dv) /\ get 129 l = some (.bool S.wg) /\ get 130 l = some (.int num)) /\ CL h h' c (S.fg * S.rg)) ?_ fun l2 h2 => oA <| wF fun g1 g2 g3 g4 g5 g6 g7 g8 c2 => ?_
 ·
  cbv; refine zW (by decide) ?_
  cbv; refine zB (fun _ => ?_) fun _ => ?_
  ·
   cbv; refine yL (by decide) (by decide) ?_
   rw [show (S.fg : Int) / 2 = ((S.fg / 2 : Nat) : Int) by lia]
   cbv; refine uZ (m:= 6) c0 sz (yH (half f2) N1) (.inr (by decide)) fun h2 c2 => ?_
   cbv; refine yL (by decide) (by decide) ?_
   cbv; rw [show ((S.fg * S.rg : Nat) : Int) - (S.fg : Nat) + (S.fg : Int) / 2 = ((S.fg * S.rg - S.fg + S.fg / 2 : Nat) : Int) from cadd N1]
   cbv; refine uZ (m:= 14) c2 sz (edge N1 (half f2)) (.inr (by decide)) fun h3 c3 => ?_
   cbv; exact ⟨⟨rfl, rfl, rfl, rfl, rfl, rfl, rfl, rfl⟩, c3⟩
  ·
   cbv; exact ⟨⟨rfl, rfl, rfl, rfl, rfl, rfl, rfl, rfl⟩, c0⟩
 try refine yI ?_
 refine yD (fun l h' => (get 22 l = some (.int S.fg) /\ get 23 l = some (.int S.rg) /\ get 19 l = some (.int (S.fg * S.rg : Nat)) /\ get 120 l = some (.ref c) /\ get 122 l = some (.int w) /\ get 128 l = some (.bool S.dv) /\ get 129 l = some (.bool S.wg) /\ get 130 l = some (.int num)) /\ CL h h' c (S.fg * S.rg)) ?_ fun l3 h3 => oA <| wF fun g1 g2 g3 g4 g5 g6 g7 g8 c3 => ?_
 ·
  cbv; refine sJ (fun _ => ?_) fun _ => ?_
  ·
   cbv; refine yL (by decide) (by decide) ?_
   cbv; refine zW (by decide) ?_
   cbv; refine zB (fun _ => ?_) fun _ => ?_
   ·
    cbv; refine zG rfl ?_
    cbv; refine pH zC ?_
    have c2' : CL h (h2 ++ [.tup [.int 0, .int ((S.fg : Int) - 1)]]) c (S.fg * S.rg):= by
     revert c2; refine tC fun x1 x2 ck x3 x4 => ?_
     exact ⟨x1.app' _, x2, ck, zI x3, x4⟩
    cbv; refine xK (h:= _) (l:= _) _ (fun i l h' => (get 22 l = some (.int S.fg) /\ get 23 l = some (.int S.rg) /\ get 19 l = some (.int (S.fg * S.rg : Nat)) /\ get 120 l = some (.ref c) /\ get 122 l = some (.int w) /\ get 128 l = some (.bool S.dv) /\ get 129 l = some (.bool S.wg) /\ get 130 l = some (.int num)) /\ CL h h' c (S.fg * S.rg)) (by simp) (fun _ _ _ _ => rfl) (fun i l h' v hv1 I => ?_) (fun l h' I => ?_) ⟨⟨g1, g2, g3, g4, g5, g6, g7, g8⟩, c2'⟩
    ·
     revert I; refine oA <| wF fun g1 g2 g3 g4 g5 g6 g7 g8 c4 => ?_
     obtain ⟨k, hk, rfl⟩ : ∃ k : Nat, k < S.fg /\ v = .int (k : Nat):= by
      rcases iH hv1 with rfl | rfl
      ·
       exact ⟨0, by exact yY f2 rfl, rfl⟩
      ·
       exact ⟨S.fg - 1, ma (yY f2 rfl), by congr 1; exact gB (cO f2 rfl)⟩
     cbv; refine uZ (m:= 4) c4 sz (by exact yH hk N1) (.inr (by decide)) fun h5 c5 => ?_
     cbv; rw [show ((S.fg * S.rg : Nat) : Int) - (S.fg : Nat) + (k : Nat) = ((S.fg * S.rg - S.fg + k : Nat) : Int) from cadd N1]
     cbv; refine uZ (m:= 12) c5 sz (edge N1 hk) (.inr (by decide)) fun h6 c6 => ?_
     cbv; exact ⟨⟨by walk_at "lc", by walk_at "lc", by walk_at "lc", by walk_at "lc", by walk_at "lc", by walk_at "lc", by walk_at "lc", by walk_at "lc"⟩, c6⟩
    ·
     cbv; exact I
   ·
    cbv; exact ⟨⟨g1, g2, g3, g4, g5, g6, g7, g8⟩, c2⟩
  ·
   cbv; cbv
   exact ⟨⟨g1, g2, g3, g4, g5, g6, g7, g8⟩, c2⟩
 try refine yI ?_
 refine yD (fun l h' => get 120 l = some (.ref c) /\ CL h h' c (S.fg * S.rg)) ?_ fun l4 h4 => oA fun g1 c4 => ?_
 ·
  cbv; refine sJ (fun hd => ?_) fun _ => ?_
  ·
   refine oA (fun d1 d2 => ?_) (hS.dbl hd)
   rw [d1, d2] at c3
   rw [d1] at g1
   rw [d2] at g2
   cbv; refine yL (by decide) (by decide) ?_
   cbv; refine zW (by decide) ?_
   cbv; refine zB (fun _ => ?_) fun _ => ?_
   ·
    have rest : ∀ a : Nat, (a = 3 \/ a = 1) -> wp (yU .mul (.int a) (.int (4 : Nat))) h3 (kAsg 90 l3 (kSeq tab (run tab n) (.seq (.setsub (.loc 120) (.loc 90) (.bin .sub (.int 9) (.bin .mul (.int 8) (.loc 122))))
      (.seq (.setsub (.loc 120) (.bin .add (.loc 90) (.int 1)) (.bin .add (.int 1) (.bin .mul (.int 8) (.loc 122)))) .nil)) X (cB (fun l h' => get 120 l = some (.ref c) /\ CL h h' c (S.fg * S.rg)) (oU Q)))) X:= by
     intro a ha
     have w1 : (9 : Int) - 8 * (w : Nat) = ((9 - 8 * w : Nat) : Int):= at38 hw
     have w2 : (1 : Int) + 8 * (w : Nat) = ((1 + 8 * w : Nat) : Int):= by lia
     have m1 : 9 - 8 * w ∈ men:= by
      have : w = 0 \/ w = 1:= by lia
      rcases this with rfl | rfl <;> decide
     have m2 : 1 + 8 * w ∈ men:= by
      have : w = 0 \/ w = 1:= by lia
      rcases this with rfl | rfl <;> decide
     cbv; refine xF (.inr rfl) ?_
     rw [show (a : Int) * ((4 : Nat) : Int) = ((a * 4 : Nat) : Int) by lia]
     cbv; refine xF (.inl rfl) ?_
     cbv; rw [w1]
     cbv; refine uZ c3 (by decide) (by lia) (.inr m1) fun h5 c5 => ?_
     cbv; refine xF (.inl rfl) ?_
     cbv; rw [w2, show ((a * 4 : Nat) : Int) + 1 = ((a * 4 + 1 : Nat) : Int) by lia]
     cbv; refine uZ c5 (by decide) (by lia) (.inr m2) fun h6 c6 => ?_
     cbv; exact ⟨by walk_at "lc", by rw [d1, d2]; exact c6⟩
    cbv; refine zB (fun _ => ?_) fun _ => ?_
    ·
     cbv; exact rest 3 (.inl rfl)
    ·
     cbv; exact rest 1 (.inr rfl)
   ·
    cbv; exact ⟨g4, by rw [d1, d2]; exact c3⟩
  ·
   cbv; cbv
   exact ⟨g4, c3⟩
 cbv; exact q _ _ c4
end
noncomputable def KeepC (A : PA) (c : Nat) (h h' : Hp) : Prop:= (∀ (n : Nat) (o : O), h[n]? = some o -> ¬ A.Has n -> n ≠ c -> h'[n]? = some o) /\ h.length <= h'.length
theorem KeepC.refl (A : PA) (c : Nat) (h : Hp) : KeepC A c h h:= ⟨fun _ _ e _ _ => e, Nat.le_refl _⟩
theorem KeepC.trans {A : PA} {c : Nat} {x y z : Hp} (a : KeepC A c x y) (b : KeepC A c y z) : KeepC A c x z:= ⟨fun n o e q r => b.1 n o (a.1 n o e q r) q r, Nat.le_trans a.2 b.2⟩
theorem KeepC.of_ext {A : PA} {c : Nat} {x y : Hp} (a : Ext x y) : KeepC A c x y:= ⟨fun n o e _ _ => a n o e, a.len⟩
theorem KeepC.of_keep {A : PA} {c : Nat} {x y : Hp} (a : Keep A x y) : KeepC A c x y:= ⟨fun n o e q _ => a.1 n o e q, a.2⟩
theorem KeepC.of_set {A : PA} {c : Nat} {x : Hp} (o : O) : KeepC A c x (x.set c o):= ⟨fun n o' e _ q => zD e q, by rw [List.length_set]; exact Nat.le_refl _⟩
theorem KeepC.ext {A : PA} {c : Nat} {h0 x y : Hp} (a : KeepC A c x y) (k : Ext h0 x) (ge : A.Ge h0.length) (hc : h0.length <= c) : Ext h0 y:= fun n o e => a.1 n o (k n o e) (fun q => by
 have:= zJ e
 revert ge; refine yE fun g1 g2 g3 g4 g5 => ?_
 rcases q with q | q | q | q | q <;> lia) (by have:= zJ e; exact mj (yH this hc))
theorem PosAt.set_other {h : Hp} {A : PA} {g z : Nat} {v : PV} (x : PosAt h A g z v) {c : Nat} (hc : ¬ A.Has c) {o o' : O} (e : h[c]? = some o) (ne : ∀ xs, o ≠ .tup xs) : PosAt (h.set c o') A g z v :=
 let ⟨hl, a, b⟩:= x.hist
 ⟨zD x.pos fun q => hc (.inl q.symm), zD x.board fun q => hc (.inr (.inl q.symm)), zD x.kinds fun q => hc (.inr (.inr (.inl q.symm))), zD x.sides fun q => hc (.inr (.inr (.inr (.inl q.symm)))),
  ⟨hl, zD a fun q => hc (.inr (.inr (.inr (.inr q.symm)))), b.set_lst e ne⟩, x.n1, x.n2, x.n3, x.n4, x.n5, x.n6⟩
theorem fU {k : Nat} (h : k < 12) : ∃ m, (il (cI men))[k]? = some (.int (m : Nat)) /\ m ∈ men:= by
 have hl : k < men.length:= by simp [men]; exact h
 refine ⟨gd men k, tU (yG hl), ?_⟩
 exact List.mem_of_getElem? (xN hl)
section
variable {n : Nat} {h : Hp} {X : Hp -> Prop} {A : PA} {g z : Nat} {v : PV} {call : Call}
theorem bj {c spot : Nat} {ck : List Nat} {l : Loc} (e : h[c]? = some (.lst (il (cI ck)))) (hl : ck.length <= 21) (hp : spot < ck.length) (g1 : get 120 l = some (.ref c)) (g2 : get 132 l = some (.int (spot : Nat))) (g3 : get 19 l = some (.int (ck.length : Nat))) {Q : V -> Hp -> Prop}
  (q : ∀ h' r (ws : List Nat), Ext h h' -> h.length <= r -> h'[r]? = some (.lst (il (cI ws))) -> ws.length <= 21 -> (∀ x ∈ ws, x < ck.length /\ gd ck x = 0) -> Q (.ref r) h') :
  wp (eval tab call (.compIf (.bin .mod (.bin .add (.loc 132) (.loc 118)) (.loc 19)) 118 (.blt .range (.cons (.loc 19) .nil)) (.cmp (.sub (.loc 120) (.bin .mod (.bin .add (.loc 132) (.loc 118)) (.loc 19))) (.cc .eq (.int 0) .nil))) l) h Q X:= by
 refine tG ?_
 cbv; refine xS (zM (by exact uK rfl) (by exact yP hl rfl)) ?_
 cbv; refine jR zC (by exact jH hl rfl) ?_
 cbv; refine tL (h:= _) _ (fun i acc h' => Ext h h' /\ ∃ ws : List Nat, acc = il (cI ws) /\ ws.length <= i /\ (∀ x ∈ ws, x < ck.length /\ gd ck x = 0)) (by simp; exact jH hl rfl) (fun _ _ _ _ => rfl) (fun i acc h' v hv1 I => ?_) (fun acc h' I => ?_) ⟨Ext.app h _, [], rfl, by simp, fun x hx => by cases hx⟩
 ·
  refine oA (fun hi t01 => ?_) (xW hv1); obtain rfl:= t01
  revert I; refine uE fun i1 ws t02 i2 i3 => ?_; obtain rfl:= t02
  have e2 : ((spot : Nat) : Int) + (i : Nat) = ((spot + i : Nat) : Int):= by lia
  have e3 : ((spot + i : Nat) : Int) % (ck.length : Nat) = (((spot + i) % ck.length : Nat) : Int):= by lia
  have hlt : (spot + i) % ck.length < ck.length:= Nat.mod_lt _ (by exact tu gC hi)
  cbv; refine zW (by lia) ?_
  rw [e2, e3]
  cbv; refine zF (.inl (i1 _ _ e)) (by exact zK) (by exact xJ (yH hlt hl) rfl) (gN hlt) ?_
  cbv; refine zB (fun e1 => ?_) fun e1 => ?_
  ·
   cbv; refine zW (by lia) ?_
   rw [e2, e3]
   cbv; refine ⟨i1, ws ++ [(spot + i) % ck.length], by simp [il, cI], by simp; exact i2, fun x hx => ?_⟩
   refine oO (fun q => ?_) (fun q => ?_) (List.mem_append.mp hx)
   ·
    exact i3 x q
   ·
    rw [List.mem_singleton.mp q]; exact ⟨hlt, by exact wO e1⟩
  ·
   cbv; exact ⟨i1, ws, rfl, by exact tf i2, i3⟩
 ·
  revert I; refine uE fun i1 ws t02 i2 i3 => ?_; obtain rfl:= t02
  rw [List.length_map, List.length_range] at i2
  cbv; refine xL (by simp [osz, cI]; exact jZ i2 (yB hl rfl)) ?_
  exact q _ _ ws (i1.app' _) i1.len zC (by exact jZ i2 hl) i3
theorem iZ {h0 : Hp} {S : SI} (hS : Stat h0 S) (hall : h0[2]? = some (.tup (il (cI men)))) (hx : Ext h0 h) (ge : A.Ge h0.length) {c : Nat} (hc : h0.length <= c) (hcA : ¬ A.Has c) {ck : List Nat} (hl : ck.length = S.fg * S.rg) (hv : Val ck)
  (x : PosAt h A S.g S.z (pv0 ck)) (e : h[c]? = some (.lst (il (cI ck)))) {num : Int} {Q : V -> Hp -> Prop}
  (q : ∀ h' cells', KeepC A c h h' -> PosAt h' A S.g S.z (pv0 cells') -> h'[c]? = some (.lst (il (cI cells'))) -> cells'.length = S.fg * S.rg -> Val cells' -> Q (.bool true) h') : wp (run tab (n + 3) 131 [.ref A.p, .ref c, .int num]) h Q X:= by
 have sz:= hS.sz
 have f2:= hS.f2
 have r3:= hS.r3
 have N0 : 0 < S.fg * S.rg:= Nat.mul_pos (by exact yY f2 rfl) (by exact yY r3 rfl)
 refine zV (fn:= fn_law_change) rfl rfl ?_
 cbv; refine tA e (by simp [cI]; exact yB (jO hl sz) rfl) ?_
 rw [List.length_map, zN]
 cbv; refine zW (by exact vL (uN hl N0)) ?_
 obtain ⟨spot, es⟩ : ∃ spot : Nat, num % (ck.length : Nat) = (spot : Int):= ⟨(num % (ck.length : Nat)).toNat, (Int.toNat_of_nonneg (Int.emod_nonneg _ (by lia))).symm⟩
 have hsp : spot < ck.length:= by
  have:= Int.emod_lt_of_pos num (show (0 : Int) < (ck.length : Nat) by exact vL (uN hl N0))
  exact cp (as24 es this)
 rw [es]
 cbv; refine yL (by exact vL (uN hl N0)) (by exact yP (jO hl sz) rfl) ?_
 cbv; refine zW (by decide) ?_
 obtain ⟨code, ec⟩ : ∃ code : Nat, (num / (ck.length : Nat)) % 24 = (code : Int):= ⟨((num / (ck.length : Nat)) % 24).toNat, (Int.toNat_of_nonneg (Int.emod_nonneg _ (by decide))).symm⟩
 rw [ec]
 cbv; refine zF (.inl e) (by exact zK) (by exact gA hsp hl sz rfl) (gN hsp) ?_
 cbv; refine zB (fun e1 => ?_) fun e1 => ?_
 ·
  have e1 : gd ck spot = 0:= wO e1
  cbv; refine zW (by decide) ?_
  rw [show (code : Int) % 12 = ((code % 12 : Nat) : Int) by lia]
  refine oEA (fun m hm1 hm2 => ?_) (fU (k:= code % 12) (by exact at35 rfl))
  cbv; refine zF (.inr (hx _ _ hall)) (by exact zK) (by exact at34 rfl) (by rw [toN]; exact hm1) ?_
  cbv; refine uP e hsp (by exact jO hl sz) fun h1 eh e2 => ?_
  have x1 : PosAt h1 A S.g S.z (pv0 ck):= eh ▸ x.set_other hcA e (by simp)
  have k1 : KeepC A c h h1:= eh ▸ KeepC.of_set _
  have hx1:= k1.ext hx ge hc
  have hsp' : spot < (ck.set spot m).length:= by rw [List.length_set]; exact hsp
  have gm : gd (ck.set spot m) spot = m:= by rw [wL hsp, if_pos rfl]
  cbv; refine zF (.inl e2) (by exact zK) (by exact gA hsp hl sz rfl) (gN hsp') ?_
  rw [gm]
  cbv; refine qK hS hx1 ge hl x1 hsp e1 hm2 fun h2 k2 x2 => ?_
  cbv; exact q _ _ (k1.trans (.of_keep k2)) x2 (k2.1 _ _ e2 hcA) (by rw [List.length_set]; exact hl) (hv.set (.inr hm2))
 ·
  have e1 : gd ck spot ≠ 0:= tJ e1
  have hm:= hv.gd spot e1
  cbv; refine bj e (by exact jO hl sz) hsp rfl rfl rfl fun h1 rr ws k1 j0 j1 j2 j3 => ?_
  cbv; refine uP (m:= 0) (k1 _ _ e) hsp (by exact jO hl sz) fun h2 eh e2 => ?_
  have x2 : PosAt h2 A S.g S.z (pv0 ck):= eh ▸ (x.ext k1).set_other hcA (k1 _ _ e) (by simp)
  have k2 : KeepC A c h h2:= eh ▸ (KeepC.of_ext k1).trans (KeepC.of_set _)
  have hx2:= k2.ext hx ge hc
  have hrc : rr ≠ c:= by have:= zJ e; exact qX (yH this j0)
  have j4 : h2[rr]? = some (.lst (il (cI ws))):= eh ▸ zD j1 hrc
  have taken : ∀ l', get 47 l' = some (.ref A.p) -> get 132 l' = some (.int (spot : Nat)) -> get 134 l' = some (.int (gd ck spot : Nat)) ->
    wp (exec tab (run tab (n + 2)) (.seq (.ret (.cmp (.call 54 (.cons (.loc 47) (.cons (.loc 132) .nil))) (.cc .eq (.loc 134) .nil))) .nil) l') h2 (fun p h' => p.1 = .ret (.bool true) /\ Q (.bool true) h') X:= by
   intro l' g1 g2 g3
   cbv; refine iI hS hx2 ge hl x2 hsp rfl hm fun h3 k3 x3 => ?_
   cbv; refine k_ceq ?_
   rw [eTr rfl]
   exact ⟨rfl, q _ _ (k2.trans (.of_keep k3)) x3 (k3.1 _ _ e2 hcA) (by rw [List.length_set]; exact hl) (hv.set (.inl rfl))⟩
  cbv; refine zW (by decide) ?_
  cbv; refine zT (fun _ => ?_) fun _ => ?_
  ·
   iterate 2 walk_at "st"
   refine yI ?_
   refine uW (taken _ rfl rfl rfl) (fun p h' z => ?_) fun _ z => z
   obtain ⟨f, l'⟩:= p
   revert z; refine oA fun t00 z => ?_; obtain rfl:= t00
   exact z
  ·
   cbv; refine tA j4 (by simp [cI]; exact yB j2 rfl) ?_
   rw [List.length_map, zN]
   cbv; refine zB (fun _ => ?_) fun e3 => ?_
   ·
    try refine yI ?_
    refine uW (taken _ rfl rfl rfl) (fun p h' z => ?_) fun _ z => z
    obtain ⟨f, l'⟩:= p
    revert z; refine oA fun t00 z => ?_; obtain rfl:= t00
    exact z
   ·
    have hw : 0 < ws.length:= ar31 (tJ e3)
    refine oA (fun b1 b2 => ?_) (j3 (gd ws 0) (List.mem_of_getElem? (xN hw)))
    have hne : spot ≠ gd ws 0:= fun z => e1 (z ▸ b2)
    have hb' : gd ws 0 < (ck.set spot 0).length:= by rw [List.length_set]; exact b1
    cbv; refine zF (.inl j4) (by decide) (by decide) (gN hw) ?_
    cbv; refine uP e2 hb' (by rw [List.length_set]; exact jO hl sz) fun h3 eh3 e3 => ?_
    have x3 : PosAt h3 A S.g S.z (pv0 ck):= eh3 ▸ x2.set_other hcA e2 (by simp)
    have k3 : KeepC A c h h3:= eh3 ▸ k2.trans (KeepC.of_set _)
    have hx3:= k3.ext hx ge hc
    have j5 : h3[rr]? = some (.lst (il (cI ws))):= eh3 ▸ zD j4 hrc
    cbv; refine zF (.inl j5) (by decide) (by decide) (gN hw) ?_
    cbv; refine lK hS hx3 ge hl x3 hsp b1 hne rfl hm b2 fun h4 k4 x4 => ?_
    cbv; exact q _ _ (k3.trans (.of_keep k4)) x4 (k4.1 _ _ e3 hcA) (by rw [List.length_set, List.length_set]; exact hl) ((hv.set (.inl rfl)).set (.inr hm))
end
noncomputable def yS (S : SI) (ck : List Nat) (i : Nat) : Bool:= S.wg && S.room i && decide (gd ck (S.kingSq i) = i / 2 * 8 + 6) && decide (gd ck (S.rookSq i) = i / 2 * 8 + 4)
noncomputable def oK (S : SI) (ck : List Nat) : Nat:= bts (yS S ck) 4
theorem Stat.sq {h : Hp} {S : SI} (hS : Stat h S) {i : Nat} (hi : i < 4) : S.kingSq i < S.fg * S.rg /\ S.rookSq i < S.fg * S.rg /\ S.fg <= S.fg * S.rg:= by
 have f2:= hS.f2
 have r3:= hS.r3
 have N1 : S.fg <= S.fg * S.rg:= Nat.le_mul_of_pos_right _ (by exact yY r3 rfl)
 have : i / 2 = 0 \/ i / 2 = 1:= at13 hi
 refine ⟨?_, ?_, N1⟩
 ·
  unfold SI.kingSq SI.size
  (revert this; refine oO (fun e => ?_) fun e => ?_) <;> rw [e] <;> simp only [Nat.zero_mul, Nat.one_mul, Nat.zero_add] <;> first | exact yH (half f2) N1 | exact edge N1 (half f2)
 ·
  unfold SI.rookSq SI.size
  (revert this; refine oO (fun e => ?_) fun e => ?_) <;> rw [e] <;> split <;> simp only [Nat.zero_mul, Nat.one_mul, Nat.zero_add] <;> first | exact yH (ma (yY f2 rfl)) N1 | exact yY (jZ f2 N1) rfl | exact edge N1 (ma (yY f2 rfl)) | exact edge N1 (yY f2 rfl)
section
variable {n : Nat} {h : Hp} {X : Hp -> Prop} {A : PA} {g z : Nat} {v : PV} {call : Call}
theorem pW {h0 : Hp} {S : SI} (hS : Stat h0 S) {b : Nat} {ck : List Nat} (e : h[b]? = some (.lst (il (cI ck)))) (hl : ck.length = S.fg * S.rg) {Q : V -> Hp -> Prop}
  (q : ∀ h', Ext h h' -> Q (.int (oK S ck : Nat)) h') : wp (run tab (n + 1) 137 [.ref b, .int S.fg, .bool S.wg]) h Q X:= by
 have sz:= hS.sz
 have f8:= hS.f8
 refine zV (fn:= fn_law_rights) rfl rfl ?_
 cbv; refine yL (by decide) (by decide) ?_
 rw [show (S.fg : Int) / 2 = ((S.fg / 2 : Nat) : Int) by lia]
 cbv; refine xS rfl ?_
 cbv; refine jR zC (by decide) ?_
 cbv; refine xK (h:= _) (l:= _) _ (fun i l h' => Ext h h' /\ get 120 l = some (.ref b) /\ get 22 l = some (.int S.fg) /\ get 129 l = some (.bool S.wg) /\ get 141 l = some (.int (S.fg / 2 : Nat)) /\ get 123 l = some (.int (bts (yS S ck) i : Nat))) (by simp) (fun _ _ _ _ => rfl) (fun i l h' v hv1 I => ?_) (fun l h' I => ?_) ⟨Ext.app h _, rfl, rfl, rfl, rfl, rfl⟩
 ·
  refine oA (fun hi t01 => ?_) (xW hv1); obtain rfl:= t01
  have hi : i < 4:= hi
  revert I; refine wG fun i1 i2 i3 i4 i5 i6 => ?_
  refine oAA (fun q1 q2 q3 => ?_) (hS.sq hi)
  have ei : (i : Int) / 2 = ((i / 2 : Nat) : Int):= by lia
  have ef : ((i / 2 : Nat) : Int) * ((ck.length : Nat) - (S.fg : Nat)) = ((i / 2 * (S.fg * S.rg - S.fg) : Nat) : Int):= by
   rw [hl]
   exact cmul q3
  have rest : ∀ (l' : Loc) (co : Nat), S.rookSq i = i / 2 * (S.fg * S.rg - S.fg) + co -> get 120 l' = some (.ref b) -> get 22 l' = some (.int S.fg) -> get 129 l' = some (.bool S.wg) -> get 141 l' = some (.int (S.fg / 2 : Nat)) -> get 123 l' = some (.int (bts (yS S ck) i : Nat)) ->
    get 138 l' = some (.int (i : Nat)) -> get 139 l' = some (.bool (S.room i)) -> get 140 l' = some (.int (i / 2 * (S.fg * S.rg - S.fg) : Nat)) -> get 110 l' = some (.int (co : Nat)) ->
    wp (exec tab (run tab n) (.seq (.ite (.and (.cons (.loc 129) (.cons (.loc 139) (.cons (.cmp (.sub (.loc 120) (.bin .add (.loc 140) (.loc 141))) (.cc .eq (.bin .add (.bin .mul (.bin .fdiv (.loc 138) (.int 2)) (.int 8)) (.int 6)) .nil)) (.cons (.cmp (.sub (.loc 120) (.bin .add (.loc 140) (.loc 110))) (.cc .eq (.bin .add (.bin .mul (.bin .fdiv (.loc 138) (.int 2)) (.int 8)) (.int 4)) .nil)) .nil)))))
     (.seq (.augloc 123 .add (.bin .shl (.int 1) (.loc 138))) .nil) .nil) .nil) l') h'
     (fun r h' => match r.1 with | .ret w => kSeq tab (run tab n) (.seq (.ret (.loc 123)) .nil) X (oU Q) (.ret w, r.2) h' | _ => Ext h h' /\ get 120 r.2 = some (.ref b) /\ get 22 r.2 = some (.int S.fg) /\ get 129 r.2 = some (.bool S.wg) /\ get 141 r.2 = some (.int (S.fg / 2 : Nat)) /\ get 123 r.2 = some (.int (bts (yS S ck) (i + 1) : Nat))) X:= by
   intro l' co hco g1 g2 g3 g4 g5 g6 g7 g8 g9
   have hk : ((i / 2 * (S.fg * S.rg - S.fg) : Nat) : Int) + ((S.fg / 2 : Nat) : Int) = ((S.kingSq i : Nat) : Int):= by unfold SI.kingSq SI.size; lia
   have hr : ((i / 2 * (S.fg * S.rg - S.fg) : Nat) : Int) + ((co : Nat) : Int) = ((S.rookSq i : Nat) : Int):= by rw [hco]; lia
   have no : yS S ck i = false -> Ext h h' /\ get 120 l' = some (.ref b) /\ get 22 l' = some (.int S.fg) /\ get 129 l' = some (.bool S.wg) /\ get 141 l' = some (.int (S.fg / 2 : Nat)) /\ get 123 l' = some (.int (bts (yS S ck) (i + 1) : Nat)):= fun hw => by
    refine ⟨i1, g1, g2, g3, g4, ?_⟩
    rw [g5]; simp only [bts, hw, Bool.false_eq_true, if_false, Nat.add_zero]
   cbv; refine sJ (fun w1 => ?_) fun w1 => ?_
   ·
    cbv; refine sJ (fun w2 => ?_) fun w2 => ?_
    ·
     cbv; rw [hk]
     cbv; refine zF (.inl (i1 _ _ e)) (by exact zK) (by exact xJ (yH q1 sz) rfl) (gN (by exact uN hl q1)) ?_
     cbv; refine yL (by decide) (by decide) ?_
     cbv; refine xF (.inr rfl) ?_
     cbv; rw [show (i : Int) / 2 * 8 + 6 = ((i / 2 * 8 + 6 : Nat) : Int) by lia]
     cbv; refine wS (fun w3 => ?_) fun w3 => ?_
     ·
      cbv; rw [hr]
      cbv; refine zF (.inl (i1 _ _ e)) (by exact zK) (by exact xJ (yH q2 sz) rfl) (gN (by exact uN hl q2)) ?_
      cbv; refine yL (by decide) (by decide) ?_
      cbv; refine xF (.inr rfl) ?_
      cbv; rw [show (i : Int) / 2 * 8 + 4 = ((i / 2 * 8 + 4 : Nat) : Int) by lia]
      cbv; refine zB (fun w4 => ?_) fun w4 => ?_
      ·
       cbv; refine wC (by exact zK) (by exact lR hi rfl) rfl ?_
       rw [sh1]
       cbv; have hw : yS S ck i = true:= by unfold yS; rw [w1, w2, eTr (show gd ck (S.kingSq i) = _ by exact wO w3), eTr (show gd ck (S.rookSq i) = _ by exact wO w4)]; rfl
       refine ⟨i1, by walk_at "lc", by walk_at "lc", by walk_at "lc", by walk_at "lc", ?_⟩
       refine get_put_eq.trans ?_
       simp only [bts, hw, if_true]; simp
      ·
       cbv; refine no ?_
       unfold yS; rw [eFa (show ¬ gd ck (S.rookSq i) = _ by exact tJ w4)]; simp
     ·
      cbv; cbv
      refine no ?_
      unfold yS; rw [eFa (show ¬ gd ck (S.kingSq i) = _ by exact tJ w3)]; simp
    ·
     cbv; cbv
     refine no ?_
     unfold yS; rw [w2]; simp
   ·
    cbv; cbv
    refine no ?_
    unfold yS; rw [w1]; simp
  cbv; refine yL (by decide) (by decide) ?_
  rw [ei]
  cbv; refine tA (i1 _ _ e) (by simp [cI]; exact yB (jO hl sz) rfl) ?_
  rw [List.length_map, zN]
  cbv; refine xF (.inl (zM (by exact uK rfl) (by exact xJ (ar61 hi) rfl))) ?_
  rw [ef]
  by_cases ho : i % 2 = 1
  ·
   have em : decide ((i : Int) % 2 = 1) = true:= eTr (by lia)
   have er : decide ((0 : Int) < ((S.fg / 2 : Nat) : Int) - 2) = S.room i:= by
    unfold SI.room; rw [if_pos ho]
    by_cases w : 2 < S.fg / 2
    ·
     rw [eTr w, eTr (by lia)]
    ·
     rw [eFa w, eFa (by lia)]
   cbv; refine zW (by decide) ?_
   cbv; refine jI em ?_
   cbv; refine zW (by decide) ?_
   cbv; refine jI em ?_
   iterate 2 walk_at "st"
   rw [er]
   refine rest _ 0 ?_ ?_ ?_ ?_ ?_ ?_ ?_ ?_ ?_ ?_
   ·
    unfold SI.rookSq; rw [if_pos ho]
   all_goals walk_at "lc"
   exact get_put_eq
  ·
   have em : decide ((i : Int) % 2 = 1) = false:= eFa (by lia)
   have er : decide (((S.fg / 2 : Nat) : Int) + 2 < (S.fg : Int) - 1) = S.room i:= by
    unfold SI.room; rw [if_neg ho]
    by_cases w : S.fg / 2 + 2 < S.fg - 1
    ·
     rw [eTr w, eTr (by lia)]
    ·
     rw [eFa w, eFa (by lia)]
   cbv; refine zW (by decide) ?_
   cbv; refine yV em ?_
   cbv; have f2:= hS.f2
   rw [show (S.fg : Int) - 1 = ((S.fg - 1 : Nat) : Int) by lia]
   cbv; refine zW (by decide) ?_
   cbv; refine yV em ?_
   iterate 3 walk_at "st"
   rw [er]
   refine rest _ (S.fg - 1) ?_ ?_ ?_ ?_ ?_ ?_ ?_ ?_ ?_ ?_
   ·
    unfold SI.rookSq; rw [if_neg ho]
   all_goals walk_at "lc"
 ·
  revert I; refine wG fun i1 i2 i3 i4 i5 i6 => ?_
  cbv; exact q _ i1
end
noncomputable def zH (w f : Nat) : Nat:= if w = 1 then 12 + f else 4 + f
noncomputable def yK (w f : Nat) : Nat:= if w = 1 then 4 + f else 12 + f
theorem aq2 : ∀ w < 2, ∀ f < 4, zH w f < 20 /\ 4 <= zH w f /\ (f + 1 < 4 -> zH w f + 1 < 20):= by decide +kernel
theorem aq3 : ∀ w < 2, ∀ f < 4, yK w f < 20:= by decide +kernel
theorem aq4 : ∀ f < 4, (4 - (8 + f) / 4) * 4 + (8 + f) % 4 = 8 + f:= by decide +kernel
theorem aq5 : ∀ w < 2, ∀ f < 4, (4 - (yK (1 - w) f) / 4) * 4 + (yK (1 - w) f) % 4 = yK w f /\ yK (1 - w) f < 20:= by decide +kernel
theorem aq6 : ∀ w < 2, ∀ f < 4, (4 - (zH (1 - w) f) / 4) * 4 + (zH (1 - w) f) % 4 = zH w f /\ zH (1 - w) f < 20:= by decide +kernel
theorem aq7 : ∀ w < 2, ∀ f < 4, 1 <= f -> (4 - (zH (1 - w) f - 1) / 4) * 4 + (zH (1 - w) f - 1) % 4 = zH w f - 1:= by decide +kernel
theorem aq8 : ∀ w < 2, ∀ f < 4, f + 1 < 4 -> (4 - (zH (1 - w) f + 1) / 4) * 4 + (zH (1 - w) f + 1) % 4 = zH w f + 1 /\ zH (1 - w) f + 1 < 20:= by decide +kernel
theorem aq9 : ∀ w < 2, ∀ f < 4, ((8 + f : Nat) : Int) + (if w = 1 then -4 else 4) = ((yK w f : Nat) : Int):= by decide +kernel
theorem aq10 : ∀ w < 2, ∀ f < 4, ((8 + f : Nat) : Int) - (if w = 1 then -4 else 4) = ((zH w f : Nat) : Int):= by decide +kernel
theorem aq11 : ∀ w < 2, 1 - (1 - w) = w:= by decide
theorem aq12 : ∀ f < 4, ((8 + f : Nat) : Int) / ((4 : Nat) : Int) = 2:= by decide
theorem aq13 : ∀ w < 2, ((9 - 8 * w : Nat) : Int) = (1 - (w : Int)) * 8 + 1:= by decide
noncomputable def eS (ck : List Nat) (w f : Nat) : List Nat:= if 1 <= f then [gd ck (zH w f - 1)] else []
noncomputable def cK (ck : List Nat) (w f : Nat) : List Nat:= if f + 1 < 4 then [gd ck (zH w f + 1)] else []
noncomputable def bes (ck : List Nat) (w f : Nat) : List Nat:= eS ck w f ++ cK ck w f
noncomputable def wV (ck : List Nat) (w f : Nat) : Bool:= decide (gd ck (8 + f) = 0) && decide (gd ck (yK w f) = 0) && decide (gd ck (zH w f) = 9 - 8 * w) && decide (1 + 8 * w ∈ bes ck w f)
noncomputable def vK (ck : List Nat) (w i : Nat) : List Nat:= ((List.range i).filter (wV ck w)).map (8 + ·)
noncomputable def jB (S : SI) (ck : List Nat) (w : Nat) : List Nat:= if S.dv = true then vK ck w 4 else []
theorem oH (ck : List Nat) (w i : Nat) : vK ck w (i + 1) = vK ck w i ++ (if wV ck w i then [8 + i] else []):= by
 unfold vK
 rw [List.range_succ, List.filter_append, List.map_append]
 congr 1
 cases e : wV ck w i <;> simp [e]
theorem sg (ck : List Nat) (w f : Nat) : (bes ck w f).length <= 2:= by
 have a : (eS ck w f).length <= 1:= by unfold eS; split <;> simp
 have b : (cK ck w f).length <= 1:= by unfold cK; split <;> simp
 unfold bes; rw [List.length_append]; exact yB (ar56 a b) rfl
section
variable {n : Nat} {h : Hp} {X : Hp -> Prop} {A : PA} {g z : Nat} {v : PV} {call : Call}
theorem pX {h0 : Hp} {S : SI} (hS : Stat h0 S) {b w : Nat} {ck : List Nat} (e : h[b]? = some (.lst (il (cI ck)))) (hl : ck.length = S.fg * S.rg) (hw : w < 2) {Q : V -> Hp -> Prop}
  (q : ∀ h' r, Ext h h' -> h'[r]? = some (.lst (il (cI (jB S ck w)))) -> Q (.ref r) h') : wp (run tab (n + 1) 142 [.ref b, .int S.fg, .int S.rg, .bool S.dv, .int w]) h Q X:= by
 have sz:= hS.sz
 have f8:= hS.f8
 refine zV (fn:= fn_law_passed) rfl rfl ?_
 cbv; refine zG rfl ?_
 have k0:= Ext.app h [.lst []]
 have n0:= zC (h:= h) (o:= .lst [])
 generalize hh : h ++ [.lst []] = h1 at k0 n0 ⊢
 generalize hR : h.length = r at n0 ⊢
 have rest : ∀ wy : Int, (S.dv = true -> wy = (if w = 1 then -4 else 4)) -> ∀ l0 : Loc, get 120 l0 = some (.ref b) -> get 22 l0 = some (.int S.fg) -> get 23 l0 = some (.int S.rg) -> get 128 l0 = some (.bool S.dv) -> get 122 l0 = some (.int w) -> get 102 l0 = some (.ref r) -> get 111 l0 = some (.int wy) ->
   wp (exec tab (run tab n) (.seq (.for 87 (.blt .range (.cons (.ite (.loc 128) (.loc 22) (.int 0)) .nil))
 (.seq (.assign 132 (.bin .add (.bin .mul (.ite (.cmp (.loc 122) (.cc .eq (.int 1) .nil)) (.int 2) (.bin .sub (.loc 23) (.int 3))) (.loc 22)) (.loc 87)))
 (.seq (.assign 143 (.compIf (.sub (.loc 120) (.bin .add (.bin .sub (.loc 132) (.loc 111)) (.loc 84))) 84 (.tup (.cons (.neg (.int 1)) (.cons (.int 1) .nil))) (.cmp (.int 0) (.cc .le (.bin .add (.loc 87) (.loc 84)) (.cc .lt (.loc 22) .nil)))))
 (.seq (.ite (.and (.cons (.cmp (.lst (.cons (.sub (.loc 120) (.loc 132)) (.cons (.sub (.loc 120) (.bin .add (.loc 132) (.loc 111))) (.cons (.sub (.loc 120) (.bin .sub (.loc 132) (.loc 111))) .nil)))) (.cc .eq (.lst (.cons (.int 0) (.cons (.int 0) (.cons (.bin .sub (.int 9) (.bin .mul (.int 8) (.loc 122))) .nil)))) .nil)) (.cons (.cmp (.bin .add (.int 1) (.bin .mul (.int 8) (.loc 122))) (.cc .isIn (.loc 143) .nil)) .nil)))
  (.seq (.expr (.meth .append (.loc 102) (.cons (.loc 132) .nil)))
  .nil)
  .nil)
 .nil))))
 (.seq (.ret (.loc 102))
 .nil)) l0) h1 (oU Q) X:= by
  intro wy hwy l0 g1 g2 g3 g4 g5 g6 g7
  cbv; refine dg (fun hd => ?_) fun hd => ?_
  ·
   refine oA (fun d1 d2 => ?_) (hS.dbl hd)
   have hwy:= hwy hd
   rw [d1, d2] at hl
   have hl : ck.length = 20:= hl
   rw [d1] at g2
   rw [d2] at g3
   cbv; refine xS rfl ?_
   cbv; refine jR zC (by decide) ?_
   cbv; refine xK (h:= _) (l:= _) _ (fun i l h' => Ext h h' /\ h'[r]? = some (.lst (il (cI (vK ck w i)))) /\ get 120 l = some (.ref b) /\ get 22 l = some (.int (4 : Nat)) /\ get 23 l = some (.int (5 : Nat)) /\ get 122 l = some (.int w) /\ get 102 l = some (.ref r) /\ get 111 l = some (.int wy)) (by simp) (fun _ _ _ _ => rfl) (fun f l h' v hv1 I => ?_) (fun l h' I => ?_) ⟨k0.app' _, zI n0, g1, g2, g3, g5, g6, g7⟩
   ·
    refine oA (fun hi t01 => ?_) (xW hv1); obtain rfl:= t01
    have hi : f < 4:= hi
    revert I; refine wF fun i1 i0 i2 i3 i4 i5 i6 i7 => ?_
    have wa : ((8 + f : Nat) : Int) + wy = ((yK w f : Nat) : Int):= by rw [hwy]; exact aq9 w hw f hi
    have wb : ((8 + f : Nat) : Int) - wy = ((zH w f : Nat) : Int):= by rw [hwy]; exact aq10 w hw f hi
    have b1 : zH w f < 20 /\ 4 <= zH w f /\ (f + 1 < 4 -> zH w f + 1 < 20):= aq2 w hw f hi
    have a1 : yK w f < 20:= aq3 w hw f hi
    have fin : ∀ l' : Loc, get 120 l' = some (.ref b) -> get 22 l' = some (.int (4 : Nat)) -> get 23 l' = some (.int (5 : Nat)) -> get 122 l' = some (.int w) -> get 102 l' = some (.ref r) -> get 111 l' = some (.int wy) -> get 132 l' = some (.int (8 + f : Nat)) -> get 87 l' = some (.int (f : Nat)) ->
      wp (exec tab (run tab n) (.seq (.assign 143 (.compIf (.sub (.loc 120) (.bin .add (.bin .sub (.loc 132) (.loc 111)) (.loc 84))) 84 (.tup (.cons (.neg (.int 1)) (.cons (.int 1) .nil))) (.cmp (.int 0) (.cc .le (.bin .add (.loc 87) (.loc 84)) (.cc .lt (.loc 22) .nil)))))
 (.seq (.ite (.and (.cons (.cmp (.lst (.cons (.sub (.loc 120) (.loc 132)) (.cons (.sub (.loc 120) (.bin .add (.loc 132) (.loc 111))) (.cons (.sub (.loc 120) (.bin .sub (.loc 132) (.loc 111))) .nil)))) (.cc .eq (.lst (.cons (.int 0) (.cons (.int 0) (.cons (.bin .sub (.int 9) (.bin .mul (.int 8) (.loc 122))) .nil)))) .nil)) (.cons (.cmp (.bin .add (.int 1) (.bin .mul (.int 8) (.loc 122))) (.cc .isIn (.loc 143) .nil)) .nil)))
  (.seq (.expr (.meth .append (.loc 102) (.cons (.loc 132) .nil)))
  .nil)
  .nil)
 .nil)) l') h' (fun rr h' => match rr.1 with | .ret w => kSeq tab (run tab n) (.seq (.ret (.loc 102)) .nil) X (oU Q) (.ret w, rr.2) h' | _ => Ext h h' /\ h'[r]? = some (.lst (il (cI (vK ck w (f + 1))))) /\ get 120 rr.2 = some (.ref b) /\ get 22 rr.2 = some (.int (4 : Nat)) /\ get 23 rr.2 = some (.int (5 : Nat)) /\ get 122 rr.2 = some (.int w) /\ get 102 rr.2 = some (.ref r) /\ get 111 rr.2 = some (.int wy)) X:= by
     intro l' j1 j2 j3 j4 j5 j6 j7 j8
     cbv; refine tG ?_
     cbv; refine zG rfl ?_
     cbv; refine pH zC ?_
     cbv; refine tL (h:= _) _ (fun i acc h2 => Ext h' h2 /\ acc = il (cI (if i = 0 then [] else if i = 1 then eS ck w f else bes ck w f))) (by simp) (fun _ _ _ _ => rfl) (fun i acc h2 v hv2 I => ?_) (fun acc h2 I => ?_) ⟨Ext.app h' _, rfl⟩
     ·
      revert I; refine oA fun m1 t01 => ?_; obtain rfl:= t01
      match i, hv2 with
      | 0, hv2 =>
       obtain rfl:= si hv2
       cbv; refine zB (fun c1 => ?_) fun c1 => ?_
       ·
        cbv; refine zB (fun c2 => ?_) fun c2 => ?_
        ·
         cbv; rw [wb, show ((zH w f : Nat) : Int) + -1 = ((zH w f - 1 : Nat) : Int) from ar95 (cO b1.2.1 rfl)]
         cbv; refine zF (.inl ((i1.trans m1) _ _ e)) (by exact zK) (by exact xJ (tg b1.1) rfl) (gN (by exact uN hl (tg b1.1))) ?_
         cbv; refine ⟨m1, ?_⟩
         simp [eS, il, cI, show 1 <= f by lia]
        ·
         lia
       ·
        cbv; refine ⟨m1, ?_⟩
        simp [eS, il, cI, show ¬ 1 <= f by lia]
      | 1, hv2 =>
       obtain rfl:= si hv2
       cbv; refine zB (fun c1 => ?_) fun c1 => ?_
       ·
        cbv; refine zB (fun c2 => ?_) fun c2 => ?_
        ·
         cbv; rw [wb, show ((zH w f : Nat) : Int) + 1 = ((zH w f + 1 : Nat) : Int) by lia]
         cbv; refine zF (.inl ((i1.trans m1) _ _ e)) (by exact zK) (by exact xJ (ar52 b1.1) rfl) (gN (by lia)) ?_
         cbv; refine ⟨m1, ?_⟩
         simp [bes, cK, il, cI, show f + 1 < 4 by lia]
        ·
         cbv; refine ⟨m1, ?_⟩
         simp [bes, cK, il, cI, show ¬ f + 1 < 4 by lia]
       ·
        lia
      | i + 2, hv2 => simp at hv2
     revert I; refine oA fun m1 t01 => ?_; obtain rfl:= t01
     simp only [List.length_cons, List.length_nil]
     cbv; refine xL (by have:= sg ck w f; show (il (cI (bes ck w f))).length <= _; simp [cI]; lia) ?_
     have m2:= m1.app' [.lst (il (cI (bes ck w f)))]
     have n2:= zC (h:= h2) (o:= .lst (il (cI (bes ck w f))))
     try refine yI ?_
     show wp (exec tab (run tab n) _ (put 143 (.ref h2.length) l')) (h2 ++ [.lst (il (cI (bes ck w f)))]) _ _
     generalize h2 ++ [.lst (il (cI (bes ck w f)))] = h3 at m2 n2 ⊢
     generalize h2.length = bs at n2 ⊢
     have x3:= i1.trans m2
     have no : wV ck w f = false -> ∀ (l2 : Loc) (h4 : Hp), Ext h3 h4 -> get 120 l2 = some (.ref b) -> get 22 l2 = some (.int (4 : Nat)) -> get 23 l2 = some (.int (5 : Nat)) -> get 122 l2 = some (.int w) -> get 102 l2 = some (.ref r) -> get 111 l2 = some (.int wy) ->
       Ext h h4 /\ h4[r]? = some (.lst (il (cI (vK ck w (f + 1))))) /\ get 120 l2 = some (.ref b) /\ get 22 l2 = some (.int (4 : Nat)) /\ get 23 l2 = some (.int (5 : Nat)) /\ get 122 l2 = some (.int w) /\ get 102 l2 = some (.ref r) /\ get 111 l2 = some (.int wy):= fun hp l2 h4 k4 p1 p2 p3 p4 p5 p6 => by
      refine ⟨x3.trans k4, ?_, p1, p2, p3, p4, p5, p6⟩
      rw [oH, hp]; simpa using k4 _ _ (m2 _ _ i0)
     cbv; refine zF (.inl (x3 _ _ e)) (by lia) (by lia) (gN (by lia)) ?_
     cbv; rw [wa]
     cbv; refine zF (.inl (x3 _ _ e)) (by lia) (by lia) (gN (by lia)) ?_
     cbv; rw [wb]
     cbv; refine zF (.inl (x3 _ _ e)) (by exact zK) (by exact xJ b1.1 rfl) (gN (by exact uN hl b1.1)) ?_
     cbv; refine zG rfl ?_
     cbv; refine xF (.inl rfl) ?_
     cbv; refine zG rfl ?_
     have y1:= (Ext.app h3 [O.lst [.int (gd ck (8 + f) : Nat), .int (gd ck (yK w f) : Nat), .int (gd ck (zH w f) : Nat)]]).app' [O.lst [.int 0, .int 0, .int (9 - 8 * (w : Nat))]]
     have z1:= zI (l:= [O.lst [.int 0, .int 0, .int (9 - 8 * (w : Nat))]]) (zC (h:= h3) (o:= O.lst [.int (gd ck (8 + f) : Nat), .int (gd ck (yK w f) : Nat), .int (gd ck (zH w f) : Nat)]))
     have z2:= zC (h:= h3 ++ [O.lst [.int (gd ck (8 + f) : Nat), .int (gd ck (yK w f) : Nat), .int (gd ck (zH w f) : Nat)]]) (o:= O.lst [.int 0, .int 0, .int (9 - 8 * (w : Nat))])
     generalize (h3 ++ [O.lst [.int (gd ck (8 + f) : Nat), .int (gd ck (yK w f) : Nat), .int (gd ck (zH w f) : Nat)]]) ++ [O.lst [.int 0, .int 0, .int (9 - 8 * (w : Nat))]] = h5 at y1 z1 z2 ⊢
     cbv; refine dk (x:= .list (iD [(gd ck (8 + f) : Int), (gd ck (yK w f) : Int), (gd ck (zH w f) : Int)])) (y:= .list (iD [0, 0, 9 - 8 * (w : Int)])) (yA 3 z1) (yA 3 z2) ?_
     rw [tF]
     cbv; refine wS (fun c1 => ?_) fun c1 => ?_
     ·
      simp only [List.cons.injEq, and_true] at c1
      revert c1; refine oAA fun c1 c2 c3 => ?_
      cbv; refine xF (.inl rfl) ?_
      cbv; rw [show (1 : Int) + 8 * (w : Nat) = ((1 + 8 * w : Nat) : Int) by lia]
      cbv; refine w_in (.inl (y1 _ _ n2)) ?_
      cbv; refine zB (fun c4 => ?_) fun c4 => ?_
      ·
       have c4:= mem_cI.mp c4
       have hp : wV ck w f = true:= by
        unfold wV
        rw [eTr (show gd ck (8 + f) = 0 by exact wO c1), eTr (show gd ck (yK w f) = 0 by exact wO c2), eTr (show gd ck (zH w f) = 9 - 8 * w by lia), eTr c4]; rfl
       cbv; have i0':= y1 _ _ (m2 _ _ i0)
       cbv; refine wD i0' ?_
       cbv; refine qH i0' (by
        have : (vK ck w f).length <= f:= by unfold vK; rw [List.length_map]; exact Nat.le_trans (List.length_filter_le _ _) (by simp)
        simp [cI]; exact jZ this (cr hi rfl)) ?_
       cbv; refine ⟨?_, ?_, by walk_at "lc", by walk_at "lc", by walk_at "lc", by walk_at "lc", by walk_at "lc", by walk_at "lc"⟩
       ·
        exact (x3.trans y1).set (by lia) _
       ·
        rw [zS i0', oH, hp]; simp [il, cI]
      ·
       cbv; refine no ?_ _ _ y1 ?_ ?_ ?_ ?_ ?_ ?_
       ·
        unfold wV; rw [eFa (fun q => c4 (mem_cI.mpr q))]; simp
       all_goals walk_at "lc"
     ·
      cbv; cbv
      refine no ?_ _ _ y1 ?_ ?_ ?_ ?_ ?_ ?_
      ·
       unfold wV
       by_cases d1 : gd ck (8 + f) = 0
       ·
        by_cases d2 : gd ck (yK w f) = 0
        ·
         have d3 : ¬ gd ck (zH w f) = 9 - 8 * w:= fun d3 => c1 (by rw [d1, d2, d3]; simp; lia)
         rw [eFa d3]; simp
        ·
         rw [eFa d2]; simp
       ·
        rw [eFa d1]; simp
      all_goals walk_at "lc"
    cbv; refine zB (fun c1 => ?_) fun c1 => ?_
    ·
     cbv; refine xF (.inl rfl) ?_
     iterate 2 walk_at "st"
     rw [show (2 : Int) * ((4 : Nat) : Int) + (f : Nat) = ((8 + f : Nat) : Int) by lia]
     refine fin _ ?_ ?_ ?_ ?_ ?_ ?_ ?_ ?_
     all_goals walk_at "lc"
    ·
     cbv; refine xF (.inr rfl) ?_
     iterate 2 walk_at "st"
     rw [show (((5 : Nat) : Int) - 3) * ((4 : Nat) : Int) + (f : Nat) = ((8 + f : Nat) : Int) by lia]
     refine fin _ ?_ ?_ ?_ ?_ ?_ ?_ ?_ ?_
     all_goals walk_at "lc"
   ·
    revert I; refine wF fun i1 i0 i2 i3 i4 i5 i6 i7 => ?_
    cbv; refine q _ _ i1 ?_
    unfold jB; rw [if_pos hd]; simpa using i0
  ·
   cbv; refine xS rfl ?_
   cbv; refine jR (k:= 0) zC (by decide) ?_
   cbv; refine xK (h:= _) (l:= l0) _ (fun i l h' => Ext h h' /\ h'[r]? = some (.lst []) /\ get 102 l = some (.ref r)) (by simp) (fun _ _ _ _ => rfl) (fun f l h' v hv1 I => by simp at hv1) (fun l h' I => ?_) ⟨k0.app' _, zI n0, g6⟩
   revert I; refine oAA fun i1 i2 i3 => ?_
   cbv; exact q _ _ i1 (by unfold jB; rw [if_neg (by simp [hd])]; exact i2)
 cbv; refine zB (fun c1 => ?_) fun c1 => ?_
 ·
  iterate 1 walk_at "st"
  refine rest _ (fun hd => ?_) _ rfl rfl rfl rfl rfl rfl rfl
  refine oA (fun d1 d2 => ?_) (hS.dbl hd)
  rw [d1, if_pos (by lia)]; rfl
 ·
  iterate 1 walk_at "st"
  refine rest _ (fun hd => ?_) _ rfl rfl rfl rfl rfl rfl rfl
  refine oA (fun d1 d2 => ?_) (hS.dbl hd)
  rw [d1, if_neg (by lia)]; rfl
end
structure Rough (S : SI) (v : PV) : Prop where
 kinds : ∃ ks : List Nat, v.kinds = cI ks /\ (∀ x ∈ ks, x < 2 ^ 22) /\ 7 <= ks.length /\ ks.length <= 8
 sides : ∃ ks : List Nat, v.sides = cI ks /\ (∀ x ∈ ks, x < 2 ^ 22) /\ 2 <= ks.length /\ ks.length <= 3
 b1 : S.fg * S.rg <= v.board.length
 b2 : v.board.length <= S.fg * S.rg + 1
 bval : ∀ x ∈ v.board, -1 <= x /\ x <= 15
 hist : v.hist.length <= 1
 key : ∃ k : Nat, v.key = k
 r1 : -1 <= v.rights
 r2 : v.rights <= 16
 e1 : -2 <= v.ep
 e2 : v.ep <= (S.fg * S.rg : Nat)
structure Strict (S : SI) (v : PV) : Prop where
 k : v.kinds.length = 7
 s : v.sides.length = 2
 b : v.board.length = S.fg * S.rg
theorem Rough.bnd {S : SI} {v : PV} (R : Rough S v) (sz : S.fg * S.rg <= 21) : Bnd v:= by
 refine vO (fun ks e1 _ _ e2 => ?_) R.kinds
 refine vO (fun ss f1 _ _ f2 => ?_) R.sides
 have:= R.b2
 have:= R.hist
 exact ⟨by lia, by rw [e1, zN]; exact yB e2 rfl, by rw [f1, zN]; exact yB f2 rfl, by exact yB this rfl⟩
theorem aD {ks : List Nat} {N k : Nat} (h : ∀ x ∈ ks, x < N) (hk : k < ks.length) : gd ks k < N:= h _ (List.mem_of_getElem? (xN hk))
theorem ug {s N : Nat} (h : s <= N) (hN : N <= 21) : 2 ^ s < 2 ^ 22:= Nat.pow_lt_pow_right (by decide) (by exact tu h (jH hN rfl))
theorem gh {ks : List Nat} {k x N : Nat} (h : ∀ y ∈ ks, y < N) (hx : x < N) : ∀ y ∈ ks.set k x, y < N:= fun y hy => by
 rcases List.mem_or_eq_of_mem_set hy with q | rfl
 ·
  exact h y q
 ·
  exact hx
theorem oP (a : Int) {N : Nat} (h : 0 < N) : ∃ k : Nat, a % (N : Int) = (k : Int) /\ k < N:= by
 refine ⟨(a % (N : Int)).toNat, (Int.toNat_of_nonneg (Int.emod_nonneg _ (by exact cj (qX h)))).symm, ?_⟩
 have:= Int.emod_lt_of_pos a (show (0 : Int) < N by exact vL h)
 have:= Int.emod_nonneg a (show (N : Int) ≠ 0 by exact cj (qX h))
 lia
section
variable {n : Nat} {h : Hp} {X : Hp -> Prop} {A : PA} {g z : Nat} {v : PV} {call : Call}
theorem dW {S : SI} (sz : S.fg * S.rg <= 21) (s0 : 0 < S.fg * S.rg) (x : PosAt h A g z v) (R : Rough S v) (T : Strict S v) {num : Int} {Q : V -> Hp -> Prop}
  (q : ∀ h' v', Keep A h h' -> PosAt h' A g z v' -> Rough S v' -> Q .none h') : wp (run tab (n + 1) 147 [.ref A.p, .int (S.fg * S.rg : Nat), .int num]) h Q X:= by
 refine oEA (fun r5 er5 hr5 => ?_) (oP num (N:= 5) (by decide))
 have er5 : num % 5 = (r5 : Int):= er5
 let J : Nat -> Loc -> Hp -> Prop:= fun i l h' => (get 47 l = some (.ref A.p) /\ get 19 l = some (.int (S.fg * S.rg : Nat)) /\ get 148 l = some (.int num)) /\ Keep A h h' /\ ∃ v', PosAt h' A g z v' /\ Rough S v' /\ (i < r5 -> Strict S v')
 refine zV (fn:= fn_law_bend) rfl rfl ?_
 try refine yI ?_
 refine yD (J 1) ?_ fun l1 h1 => qM <| oAA fun g1 g2 g3 k1 v1 x1 R1 T1 => ?_
 ·
  cbv; refine zW (by decide) ?_
  rw [er5]
  cbv; refine zB (fun c => ?_) fun c => ?_
  ·
   refine oEA (fun k ek hk => ?_) (oP (num / 5) (N:= 7) (by decide))
   have ek : num / 5 % 7 = (k : Int):= ek
   refine oEA (fun s es hs => ?_) (oP (num / 35) (N:= S.fg * S.rg + 1) (by exact yH s0 vM))
   refine vO (fun ks e1 e2 e3 e4 => ?_) R.kinds
   have e5 : ks.length = 7:= by have:= T.k; rw [e1, zN] at this; exact this
   cbv; refine zA x.pos rfl ?_
   cbv; refine yL (by decide) (by decide) ?_
   cbv; refine zW (by decide) ?_
   rw [ek]
   cbv; refine xP (y:= (gd ks k : Nat)) x (by exact zK) (by rw [e1, toN]; exact yG (by exact yH hk e3)) (by exact xJ hk rfl) ?_
   cbv; refine yL (by decide) (by decide) ?_
   cbv; rw [show ((S.fg * S.rg : Nat) : Int) + 1 = ((S.fg * S.rg + 1 : Nat) : Int) by lia]
   cbv; refine zW (by lia) ?_
   rw [es]
   cbv; refine wC (by exact zK) (by exact at20 hs sz rfl) rfl ?_
   rw [sh1]
   cbv; rw [tY]
   cbv; refine vE x (by exact zK) (by rw [e1, zN]; exact vL (yH hk e3)) (by exact xJ hk rfl) fun h' k' x' => ?_
   cbv; refine ⟨⟨rfl, rfl, rfl⟩, k', _, x', ⟨⟨ks.set k (gd ks k ^^^ 2 ^ s), by dsimp only; rw [e1, toN]; exact pE _ _ _, gh e2 (Nat.xor_lt_two_pow (aD e2 (by exact yH hk e3)) (ug (by exact me hs) sz)), by rw [List.length_set]; exact e3, by rw [List.length_set]; exact e4⟩, R.sides, R.b1, R.b2, R.bval, R.hist, R.key, R.r1, R.r2, R.e1, R.e2⟩, fun z => by exact th z (wO c)⟩
  ·
   cbv; exact ⟨⟨rfl, rfl, rfl⟩, Keep.refl _ _, v, x, R, fun _ => T⟩
 try refine yI ?_
 refine yD (J 2) ?_ fun l2 h2 => qM <| oAA fun g1 g2 g3 k2 v2 x2 R2 T2 => ?_
 ·
  cbv; refine zW (by decide) ?_
  rw [er5]
  cbv; refine zB (fun c => ?_) fun c => ?_
  ·
   have T1:= T1 (by exact tm (wO c) rfl)
   refine oEA (fun k ek hk => ?_) (oP (num / 5) (N:= 2) (by decide))
   have ek : num / 5 % 2 = (k : Int):= ek
   refine oEA (fun s es hs => ?_) (oP (num / 10) (N:= S.fg * S.rg + 1) (by exact yH s0 vM))
   refine vO (fun ks e1 e2 e3 e4 => ?_) R1.sides
   have e5 : ks.length = 2:= by have:= T1.s; rw [e1, zN] at this; exact this
   cbv; refine zA x1.pos rfl ?_
   cbv; refine yL (by decide) (by decide) ?_
   cbv; refine zW (by decide) ?_
   rw [ek]
   cbv; refine xA (y:= (gd ks k : Nat)) x1 (by exact zK) (by rw [e1, toN]; exact yG (by exact yH hk e3)) (by exact xJ hk rfl) ?_
   cbv; refine yL (by decide) (by decide) ?_
   cbv; rw [show ((S.fg * S.rg : Nat) : Int) + 1 = ((S.fg * S.rg + 1 : Nat) : Int) by lia]
   cbv; refine zW (by lia) ?_
   rw [es]
   cbv; refine wC (by exact zK) (by exact at20 hs sz rfl) rfl ?_
   rw [sh1]
   cbv; rw [tY]
   cbv; refine vD x1 (by exact zK) (by rw [e1, zN]; exact vL (yH hk e3)) (by exact xJ hk rfl) fun h' k' x' => ?_
   cbv; refine ⟨⟨g1, g2, g3⟩, k1.trans k', _, x', ⟨R1.kinds, ⟨ks.set k (gd ks k ^^^ 2 ^ s), by dsimp only; rw [e1, toN]; exact pE _ _ _, gh e2 (Nat.xor_lt_two_pow (aD e2 (by exact yH hk e3)) (ug (by exact me hs) sz)), by rw [List.length_set]; exact e3, by rw [List.length_set]; exact e4⟩, R1.b1, R1.b2, R1.bval, R1.hist, R1.key, R1.r1, R1.r2, R1.e1, R1.e2⟩, fun z => by exact th z (wO c)⟩
  ·
   cbv; exact ⟨⟨g1, g2, g3⟩, k1, v1, x1, R1, fun z => T1 (by exact ar12 z rfl)⟩
 try refine yI ?_
 refine yD (J 3) ?_ fun l3 h3 => qM <| oAA fun g1 g2 g3 k3 v3 x3 R3 T3 => ?_
 ·
  cbv; refine zW (by decide) ?_
  rw [er5]
  cbv; refine zB (fun c => ?_) fun c => ?_
  ·
   have T2:= T2 (by exact tm (wO c) rfl)
   refine oEA (fun k ek hk => ?_) (oP (num / 5) (N:= S.fg * S.rg) s0)
   cbv; refine yL (by decide) (by decide) ?_
   cbv; refine yL (by exact vL s0) (by exact yP sz rfl) ?_
   cbv; refine zW (by decide) ?_
   cbv; refine zA x2.pos rfl ?_
   cbv; refine yL (by decide) (by decide) ?_
   cbv; refine zW (by exact vL s0) ?_
   rw [ek]
   cbv; refine wB x2 (by exact zK) (by rw [T2.b]; exact vL hk) (by exact xJ (yH hk sz) rfl) fun h' k' x' => ?_
   cbv; refine ⟨⟨g1, g2, g3⟩, k2.trans k', _, x', ⟨R2.kinds, R2.sides, by dsimp only; rw [List.length_set]; exact R2.b1, by dsimp only; rw [List.length_set]; exact R2.b2, fun y hy => ?_, R2.hist, R2.key, R2.r1, R2.r2, R2.e1, R2.e2⟩, fun z => by exact th z (wO c)⟩
   rcases List.mem_or_eq_of_mem_set hy with q | rfl
   ·
    exact R2.bval y q
   ·
    lia
  ·
   cbv; exact ⟨⟨g1, g2, g3⟩, k2, v2, x2, R2, fun z => T2 (by exact ar12 z rfl)⟩
 try refine yI ?_
 refine yD (fun _ h' => Keep A h h' /\ ∃ v', PosAt h' A g z v' /\ Rough S v') ?_ fun l4 h4 => oAEA fun k4 v4 x4 R4 => ?_
 ·
  cbv; refine zW (by decide) ?_
  rw [er5]
  cbv; refine zB (fun c => ?_) fun c => ?_
  ·
   have T3:= T3 (by exact tm (wO c) rfl)
   refine oEA (fun k ek hk => ?_) (oP (num / 5) (N:= 3) (by decide))
   have ek : num / 5 % 3 = (k : Int):= ek
   cbv; refine zA x3.pos rfl ?_
   cbv; refine zA x3.pos rfl ?_
   cbv; refine zA x3.pos rfl ?_
   cbv; refine zG rfl ?_
   have y3:= x3.ext (Ext.app h3 [O.lst [.ref A.b, .ref A.k, .ref A.s]])
   have kk:= k3.trans (Keep.of_ext (A:= A) (Ext.app h3 [O.lst [.ref A.b, .ref A.k, .ref A.s]]))
   have nn:= zC (h:= h3) (o:= O.lst [.ref A.b, .ref A.k, .ref A.s])
   generalize h3 ++ [O.lst [.ref A.b, .ref A.k, .ref A.s]] = h5 at y3 kk nn ⊢
   cbv; refine yL (by decide) (by decide) ?_
   cbv; refine zW (by decide) ?_
   rw [ek]
   have ap : ∀ l : List Int, il l ++ [V.int 0] = il (l ++ [0]):= fun l => by simp [il]
   have : k = 0 \/ k = 1 \/ k = 2:= by lia
   rcases this with rfl | rfl | rfl
   ·
    cbv; refine zF (v:= .ref A.b) (.inl nn) (by decide) (by decide) rfl ?_
    cbv; refine wD y3.board ?_
    cbv; refine qH y3.board (by have:= R3.b2; rw [List.length_map]; exact jZ this (yB (cM sz) rfl)) ?_
    rw [ap]
    cbv; refine ⟨kk.set (.inr (.inl rfl)) _, _, y3.set_board _, ⟨R3.kinds, R3.sides, by have:= R3.b1; simp; exact tf this, by have:= T3.b; simp; lia, fun y hy => ?_, R3.hist, R3.key, R3.r1, R3.r2, R3.e1, R3.e2⟩⟩
    refine oO (fun q => ?_) (fun q => ?_) (List.mem_append.mp hy)
    ·
     exact R3.bval y q
    ·
     rw [List.mem_singleton.mp q]; decide
   ·
    refine vO (fun ks e1 e2 e3 e4 => ?_) R3.kinds
    have e5 : ks.length = 7:= by have:= T3.k; rw [e1, zN] at this; exact this
    cbv; refine zF (v:= .ref A.k) (.inl nn) (by decide) (by decide) rfl ?_
    cbv; refine wD y3.kinds ?_
    cbv; refine qH y3.kinds (by rw [List.length_map, e1, zN]; exact yB e4 rfl) ?_
    rw [ap]
    cbv; refine ⟨kk.set (.inr (.inr (.inl rfl))) _, _, y3.set_kinds _, ⟨⟨ks ++ [0], by dsimp only; rw [e1]; simp [cI], fun y hy => ?_, by simp; exact cO e3 rfl, by simp; exact ml e5 rfl⟩, R3.sides, R3.b1, R3.b2, R3.bval, R3.hist, R3.key, R3.r1, R3.r2, R3.e1, R3.e2⟩⟩
    refine oO (fun q => ?_) (fun q => ?_) (List.mem_append.mp hy)
    ·
     exact e2 y q
    ·
     rw [List.mem_singleton.mp q]; decide
   ·
    refine vO (fun ks e1 e2 e3 e4 => ?_) R3.sides
    have e5 : ks.length = 2:= by have:= T3.s; rw [e1, zN] at this; exact this
    cbv; refine zF (v:= .ref A.s) (.inl nn) (by decide) (by decide) rfl ?_
    cbv; refine wD y3.sides ?_
    cbv; refine qH y3.sides (by rw [List.length_map, e1, zN]; exact yB e4 rfl) ?_
    rw [ap]
    cbv; refine ⟨kk.set (.inr (.inr (.inr (.inl rfl)))) _, _, y3.set_sides _, ⟨R3.kinds, ⟨ks ++ [0], by dsimp only; rw [e1]; simp [cI], fun y hy => ?_, by simp; exact cO e3 rfl, by simp; exact ml e5 rfl⟩, R3.b1, R3.b2, R3.bval, R3.hist, R3.key, R3.r1, R3.r2, R3.e1, R3.e2⟩⟩
    refine oO (fun q => ?_) (fun q => ?_) (List.mem_append.mp hy)
    ·
     exact e2 y q
    ·
     rw [List.mem_singleton.mp q]; decide
  ·
   cbv; exact ⟨k3, v3, x3, R3⟩
 cbv; exact q _ _ k4 x4 R4
end
structure Pre0 (S : SI) (ck : List Nat) (N : Nat) (v : PV) : Prop where
 b : v.board = cI ck
 k : v.kinds = kL ck
 s : v.sides = sL ck
 y : ∃ k : Nat, v.key = (k : Int)
 h : v.hist.length <= N
 r1 : -1 <= v.rights
 r2 : v.rights <= 16
 e1 : -2 <= v.ep
 e2 : v.ep <= (S.fg * S.rg : Nat)
theorem kL_cI (ck : List Nat) : kL ck = cI ((List.range 7).map (kB ck)):= by unfold kL cI; rw [List.map_map]; rfl
theorem sL_cI (ck : List Nat) : sL ck = cI [sB ck 0, sB ck 1]:= rfl
theorem jz (ck : List Nat) (k : Nat) : kB ck k < 2 ^ ck.length:= sY _ _
theorem gr (ck : List Nat) (k : Nat) : sB ck k < 2 ^ ck.length:= sY _ _
theorem Pre0.rough {S : SI} {ck : List Nat} {v : PV} (P : Pre0 S ck 1 v) (hl : ck.length = S.fg * S.rg) (sz : S.fg * S.rg <= 21) (hv : Val ck) : Rough S v /\ Strict S v:= by
 have p22 : 2 ^ ck.length <= 2 ^ 22:= Nat.pow_le_pow_right (by decide) (by exact yB (jO hl sz) rfl)
 refine ⟨⟨⟨_, P.k.trans (kL_cI ck), fun x hx => ?_, by simp, by simp⟩, ⟨_, P.s.trans (sL_cI ck), fun x hx => ?_, by simp, by simp⟩, by rw [P.b, zN, hl]; exact Nat.le_refl _, by rw [P.b, zN, hl]; exact vM, fun x hx => ?_, P.h, P.y, P.r1, P.r2, P.e1, P.e2⟩, by rw [P.k, pA], by rw [P.s]; rfl, by rw [P.b, zN, hl]⟩
 ·
  refine oEA (fun k _ t02 => ?_) (List.mem_map.mp hx); obtain rfl:= t02
  exact Nat.lt_of_lt_of_le (jz _ _) p22
 ·
  simp only [List.mem_cons, List.not_mem_nil, or_false] at hx
  rcases hx with rfl | rfl <;> exact Nat.lt_of_lt_of_le (gr _ _) p22
 ·
  rw [P.b] at hx
  refine oEA (fun c hc t02 => ?_) (List.mem_map.mp hx); obtain rfl:= t02
  rcases hv c hc with rfl | hm
  ·
   decide
  ·
   have:= (xD hm).2.2.2.1; lia
theorem fL {i N : Int} : ∀ {l : List Int}, i <= N -> (∀ x ∈ l, x <= N) -> kC i l <= N
 | [], h, _ => h
 | x :: l, h, hl => by
  show kC (bif decide (i < x) then x else i) l <= N
  refine fL ?_ fun y hy => hl y (.tail _ hy)
  have:= hl x (.head _)
  by_cases e : i < x <;> simp [e] <;> lia
theorem fM {i : Int} : ∀ {l : List Int}, i <= kC i l
 | [] => Int.le_refl _
 | x :: l => by
  show i <= kC (bif decide (i < x) then x else i) l
  refine Int.le_trans ?_ fM
  by_cases e : i < x <;> simp [e] <;> exact sw e
theorem lX {S : SI} {ck : List Nat} {w x : Nat} (h : x ∈ jB S ck w) : S.dv = true /\ 8 <= x /\ x < 12:= by
 unfold jB at h
 split at h
 ·
  rename_i hd
  unfold vK at h
  refine oEA (fun f hf t02 => ?_) (List.mem_map.mp h); obtain rfl:= t02
  have:= List.mem_range.mp (List.mem_filter.mp hf).1
  exact ⟨hd, by exact vM, by exact oF (cN this) rfl⟩
 ·
  cases h
theorem HL.snoc {h : Hp} {r : Nat} {t : List Int} (e : h[r]? = some (.tup (il t))) : ∀ {hl : List V} {d : List (List Int)}, HL h hl d -> HL h (hl ++ [.ref r]) (d ++ [t])
 | [], [], _ => ⟨e, trivial⟩
 | .ref _ :: _, _ :: _, x => ⟨x.1, HL.snoc e x.2⟩
 | [], _ :: _, x => x.elim
 | .none :: _, [], x => x.elim
 | .bool _ :: _, [], x => x.elim
 | .int _ :: _, [], x => x.elim
 | .ref _ :: _, [], x => x.elim
 | .none :: _, _ :: _, x => x.elim
 | .bool _ :: _, _ :: _, x => x.elim
 | .int _ :: _, _ :: _, x => x.elim
theorem PosAt.snoc {h : Hp} {A : PA} {g z : Nat} {v : PV} (x : PosAt h A g z v) {hl : List V} {r : Nat} {t : List Int} (e : h[A.hi]? = some (.lst hl)) (e2 : HL h hl v.hist) (e3 : h[r]? = some (.tup (il t))) :
  PosAt (h.set A.hi (.lst (hl ++ [.ref r]))) A g z { v with hist:= v.hist ++ [t] } :=
 ⟨zD x.pos (apart x.pos e (by simp)), zD x.board x.n3, zD x.kinds x.n5, zD x.sides x.n6, ⟨_, zS e, (HL.snoc e3 e2).set_lst e (by simp)⟩, x.n1, x.n2, x.n3, x.n4, x.n5, x.n6⟩
theorem rQ {h : Hp} {X : Hp -> Prop} {A : PA} {g z : Nat} {v : PV} {t : List Int} {r : Nat} {Q : V -> Hp -> Prop} (x : PosAt h A g z v) (hl : v.hist.length <= 10) (e : h[r]? = some (.tup (il t))) (q : ∀ h', Keep A h h' -> PosAt h' A g z { v with hist:= v.hist ++ [t] } -> Q .none h') :
  wp (yX .append (.ref A.hi) [.ref r]) h Q X:= by
 refine oEA (fun hl' e1 e2 => ?_) x.hist
 have:= e2.len
 cbv; refine qH e1 (by exact yB (jO this hl) rfl) ?_
 exact q _ ((Keep.refl A h).set (.inr (.inr (.inr (.inr rfl)))) _) (x.snoc e1 e2 e)
section
variable {n : Nat} {h : Hp} {X : Hp -> Prop} {A : PA} {g z : Nat} {v : PV} {call : Call}
theorem iX {h0 : Hp} {S : SI} (hS : Stat h0 S) (hx : Ext h0 h) (ge : A.Ge h0.length) {sc w : Nat} {ns : List Int} {ck : List Nat} (x : PosAt h A S.g S.z (pv0 ck)) (e : h0[sc]? = some (.lst (il ns))) (hn : ns.length <= 63) (hl : ck.length = S.fg * S.rg) (hv : Val ck) (hw : w < 2) {Q : V -> Hp -> Prop}
  (q : ∀ h' v', Keep A h h' -> PosAt h' A S.g S.z v' -> Rough S v' -> Q .none h') : wp (run tab (n + 2) 149 [.ref A.p, .ref sc, .int S.fg, .int S.rg, .bool S.dv, .bool S.wg, .int w]) h Q X:= by
 have sz:= hS.sz
 have f2:= hS.f2
 have r3:= hS.r3
 have s0 : 0 < S.fg * S.rg:= Nat.mul_pos (by exact yY f2 rfl) (by exact yY r3 rfl)
 have P0 : Pre0 S ck 0 (pv0 ck):= ⟨rfl, rfl, rfl, ⟨_, rfl⟩, by simp [pv0], by simp [pv0], by simp [pv0], by simp [pv0], by simp [pv0]; lia⟩
 let J : Loc -> Hp -> Prop:= fun l h' => Has l [(47, .ref A.p), (117, .ref sc), (22, .int S.fg), (23, .int S.rg), (128, .bool S.dv), (129, .bool S.wg), (122, .int w), (120, .ref A.b), (19, .int (S.fg * S.rg : Nat))] /\ Keep A h h' /\ ∃ v', PosAt h' A S.g S.z v' /\ Pre0 S ck 0 v'
 have mem : ∀ {h' : Hp}, Keep A h h' -> h'[sc]? = some (.lst (il ns)):= fun k => (k.ext hx ge) _ _ e
 refine zV (fn:= fn_law_fields) rfl rfl ?_
 cbv; refine zA x.pos rfl ?_
 cbv; refine tA x.board (by show (il (cI ck)).length <= _; simp [cI]; exact yB (jO hl sz) rfl) ?_
 rw [show (il (pv0 ck).board).length = S.fg * S.rg by show (il (cI ck)).length = _; rw [List.length_map, zN, hl]]
 try refine yI ?_
 refine yD J ?_ fun l1 h1 => tC fun g1 k1 v1 x1 P1 => ?_
 ·
  cbv; refine jG (k:= 2) (hx _ _ e) hn (by decide) ?_
  cbv; refine yL (by decide) (by decide) ?_
  cbv; refine zW (by decide) ?_
  cbv; have fin : ∀ s : Int, wp (setattr (.ref A.p) 5 (.int s)) h (kU (kNx (cB J (oU Q)) (put 19 (.int (S.fg * S.rg : Nat)) (put 120 (.ref A.b) (fn_law_fields.ps.zip [.ref A.p, .ref sc, .int S.fg, .int S.rg, .bool S.dv, .bool S.wg, .int w]))))) X:= by
   intro s
   cbv; refine zY (g':= S.g) (v':= { pv0 ck with side:= s }) x rfl rfl rfl rfl rfl fun h' k' x' => ?_
   cbv; exact ⟨by walk_at "hs", k', _, x', ⟨P0.b, P0.k, P0.s, P0.y, P0.h, P0.r1, P0.r2, P0.e1, P0.e2⟩⟩
  cbv; refine zB (fun _ => ?_) fun _ => ?_
  ·
   walk_at "st"
   exact fin _
  ·
   cbv; refine xF (.inl rfl) ?_
   walk_at "st"
   exact fin _
 cbv; refine jG (k:= 4) (mem k1) hn (by decide) ?_
 try refine yI ?_
 refine yD (fun l h' => J l h' /\ get 148 l = some (.int (ns.getD 4 0))) ?_ fun l2 h2 => oA <| tC fun g1 k2 v2 x2 P2 g10 => ?_
 ·
  cbv; refine zW (by decide) ?_
  cbv; refine zB (fun c => ?_) fun c => ?_
  ·
   refine oEA (fun m em hm => ?_) (oP (ns.getD 4 0 / 3) (N:= 16) (by decide))
   have em : ns.getD 4 0 / 3 % 16 = (m : Int):= em
   cbv; refine pW hS (ck:= ck) (by rw [<- P1.b]; exact x1.board) hl fun h2 k2 => ?_
   have x2:= x1.ext k2
   cbv; refine yL (by decide) (by decide) ?_
   cbv; refine zW (by decide) ?_
   rw [em]
   cbv; rw [oB]
   have hb : oK S ck &&& m < 2 ^ 4:= Nat.and_lt_two_pow _ hm
   cbv; refine zY (g':= S.g) (v':= { v1 with rights:= (oK S ck &&& m : Nat) }) x2 rfl rfl rfl rfl rfl fun h' k' x' => ?_
   cbv; exact ⟨⟨by walk_at "hs", (k1.trans (.of_ext k2)).trans k', _, x', ⟨P1.b, P1.k, P1.s, P1.y, P1.h, by dsimp only; exact sy rfl, by dsimp only; exact lR hb rfl, P1.e1, P1.e2⟩⟩, by walk_at "lc"⟩
  ·
   cbv; exact ⟨⟨by walk_at "hs", k1, v1, x1, P1⟩, by walk_at "lc"⟩
 try refine yI ?_
 refine yD J ?_ fun l3 h3 => tC fun g1 k3 v3 x3 P3 => ?_
 ·
  cbv; refine zW (by decide) ?_
  cbv; refine zB (fun c => ?_) fun c => ?_
  ·
   cbv; refine yL (by decide) (by decide) ?_
   cbv; refine zW (by decide) ?_
   cbv; refine zY (g':= S.g) (v':= { v2 with rights:= ns.getD 4 0 / 3 % 18 - 1 }) x2 rfl rfl rfl rfl rfl fun h' k' x' => ?_
   cbv; exact ⟨g1, k2.trans k', _, x', ⟨P2.b, P2.k, P2.s, P2.y, P2.h, by dsimp only; exact at03 rfl, by dsimp only; exact at04 rfl, P2.e1, P2.e2⟩⟩
  ·
   cbv; exact ⟨g1, k2, v2, x2, P2⟩
 cbv; refine jG (k:= 3) (mem k3) hn (by decide) ?_
 try refine yI ?_
 refine yD (fun l h' => J l h' /\ get 148 l = some (.int (ns.getD 3 0))) ?_ fun l4 h4 => oA <| tC fun g1 k4 v4 x4 P4 g10 => ?_
 ·
  cbv; refine zW (by decide) ?_
  cbv; refine zB (fun c => ?_) fun c => ?_
  ·
   cbv; refine zG rfl ?_
   have kk:= Ext.app h3 [O.lst [.int (-1)]]
   have nn:= zC (h:= h3) (o:= O.lst [.int (-1)])
   generalize h3 ++ [O.lst [.int (-1)]] = h4 at kk nn ⊢
   cbv; refine pX hS (ck:= ck) (kk _ _ (by rw [<- P3.b]; exact x3.board)) hl hw fun h5 r k5 r5 => ?_
   have pl : ∀ y ∈ cI (jB S ck w), -2 <= y /\ y <= (S.fg * S.rg : Nat):= fun y hy => by
    refine oEA (fun c hc t02 => ?_) (List.mem_map.mp hy); obtain rfl:= t02
    refine oAA (fun p1 p2 p3 => ?_) (lX hc)
    refine oA (fun d1 d2 => ?_) (hS.dbl p1)
    rw [d1, d2]; lia
   cbv; refine iA (k5 _ _ nn) r5 (by
    have : (jB S ck w).length <= 4:= by unfold jB vK; split <;> simp; exact Nat.le_trans (List.length_filter_le _ _) (by simp)
    simp [cI]; exact yB this rfl) ?_
   cbv; refine w_max (i:= -1) (l:= cI (jB S ck w)) (by rw [zC]; rfl) ?_
   cbv; have m1:= fM (i:= -1) (l:= cI (jB S ck w))
   have m2:= fL (i:= -1) (N:= (S.fg * S.rg : Nat)) (l:= cI (jB S ck w)) (by exact sy rfl) fun y hy => (pl y hy).2
   have ke : Ext h3 (h5 ++ [O.lst ([V.int (-1)] ++ il (cI (jB S ck w)))]):= (kk.trans k5).app' _
   cbv; refine zY (g':= S.g) (v':= { v3 with ep:= kC (-1) (cI (jB S ck w)) }) (x3.ext ke) rfl rfl rfl rfl rfl fun h' k' x' => ?_
   cbv; exact ⟨⟨by walk_at "hs", (k3.trans (.of_ext ke)).trans k', _, x', ⟨P3.b, P3.k, P3.s, P3.y, P3.h, P3.r1, P3.r2, by dsimp only; exact as06 m1 rfl, by dsimp only; exact m2⟩⟩, by walk_at "lc"⟩
  ·
   cbv; exact ⟨⟨by walk_at "hs", k3, v3, x3, P3⟩, by walk_at "lc"⟩
 try refine yI ?_
 refine yD J ?_ fun l5 h5 => tC fun g1 k5 v5 x5 P5 => ?_
 ·
  cbv; refine zW (by decide) ?_
  cbv; refine zB (fun c => ?_) fun c => ?_
  ·
   cbv; refine yL (by decide) (by decide) ?_
   cbv; refine zW (by lia) ?_
   cbv; have m1:= Int.emod_nonneg (ns.getD 3 0 / 3) (show ((S.fg * S.rg : Nat) : Int) + 3 ≠ 0 by lia)
   have m2:= Int.emod_lt_of_pos (ns.getD 3 0 / 3) (show (0 : Int) < ((S.fg * S.rg : Nat) : Int) + 3 by lia)
   cbv; refine zY (g':= S.g) (v':= { v4 with ep:= ns.getD 3 0 / 3 % (((S.fg * S.rg : Nat) : Int) + 3) - 2 }) x4 rfl rfl rfl rfl rfl fun h' k' x' => ?_
   cbv; exact ⟨g1, k4.trans k', _, x', ⟨P4.b, P4.k, P4.s, P4.y, P4.h, P4.r1, P4.r2, by dsimp only; lia, by dsimp only; lia⟩⟩
  ·
   cbv; exact ⟨g1, k4, v4, x4, P4⟩
 cbv; refine jG (k:= 5) (mem k5) hn (by decide) ?_
 try refine yI ?_
 refine yD (fun l h' => J l h' /\ get 148 l = some (.int (ns.getD 5 0))) ?_ fun l6 h6 => oA <| tC fun g1 k6 v6 x6 P6 g10 => ?_
 ·
  have fin : ∀ s : Int, wp (setattr (.ref A.p) 13 (.int s)) h5 (kU (kNx (cB (fun l h' => J l h' /\ get 148 l = some (.int (ns.getD 5 0))) (oU Q)) (put 148 (.int (ns.getD 5 0)) l5))) X:= by
   intro s
   cbv; refine zY (g':= S.g) (v':= { v5 with half:= s }) x5 rfl rfl rfl rfl rfl fun h' k' x' => ?_
   cbv; exact ⟨⟨by walk_at "hs", k5.trans k', _, x', ⟨P5.b, P5.k, P5.s, P5.y, P5.h, P5.r1, P5.r2, P5.e1, P5.e2⟩⟩, by walk_at "lc"⟩
  cbv; refine zW (by decide) ?_
  cbv; refine zB (fun _ => ?_) fun _ => ?_
  ·
   cbv; refine zW (by decide) ?_
   cbv; exact fin _
  ·
   cbv; exact fin _
 cbv; refine jG (k:= 6) (mem k6) hn (by decide) ?_
 cbv; refine zW (by decide) ?_
 cbv; refine zY (g':= S.g) (v':= { v6 with full:= 40 - ns.getD 6 0 % 41 }) x6 rfl rfl rfl rfl rfl fun h7 k7 x7 => ?_
 have k7:= k6.trans k7
 have P7 : Pre0 S ck 0 { v6 with full:= 40 - ns.getD 6 0 % 41 }:= ⟨P6.b, P6.k, P6.s, P6.y, P6.h, P6.r1, P6.r2, P6.e1, P6.e2⟩
 generalize ({ v6 with full:= 40 - ns.getD 6 0 % 41 } : PV) = v7 at x7 P7
 try refine yI ?_
 refine yD (fun l h' => (get 47 l = some (.ref A.p) /\ get 117 l = some (.ref sc) /\ get 19 l = some (.int (S.fg * S.rg : Nat))) /\ Keep A h h' /\ ∃ v', PosAt h' A S.g S.z v' /\ Pre0 S ck 1 v') ?_ fun l8 h8 => tC <| oAA fun g1 g2 g9 k8 v8 x8 P8 => ?_
 ·
  cbv; refine jG (k:= 6) (mem k7) hn (by decide) ?_
  cbv; refine yL (by decide) (by decide) ?_
  cbv; refine zW (by decide) ?_
  cbv; refine zB (fun _ => ?_) fun _ => ?_
  ·
   have ph:= P7.h
   cbv; refine zA x7.pos rfl ?_
   refine oEA (fun hl' e1 e2 => ?_) x7.hist
   cbv; refine wD e1 ?_
   cbv; refine zG rfl ?_
   have x8:= x7.ext (Ext.app h7 [O.tup [.int 65, .int 0, .int 0, .int (-1), .int (ns.getD 5 0), .int 7]])
   have k8:= k7.trans (.of_ext (Ext.app h7 [O.tup [.int 65, .int 0, .int 0, .int (-1), .int (ns.getD 5 0), .int 7]]))
   cbv; refine rQ (v:= v7) (t:= [65, 0, 0, -1, ns.getD 5 0, 7]) x8 (by have:= P7.h; exact yB this rfl) zC fun h9 k9 x9 => ?_
   cbv; exact ⟨⟨by walk_at "lc", by walk_at "lc", by walk_at "lc"⟩, k8.trans k9, _, x9, ⟨P7.b, P7.k, P7.s, P7.y, (by dsimp only; rw [List.length_append, List.length_singleton]; exact cM ph), P7.r1, P7.r2, P7.e1, P7.e2⟩⟩
  ·
   cbv; exact ⟨⟨by walk_at "lc", by walk_at "lc", by walk_at "lc"⟩, k7, v7, x7, ⟨P7.b, P7.k, P7.s, P7.y, by have := P7.h; exact yB this rfl, P7.r1, P7.r2, P7.e1, P7.e2⟩⟩
 refine oA (fun R8 T8 => ?_) (P8.rough hl sz hv)
 cbv; refine jG (k:= 7) (mem k8) hn (by decide) ?_
 cbv; refine dW sz s0 x8 R8 T8 fun h9 v9 k9 x9 R9 => ?_
 cbv; exact q _ _ (k8.trans k9) x9 R9
end
noncomputable def zeros (N : Nat) : List Nat:= List.replicate N 0
theorem qT (N s : Nat) : gd (zeros N) s = 0:= by
 refine oO (fun q => ?_) (fun q => ?_) (Nat.lt_or_ge s (zeros N).length)
 ·
  exact List.eq_of_mem_replicate (List.mem_of_getElem? (xN q))
 ·
  exact kq q
theorem rL {f : Nat -> Bool} (h : ∀ i, f i = false) : ∀ n, bts f n = 0
 | 0 => rfl
 | n + 1 => by simp [bts, h, rL h n]
theorem af (N : Nat) : pv0 (zeros N) = ⟨cI (zeros N), cI (zeros 7), cI (zeros 2), [], 0, 0, -1, 0, 1, 0⟩:= by
 have hk : ∀ k, kB (zeros N) k = 0:= fun k => rL (fun i => by simp [isK, qT]) _
 have hs : ∀ k, sB (zeros N) k = 0:= fun k => rL (fun i => by simp [isS, qT]) _
 have hy : jP (zeros N) = 0:= rL (fun i => by
  unfold isM; rw [qT]
  by_cases q : i / (zeros N).length = 0
  ·
   simp [q]
  ·
   have : decide (0 = i / (zeros N).length) = false:= by simp; exact sG q
   rw [this]; simp) _
 unfold pv0
 rw [hy]
 have e1 : kL (zeros N) = cI (zeros 7):= by simp only [kL, hk]; rfl
 have e2 : sL (zeros N) = cI (zeros 2):= by simp only [sL, hs]; rfl
 rw [e1, e2]; rfl
theorem Val.zeros (N : Nat) : Val (zeros N):= fun c hc => .inl (List.eq_of_mem_replicate hc)
theorem zL {h : Hp} {X : Hp -> Prop} {n a c : Nat} {fs : Loc} {x : V} {Q : Unit -> Hp -> Prop} (e : h[n]? = some (.ins c fs)) (q : ∀ h', (∀ (m : Nat) (o : O), h[m]? = some o -> m ≠ n -> h'[m]? = some o) -> h'.length = h.length -> h'[n]? = some (.ins c (put a x fs)) -> Q () h') : wp (setattr (.ref n) a x) h Q X :=
 sI e (q _ (fun m o e ne => zD e ne) (by rw [List.length_set]) (zS e))
section
variable {n : Nat} {h : Hp} {X : Hp -> Prop} {A : PA} {g z : Nat} {v : PV} {call : Call}
theorem sQ {h0 : Hp} {S : SI} (hS : Stat h0 S) (hx : Ext h0 h) {Q : V -> Hp -> Prop} (q : ∀ h' A, Ext h h' -> A.Ge h.length -> PosAt h' A S.g S.z (pv0 (zeros (S.fg * S.rg))) -> Q (.ref A.p) h') :
  wp (run tab (n + 1) 7 [.ref h.length, .ref S.g, .ref S.z]) (h ++ [.ins 20 []]) (fD Q (.ref h.length)) X:= by
 have sz:= hS.sz
 have k0:= Ext.app h [O.ins 20 []]
 have p0:= zC (h:= h) (o:= O.ins 20 [])
 have l0 : (h ++ [O.ins 20 []]).length = h.length + 1:= by simp
 generalize h ++ [O.ins 20 []] = h1 at k0 p0 l0 ⊢
 have step : ∀ {a b : Hp}, Ext h a -> (∀ (m : Nat) (o : O), a[m]? = some o -> m ≠ h.length -> b[m]? = some o) -> Ext h b:= fun x y m o e => y m o (x m o e) (by have:= zJ e; exact mj this)
 refine zV (fn:= fn_PositionU_initU) rfl rfl ?_
 cbv; refine zL p0 fun h2 j2 l2 p2 => ?_
 have k2:= step k0 j2
 cbv; refine zL p2 fun h3 j3 l3 p3 => ?_
 have k3:= step k2 j3
 cbv; refine zG rfl ?_
 have p4:= zI (l:= [O.lst [V.int 0]]) p3
 have k4:= k3.app' [O.lst [V.int 0]]
 have nn:= zC (h:= h3) (o:= O.lst [V.int 0])
 have l4 : (h3 ++ [O.lst [V.int 0]]).length = h.length + 2:= by rw [List.length_append, l3, l2, l0]; rfl
 generalize h3 ++ [O.lst [V.int 0]] = h4 at p4 k4 nn l4 ⊢
 cbv; refine zA (k4 _ _ (hx _ _ hS.geo)) hS.g19 ?_
 cbv; refine sK nn (by exact zK) (by exact sx sz rfl) (by simp) (by rw [toN, uD]; simp [cI]; exact yB sz rfl) ?_
 rw [toN, uD]
 have p5:= zI (l:= [O.lst (il (cI (zeros (S.fg * S.rg))))]) p4
 have k5:= k4.app' [O.lst (il (cI (zeros (S.fg * S.rg))))]
 have b5:= zC (h:= h4) (o:= O.lst (il (cI (zeros (S.fg * S.rg)))))
 have l5 : (h4 ++ [O.lst (il (cI (zeros (S.fg * S.rg))))]).length = h.length + 3:= by rw [List.length_append, l4]; rfl
 try refine yI ?_
 show wp _ (h4 ++ [O.lst (il (cI (zeros (S.fg * S.rg))))]) _ _
 rw [l4] at b5
 rw [l4]
 generalize h4 ++ [O.lst (il (cI (zeros (S.fg * S.rg))))] = h5 at p5 k5 b5 l5 ⊢
 cbv; refine zL p5 fun h6 j6 l6 p6 => ?_
 have k6:= step k5 j6
 have b6:= j6 _ _ b5 (by lia)
 cbv; refine zG rfl ?_
 have p7:= zI (l:= [O.lst [V.int 0]]) p6
 have b7:= zI (l:= [O.lst [V.int 0]]) b6
 have k7:= k6.app' [O.lst [V.int 0]]
 have nn:= zC (h:= h6) (o:= O.lst [V.int 0])
 have l7 : (h6 ++ [O.lst [V.int 0]]).length = h.length + 4:= by rw [List.length_append, l6, l5]; rfl
 generalize h6 ++ [O.lst [V.int 0]] = h7 at p7 b7 k7 nn l7 ⊢
 cbv; refine sK nn (by decide) (by decide) (by simp) (by decide) ?_
 have p8:= zI (l:= [O.lst (il (cI (zeros 7)))]) p7
 have b8:= zI (l:= [O.lst (il (cI (zeros 7)))]) b7
 have k8:= k7.app' [O.lst (il (cI (zeros 7)))]
 have c8:= zC (h:= h7) (o:= O.lst (il (cI (zeros 7))))
 have l8 : (h7 ++ [O.lst (il (cI (zeros 7)))]).length = h.length + 5:= by rw [List.length_append, l7]; rfl
 try refine yI ?_
 show wp _ (h7 ++ [O.lst (il (cI (zeros 7)))]) _ _
 rw [l7] at c8
 rw [l7]
 generalize h7 ++ [O.lst (il (cI (zeros 7)))] = h8 at p8 b8 k8 c8 l8 ⊢
 cbv; refine zL p8 fun h9 j9 l9 p9 => ?_
 have k9:= step k8 j9
 have b9:= j9 _ _ b8 (by lia)
 have c9:= j9 _ _ c8 (by lia)
 cbv; refine zG rfl ?_
 have p10:= zI (l:= [O.lst (il (cI (zeros 2)))]) p9
 have b10:= zI (l:= [O.lst (il (cI (zeros 2)))]) b9
 have c10:= zI (l:= [O.lst (il (cI (zeros 2)))]) c9
 have k10:= k9.app' [O.lst (il (cI (zeros 2)))]
 have d10:= zC (h:= h9) (o:= O.lst (il (cI (zeros 2))))
 have l10 : (h9 ++ [O.lst (il (cI (zeros 2)))]).length = h.length + 6:= by rw [List.length_append, l9, l8]; rfl
 try refine yI ?_
 show wp _ (h9 ++ [O.lst (il (cI (zeros 2)))]) _ _
 rw [l9, l8] at d10
 rw [l9, l8]
 generalize h9 ++ [O.lst (il (cI (zeros 2)))] = h10 at p10 b10 c10 k10 d10 l10 ⊢
 cbv; refine zL p10 fun h11 j11 l11 p11 => ?_
 have k11:= step k10 j11
 have b11:= j11 _ _ b10 (by lia)
 have c11:= j11 _ _ c10 (by lia)
 have d11:= j11 _ _ d10 (by lia)
 cbv; refine zL p11 fun h12 j12 l12 p12 => ?_
 have k12:= step k11 j12
 have b12:= j12 _ _ b11 (by lia)
 have c12:= j12 _ _ c11 (by lia)
 have d12:= j12 _ _ d11 (by lia)
 cbv; refine zL p12 fun h13 j13 l13 p13 => ?_
 have k13:= step k12 j13
 have b13:= j13 _ _ b12 (by lia)
 have c13:= j13 _ _ c12 (by lia)
 have d13:= j13 _ _ d12 (by lia)
 cbv; refine zL p13 fun h14 j14 l14 p14 => ?_
 have k14:= step k13 j14
 have b14:= j14 _ _ b13 (by lia)
 have c14:= j14 _ _ c13 (by lia)
 have d14:= j14 _ _ d13 (by lia)
 cbv; refine zL p14 fun h15 j15 l15 p15 => ?_
 have k15:= step k14 j15
 have b15:= j15 _ _ b14 (by lia)
 have c15:= j15 _ _ c14 (by lia)
 have d15:= j15 _ _ d14 (by lia)
 cbv; refine zL p15 fun h16 j16 l16 p16 => ?_
 have k16:= step k15 j16
 have b16:= j16 _ _ b15 (by lia)
 have c16:= j16 _ _ c15 (by lia)
 have d16:= j16 _ _ d15 (by lia)
 cbv; refine zL p16 fun h17 j17 l17 p17 => ?_
 have k17:= step k16 j17
 have b17:= j17 _ _ b16 (by lia)
 have c17:= j17 _ _ c16 (by lia)
 have d17:= j17 _ _ d16 (by lia)
 cbv; refine zG rfl ?_
 have p18:= zI (l:= [O.lst []]) p17
 have b18:= zI (l:= [O.lst []]) b17
 have c18:= zI (l:= [O.lst []]) c17
 have d18:= zI (l:= [O.lst []]) d17
 have k18:= k17.app' [O.lst []]
 have e18:= zC (h:= h17) (o:= O.lst [])
 have l17' : h17.length = h.length + 6:= by lia
 rw [l17'] at e18
 rw [l17']
 generalize h17 ++ [O.lst []] = h18 at p18 b18 c18 d18 k18 e18 ⊢
 cbv; refine zL p18 fun h19 j19 l19 p19 => ?_
 have k19:= step k18 j19
 cbv; refine q h19 ⟨h.length, h.length + 2, h.length + 4, h.length + 5, h.length + 6⟩ k19 ⟨Nat.le_refl _, by show h.length <= h.length + 2; exact vM, by show h.length <= h.length + 4; exact vM, by show h.length <= h.length + 5; exact vM, by show h.length <= h.length + 6; exact vM⟩ ?_
 rw [af]
 exact ⟨p19, j19 _ _ b18 (by show h.length + 2 ≠ h.length; lia), j19 _ _ c18 (by show h.length + 4 ≠ h.length; lia), j19 _ _ d18 (by show h.length + 5 ≠ h.length; lia), ⟨[], j19 _ _ e18 (by show h.length + 6 ≠ h.length; lia), trivial⟩, by show h.length + 2 ≠ h.length + 4; lia, by show h.length + 2 ≠ h.length + 5; lia, by show h.length + 2 ≠ h.length + 6; lia, by show h.length + 4 ≠ h.length + 5; lia, by show h.length + 4 ≠ h.length + 6; lia, by show h.length + 5 ≠ h.length + 6; lia⟩
theorem PosAt.re_board {h : Hp} (x : PosAt h A g z v) {nb : Nat} {bs : List Int} (e : h[nb]? = some (.lst (il bs))) (n1 : nb ≠ A.k) (n2 : nb ≠ A.s) (n3 : nb ≠ A.hi) :
  PosAt (h.set A.p (.ins 20 (pC { A with b:= nb } g z { v with board:= bs }))) { A with b:= nb } g z { v with board:= bs } :=
 let ⟨hl, a, b⟩:= x.hist
 ⟨zS x.pos, zD e (apart e x.pos (by simp)), zD x.kinds (apart x.kinds x.pos (by simp)), zD x.sides (apart x.sides x.pos (by simp)), ⟨hl, zD a (apart a x.pos (by simp)), b.set_lst x.pos (by simp)⟩, n1, n2, n3, x.n4, x.n5, x.n6⟩
theorem PosAt.re_kinds {h : Hp} (x : PosAt h A g z v) {nb : Nat} {bs : List Int} (e : h[nb]? = some (.lst (il bs))) (n1 : nb ≠ A.b) (n2 : nb ≠ A.s) (n3 : nb ≠ A.hi) :
  PosAt (h.set A.p (.ins 20 (pC { A with k:= nb } g z { v with kinds:= bs }))) { A with k:= nb } g z { v with kinds:= bs } :=
 let ⟨hl, a, b⟩:= x.hist
 ⟨zS x.pos, zD x.board (apart x.board x.pos (by simp)), zD e (apart e x.pos (by simp)), zD x.sides (apart x.sides x.pos (by simp)), ⟨hl, zD a (apart a x.pos (by simp)), b.set_lst x.pos (by simp)⟩, n1.symm, x.n2, x.n3, n2, n3, x.n6⟩
theorem PosAt.re_sides {h : Hp} (x : PosAt h A g z v) {nb : Nat} {bs : List Int} (e : h[nb]? = some (.lst (il bs))) (n1 : nb ≠ A.b) (n2 : nb ≠ A.k) (n3 : nb ≠ A.hi) :
  PosAt (h.set A.p (.ins 20 (pC { A with s:= nb } g z { v with sides:= bs }))) { A with s:= nb } g z { v with sides:= bs } :=
 let ⟨hl, a, b⟩:= x.hist
 ⟨zS x.pos, zD x.board (apart x.board x.pos (by simp)), zD x.kinds (apart x.kinds x.pos (by simp)), zD e (apart e x.pos (by simp)), ⟨hl, zD a (apart a x.pos (by simp)), b.set_lst x.pos (by simp)⟩, x.n1, n1.symm, x.n3, n2.symm, x.n5, n3⟩
theorem PosAt.re_hist {h : Hp} (x : PosAt h A g z v) {nb : Nat} {hl : List V} {d : List (List Int)} (e : h[nb]? = some (.lst hl)) (e2 : HL h hl d) (n1 : nb ≠ A.b) (n2 : nb ≠ A.k) (n3 : nb ≠ A.s) :
  PosAt (h.set A.p (.ins 20 (pC { A with hi:= nb } g z { v with hist:= d }))) { A with hi:= nb } g z { v with hist:= d } :=
 ⟨zS x.pos, zD x.board (apart x.board x.pos (by simp)), zD x.kinds (apart x.kinds x.pos (by simp)), zD x.sides (apart x.sides x.pos (by simp)), ⟨hl, zD e (apart e x.pos (by simp)), e2.set_lst x.pos (by simp)⟩, x.n1, x.n2, n1.symm, x.n4, n2.symm, n3.symm⟩
structure Mk (h h' : Hp) (A : PA) (g z : Nat) (v : PV) (p : Nat) : Prop where
 k : Ext h h'
 ge : A.Ge h.length
 x : PosAt h' A g z v
 p : A.p = p
theorem Mk.set {h h' : Hp} {p : Nat} (M : Mk h h' A g z v p) {a : Nat} {y : V} {v' : PV} (e : put a y (pC A g z v) = pC A g z v') (hb : v'.board = v.board) (hk : v'.kinds = v.kinds) (hs : v'.sides = v.sides) (hh : v'.hist = v.hist) {Q : Unit -> Hp -> Prop}
  (q : ∀ h2, Mk h h2 A g z v' p -> Q () h2) : wp (setattr (.ref p) a y) h' Q X:= by
 rw [<- M.p]
 cbv; refine zY M.x e hb hk hs hh fun h2 k2 x2 => q h2 ⟨k2.ext M.k M.ge, M.ge, x2, M.p⟩
theorem nO {h' : Hp} {p a : Nat} {y : V} {fs' : Loc} {Q : Unit -> Hp -> Prop} (x : PosAt h' A g z v) (hp : A.p = p) (e : put a y (pC A g z v) = fs') (q : Q () (h'.set A.p (.ins 20 fs'))) : wp (setattr (.ref p) a y) h' Q X:= by
 rw [<- hp]
 cbv; refine sI x.pos ?_
 rw [e]; exact q
theorem Mk.new_board {h h1 : Hp} {p : Nat} (M : Mk h h1 A g z v p) (bs : List Int) {Q : Unit -> Hp -> Prop} (q : ∀ h2 A2, Mk h h2 A2 g z { v with board:= bs } p -> Q () h2) : wp (setattr (.ref p) 17 (.ref h1.length)) (h1 ++ [.lst (il bs)]) Q X:= by
 have x:= M.x.ext (Ext.app h1 [.lst (il bs)])
 have e:= zC (h:= h1) (o:= .lst (il bs))
 refine oEA (fun hl a1 a2 => ?_) M.x.hist
 have n1:= zJ M.x.board
 have n2:= zJ M.x.kinds
 have n3:= zJ M.x.sides
 have n4:= zJ a1
 have n5:= M.k.len
 refine yE (fun g1 g2 g3 g4 g5 => ?_) M.ge
 cbv; refine nO x M.p rfl ?_
 refine q _ { A with b:= h1.length } ⟨(M.k.app' _).set g1 _, ⟨g1, n5, g3, g4, g5⟩, x.re_board e (by exact qX n2) (by exact qX n3) (by exact qX n4), M.p⟩
theorem Mk.new_kinds {h h1 : Hp} {p : Nat} (M : Mk h h1 A g z v p) (bs : List Int) {Q : Unit -> Hp -> Prop} (q : ∀ h2 A2, Mk h h2 A2 g z { v with kinds:= bs } p -> Q () h2) : wp (setattr (.ref p) 16 (.ref h1.length)) (h1 ++ [.lst (il bs)]) Q X:= by
 have x:= M.x.ext (Ext.app h1 [.lst (il bs)])
 have e:= zC (h:= h1) (o:= .lst (il bs))
 refine oEA (fun hl a1 a2 => ?_) M.x.hist
 have n1:= zJ M.x.board
 have n2:= zJ M.x.kinds
 have n3:= zJ M.x.sides
 have n4:= zJ a1
 have n5:= M.k.len
 refine yE (fun g1 g2 g3 g4 g5 => ?_) M.ge
 cbv; refine nO x M.p rfl ?_
 refine q _ { A with k:= h1.length } ⟨(M.k.app' _).set g1 _, ⟨g1, g2, n5, g4, g5⟩, x.re_kinds e (by exact qX n1) (by exact qX n3) (by exact qX n4), M.p⟩
theorem Mk.new_sides {h h1 : Hp} {p : Nat} (M : Mk h h1 A g z v p) (bs : List Int) {Q : Unit -> Hp -> Prop} (q : ∀ h2 A2, Mk h h2 A2 g z { v with sides:= bs } p -> Q () h2) : wp (setattr (.ref p) 15 (.ref h1.length)) (h1 ++ [.lst (il bs)]) Q X:= by
 have x:= M.x.ext (Ext.app h1 [.lst (il bs)])
 have e:= zC (h:= h1) (o:= .lst (il bs))
 refine oEA (fun hl a1 a2 => ?_) M.x.hist
 have n1:= zJ M.x.board
 have n2:= zJ M.x.kinds
 have n3:= zJ M.x.sides
 have n4:= zJ a1
 have n5:= M.k.len
 refine yE (fun g1 g2 g3 g4 g5 => ?_) M.ge
 cbv; refine nO x M.p rfl ?_
 refine q _ { A with s:= h1.length } ⟨(M.k.app' _).set g1 _, ⟨g1, g2, g3, n5, g5⟩, x.re_sides e (by exact qX n1) (by exact qX n2) (by exact qX n4), M.p⟩
theorem Mk.new_hist {h h1 : Hp} {p : Nat} (M : Mk h h1 A g z v p) {hl : List V} {d : List (List Int)} (e2 : HL h1 hl d) {Q : Unit -> Hp -> Prop} (q : ∀ h2 A2, Mk h h2 A2 g z { v with hist:= d } p -> Q () h2) : wp (setattr (.ref p) 10 (.ref h1.length)) (h1 ++ [.lst hl]) Q X:= by
 have x:= M.x.ext (Ext.app h1 [.lst hl])
 have e:= zC (h:= h1) (o:= .lst hl)
 have n1:= zJ M.x.board
 have n2:= zJ M.x.kinds
 have n3:= zJ M.x.sides
 have n5:= M.k.len
 refine yE (fun g1 g2 g3 g4 g5 => ?_) M.ge
 cbv; refine nO x M.p rfl ?_
 refine q _ { A with hi:= h1.length } ⟨(M.k.app' _).set g1 _, ⟨g1, g2, g3, g4, n5⟩, x.re_hist e (e2.ext fun _ _ q => zI q) (by exact qX n1) (by exact qX n2) (by exact qX n3), M.p⟩
theorem copy_w {h0 : Hp} {S : SI} (hS : Stat h0 S) (hx : Ext h0 h) (x : PosAt h A S.g S.z v) (B : Bnd v) {Q : V -> Hp -> Prop} (q : ∀ h' A', Ext h h' -> A'.Ge h.length -> PosAt h' A' S.g S.z v -> Q (.ref A'.p) h') : wp (run tab (n + 2) 61 [.ref A.p]) h Q X:= by
 refine oEA (fun hl he1 he2 => ?_) x.hist
 have hel:= he2.len
 have B1:= B.b
 have B2:= B.k
 have B3:= B.s
 have B4:= B.h
 refine zV (fn:= fn_copy_position) rfl rfl ?_
 cbv; refine zA x.pos rfl ?_
 cbv; refine zA x.pos rfl ?_
 cbv; refine sQ hS hx fun h1 A1 k1 ge1 x1 => ?_
 have M1 : Mk h h1 A1 S.g S.z (pv0 (zeros (S.fg * S.rg))) A1.p:= ⟨k1, ge1, x1, rfl⟩
 clear x1 ge1 k1
 generalize pv0 (zeros (S.fg * S.rg)) = v1 at M1
 cbv; refine zA (M1.k _ _ x.pos) rfl ?_
 cbv; refine qG (M1.k _ _ x.board) (by simp; exact yB B1 rfl) ?_
 cbv; refine M1.new_board v.board fun h2 A2 M2 => ?_
 cbv; refine zA (M2.k _ _ x.pos) rfl ?_
 cbv; refine qG (M2.k _ _ x.kinds) (by simp; exact yB B2 rfl) ?_
 cbv; refine M2.new_kinds v.kinds fun h3 A3 M3 => ?_
 cbv; refine zA (M3.k _ _ x.pos) rfl ?_
 cbv; refine qG (M3.k _ _ x.sides) (by simp; exact yB B3 rfl) ?_
 cbv; refine M3.new_sides v.sides fun h4 A4 M4 => ?_
 cbv; refine zA (M4.k _ _ x.pos) rfl ?_
 cbv; refine M4.set (v':= ⟨v.board, v.kinds, v.sides, v1.hist, v.side, v1.rights, v1.ep, v1.half, v1.full, v1.key⟩) rfl rfl rfl rfl rfl fun h5 M5 => ?_
 cbv; refine zA (M5.k _ _ x.pos) rfl ?_
 cbv; refine M5.set (v':= ⟨v.board, v.kinds, v.sides, v1.hist, v.side, v.rights, v1.ep, v1.half, v1.full, v1.key⟩) rfl rfl rfl rfl rfl fun h6 M6 => ?_
 cbv; refine zA (M6.k _ _ x.pos) rfl ?_
 cbv; refine M6.set (v':= ⟨v.board, v.kinds, v.sides, v1.hist, v.side, v.rights, v.ep, v1.half, v1.full, v1.key⟩) rfl rfl rfl rfl rfl fun h7 M7 => ?_
 cbv; refine zA (M7.k _ _ x.pos) rfl ?_
 cbv; refine M7.set (v':= ⟨v.board, v.kinds, v.sides, v1.hist, v.side, v.rights, v.ep, v.half, v1.full, v1.key⟩) rfl rfl rfl rfl rfl fun h8 M8 => ?_
 cbv; refine zA (M8.k _ _ x.pos) rfl ?_
 cbv; refine M8.set (v':= ⟨v.board, v.kinds, v.sides, v1.hist, v.side, v.rights, v.ep, v.half, v.full, v1.key⟩) rfl rfl rfl rfl rfl fun h9 M9 => ?_
 cbv; refine zA (M9.k _ _ x.pos) rfl ?_
 cbv; refine M9.set (v':= ⟨v.board, v.kinds, v.sides, v1.hist, v.side, v.rights, v.ep, v.half, v.full, v.key⟩) rfl rfl rfl rfl rfl fun h10 M10 => ?_
 cbv; refine zA (M10.k _ _ x.pos) rfl ?_
 cbv; refine qG (M10.k _ _ he1) (by exact yB (jO hel B4) rfl) ?_
 cbv; refine M10.new_hist (d:= v.hist) (he2.ext fun _ _ e => M10.k _ _ e) fun h11 A11 M11 => ?_
 cbv; rw [<- M11.p]
 exact q _ _ M11.k M11.ge M11.x
end
noncomputable def Gf (h : Hp) (g f r : Nat) : Prop:= ∃ gf, h[g]? = some (.ins 34 gf) /\ get 22 gf = some (.int (f : Nat)) /\ get 23 gf = some (.int (r : Nat))
theorem Gf.ext {h h' : Hp} {g f r : Nat} (x : Gf h g f r) (k : Ext h h') : Gf h' g f r:= let ⟨gf, a, b, c⟩:= x; ⟨gf, k _ _ a, b, c⟩
theorem Stat.gf_ok {h0 h : Hp} {S : SI} (hS : Stat h0 S) (hx : Ext h0 h) : Gf h S.g S.fg S.rg:= ⟨_, hx _ _ hS.geo, hS.g22, hS.g23⟩
section
variable {n : Nat} {h : Hp} {X : Hp -> Prop} {A : PA} {g z : Nat} {v : PV} {call : Call}
theorem iK {A' : PA} {g' z' f r f' r' : Nat} {v' : PV} (x : PosAt h A g z v) (y : PosAt h A' g' z' v') (G : Gf h g f r) (G' : Gf h g' f' r') {Q : V -> Hp -> Prop} (qt : f = f' -> r = r' -> v = v' -> Q (.bool true) h) (qf : ¬ (f = f' /\ r = r' /\ v = v') -> Q (.bool false) h) :
  wp (run tab (n + 1) 63 [.ref A.p, .ref A'.p]) h Q X:= by
 revert G; refine xG fun gf a1 a2 a3 => ?_
 revert G'; refine xG fun gf' b1 b2 b3 => ?_
 refine oEA (fun hl e1 e2 => ?_) x.hist
 refine oEA (fun hl' e1' e2' => ?_) y.hist
 refine zV (fn:= fn_same_position) rfl rfl ?_
 have no : ∀ {P : Prop}, (f = f' /\ r = r' /\ v = v' -> P) -> ¬ P -> Q (.bool false) h:= fun a b => qf fun c => b (a c)
 cbv; refine zA x.pos rfl ?_
 cbv; refine zA a1 a2 ?_
 cbv; refine zA y.pos rfl ?_
 cbv; refine zA b1 b2 ?_
 cbv; refine zT (fun c => ?_) fun c => ?_
 ·
  cbv; cbv
  exact qf fun q => c (by rw [q.1])
 have c1 : f = f':= qW c
 cbv; refine zA x.pos rfl ?_
 cbv; refine zA a1 a3 ?_
 cbv; refine zA y.pos rfl ?_
 cbv; refine zA b1 b3 ?_
 cbv; refine zB (fun c => ?_) fun c => ?_
 ·
  cbv; exact qf fun q => c (by rw [q.2.1])
 have c2 : r = r':= qW c
 cbv; refine zA x.pos rfl ?_
 cbv; refine zA y.pos rfl ?_
 cbv; refine rP (yA 3 x.board) (yA 3 y.board) ?_
 rw [tF, <- decide_not]
 cbv; refine zT (fun c => ?_) fun c3 => ?_
 ·
  cbv; cbv
  exact qf fun q => c (by rw [q.2.2])
 have c3:= Decidable.of_not_not c3
 cbv; refine zA x.pos rfl ?_
 cbv; refine zA y.pos rfl ?_
 cbv; refine rP (yA 3 x.kinds) (yA 3 y.kinds) ?_
 rw [tF, <- decide_not]
 cbv; refine zT (fun c => ?_) fun c4 => ?_
 ·
  cbv; cbv
  exact qf fun q => c (by rw [q.2.2])
 have c4:= Decidable.of_not_not c4
 cbv; refine zA x.pos rfl ?_
 cbv; refine zA y.pos rfl ?_
 cbv; refine rP (yA 3 x.sides) (yA 3 y.sides) ?_
 rw [tF, <- decide_not]
 cbv; refine zB (fun c => ?_) fun c5 => ?_
 ·
  cbv; exact qf fun q => c (by rw [q.2.2])
 have c5:= Decidable.of_not_not c5
 cbv; refine zA x.pos rfl ?_
 cbv; refine zA y.pos rfl ?_
 cbv; refine zT (fun c => ?_) fun c6 => ?_
 ·
  cbv; cbv
  exact qf fun q => c (by rw [q.2.2])
 have c6:= Decidable.of_not_not c6
 cbv; refine zA x.pos rfl ?_
 cbv; refine zA y.pos rfl ?_
 cbv; refine zT (fun c => ?_) fun c7 => ?_
 ·
  cbv; cbv
  exact qf fun q => c (by rw [q.2.2])
 have c7:= Decidable.of_not_not c7
 cbv; refine zA x.pos rfl ?_
 cbv; refine zA y.pos rfl ?_
 cbv; refine zB (fun c => ?_) fun c8 => ?_
 ·
  cbv; exact qf fun q => c (by rw [q.2.2])
 have c8:= Decidable.of_not_not c8
 cbv; refine zA x.pos rfl ?_
 cbv; refine zA y.pos rfl ?_
 cbv; refine zT (fun c => ?_) fun c9 => ?_
 ·
  cbv; cbv
  exact qf fun q => c (by rw [q.2.2])
 have c9:= Decidable.of_not_not c9
 cbv; refine zA x.pos rfl ?_
 cbv; refine zA y.pos rfl ?_
 cbv; refine zT (fun c => ?_) fun c10 => ?_
 ·
  cbv; cbv
  exact qf fun q => c (by rw [q.2.2])
 have c10:= Decidable.of_not_not c10
 cbv; refine zA x.pos rfl ?_
 cbv; refine zA y.pos rfl ?_
 cbv; refine zB (fun c => ?_) fun c11 => ?_
 ·
  cbv; exact qf fun q => c (by rw [q.2.2])
 have c11:= Decidable.of_not_not c11
 cbv; refine zA x.pos rfl ?_
 cbv; refine zA y.pos rfl ?_
 cbv; refine dk (sW 2 e1 e2) (sW 2 e1' e2') ?_
 rw [eD]
 cbv; by_cases c12 : v.hist = v'.hist
 ·
  rw [eTr c12]
  refine qt c1 c2 ?_
  obtain ⟨q1, q2, q3, q4, q5, q6, q7, q8, q9, q10⟩:= v
  obtain ⟨r1, r2, r3, r4, r5, r6, r7, r8, r9, r10⟩:= v'
  dsimp only at *
  subst c3 c4 c5 c6 c7 c8 c9 c10 c11 c12
  rfl
 ·
  rw [eFa c12]
  exact qf fun q => c12 (by rw [q.2.2])
end
section
variable {n : Nat} {h : Hp} {X : Hp -> Prop} {A : PA} {g z : Nat} {v : PV} {call : Call}
theorem ar {f r : Nat} (hf : f <= 8) (hr : r <= 8) {Q : V -> Hp -> Prop} (q : ∀ h', Ext h h' -> Gf h' h.length f r -> Q (.ref h.length) h') :
  wp (run tab (n + 1) 21 [.ref h.length, .int f, .int r, .bool false, .bool false]) (h ++ [.ins 34 []]) (fD Q (.ref h.length)) X:= by
 have k1:= Ext.app h [O.ins 34 []]
 have p1:= zC (h:= h) (o:= O.ins 34 [])
 generalize h ++ [O.ins 34 []] = h1 at k1 p1 ⊢
 have step : ∀ {a b : Hp}, Ext h a -> (∀ (m : Nat) (o : O), a[m]? = some o -> m ≠ h.length -> b[m]? = some o) -> Ext h b:= fun x y m o e => y m o (x m o e) (by have:= zJ e; exact mj this)
 have fr : f * r <= 64:= Nat.mul_le_mul hf hr
 refine zV (fn:= fn_GeometryU_initU) rfl rfl ?_
 cbv; refine zL p1 fun h2 j2 _ p2 => ?_
 have k2:= step k1 j2
 cbv; refine zL p2 fun h3 j3 _ p3 => ?_
 have k3:= step k2 j3
 cbv; refine xF (.inl (zM (by exact uK rfl) (by exact yP hf rfl))) ?_
 cbv; refine zL p3 fun h4 j4 _ p4 => ?_
 have k4:= step k3 j4
 cbv; refine xF (.inl (zM (by exact uK rfl) (by exact yP hf rfl))) ?_
 rw [show (f : Int) * (r : Nat) = ((f * r : Nat) : Int) by simp]
 cbv; refine wC (by exact zK) (by exact sx fr rfl) rfl ?_
 cbv; refine zL p4 fun h5 j5 _ p5 => ?_
 have k5:= step k4 j5
 cbv; try refine sJ (fun c => by cases c) fun _ => ?_
 cbv; refine zL p5 fun h6 j6 _ p6 => ?_
 have k6:= step k5 j6
 cbv; refine zL p6 fun h7 j7 _ p7 => ?_
 have k7:= step k6 j7
 cbv; refine zG rfl ?_
 have p7:= zI (l:= [O.lst []]) p7
 have k7:= k7.app' [O.lst []]
 cbv; refine zL p7 fun h8 j8 _ p8 => ?_
 have k8:= step k7 j8
 cbv; refine zG rfl ?_
 have p8:= zI (l:= [O.lst []]) p8
 have k8:= k8.app' [O.lst []]
 cbv; refine zL p8 fun h9 j9 _ p9 => ?_
 have k9:= step k8 j9
 cbv; refine zG rfl ?_
 have p9:= zI (l:= [O.lst []]) p9
 have k9:= k9.app' [O.lst []]
 cbv; refine zL p9 fun h10 j10 _ p10 => ?_
 have k10:= step k9 j10
 cbv; refine zG rfl ?_
 have p10:= zI (l:= [O.lst []]) p10
 have k10:= k10.app' [O.lst []]
 cbv; refine zL p10 fun h11 j11 _ p11 => ?_
 have k11:= step k10 j11
 cbv; refine zG rfl ?_
 have p11:= zI (l:= [O.lst []]) p11
 have k11:= k11.app' [O.lst []]
 cbv; refine zL p11 fun h12 j12 _ p12 => ?_
 have k12:= step k11 j12
 cbv; refine zG rfl ?_
 have p12:= zI (l:= [O.lst []]) p12
 have k12:= k12.app' [O.lst []]
 generalize h12 ++ [O.lst []] = h12 at p12 k12 ⊢
 cbv; refine zG rfl ?_
 have p12:= zI (l:= [O.lst []]) p12
 have k12:= k12.app' [O.lst []]
 generalize h12 ++ [O.lst []] = h12' at p12 k12 ⊢
 cbv; refine zG rfl ?_
 cbv; refine zL (zI p12) fun h13 j13 _ p13 => ?_
 have k13:= step (k12.app' _) j13
 cbv; refine zG rfl ?_
 have p13:= zI (l:= [O.lst []]) p13
 have k13:= k13.app' [O.lst []]
 cbv; refine zL p13 fun h14 j14 _ p14 => ?_
 have k14:= step k13 j14
 cbv; refine zG rfl ?_
 have p14:= zI (l:= [O.lst []]) p14
 have k14:= k14.app' [O.lst []]
 cbv; refine zL p14 fun h15 j15 _ p15 => ?_
 have k15:= step k14 j15
 cbv; exact q _ k15 ⟨_, p15, rfl, rfl⟩
noncomputable def Alt (h : Hp) (A : PA) (z f r : Nat) (v : PV) : Prop:= ∃ g' v' f' r', PosAt h A g' z v' /\ Gf h g' f' r' /\ ¬ (f' = f /\ r' = r /\ v' = v)
theorem fT {h0 : Hp} {S : SI} (hS : Stat h0 S) (hx : Ext h0 h) (ge : A.Ge h0.length) (x : PosAt h A S.g S.z v) (R : Rough S v) {k : Nat} (hk : k < 11) {Q : V -> Hp -> Prop} (q : ∀ h', Keep A h h' -> Alt h' A S.z S.fg S.rg v -> Q .none h') :
  wp (run tab (n + 2) 150 [.ref A.p, .int k, .int S.fg, .int S.rg]) h Q X:= by
 have f8:= hS.f8
 have r8:= hS.r8
 have f2:= hS.f2
 have r3:= hS.r3
 have sz:= hS.sz
 have s0 : 0 < S.fg * S.rg:= Nat.mul_pos (by exact yY f2 rfl) (by exact yY r3 rfl)
 have b1:= R.b1
 refine vO (fun ks ek ek1 ek2 ek3 => ?_) R.kinds
 refine vO (fun ss es es1 es2 es3 => ?_) R.sides
 refine oE (fun y ey => ?_) R.key
 let J : Nat -> Loc -> Hp -> Prop:= fun i l h' => (get 151 l = some (.ref A.p) /\ get 118 l = some (.int (k : Nat)) /\ get 22 l = some (.int S.fg) /\ get 23 l = some (.int S.rg)) /\ Keep A h h' /\ (i <= k -> PosAt h' A S.g S.z v) /\ (k < i -> Alt h' A S.z S.fg S.rg v)
 have gfk : ∀ {h' : Hp}, Keep A h h' -> Gf h' S.g S.fg S.rg:= fun k => hS.gf_ok (k.ext hx ge)
 have xor1 : ∀ a : Nat, a ^^^ 1 ≠ a:= fun a e => by
  have:= congrArg (fun x => x.testBit 0) e
  simp at this
  lia
 have go : ∀ {l : Loc} {h' : Hp} {i : Nat}, get 151 l = some (.ref A.p) -> get 118 l = some (.int (k : Nat)) -> get 22 l = some (.int S.fg) -> get 23 l = some (.int S.rg) -> Keep A h h' -> ¬ k = i -> (i <= k -> PosAt h' A S.g S.z v) -> (k < i -> Alt h' A S.z S.fg S.rg v) -> J (i + 1) l h':= fun a b c d e f g1 g2 => ⟨⟨a, b, c, d⟩, e, fun z => g1 (by exact jZ vM z), fun z => g2 (by exact md z f)⟩
 have yes : ∀ {l : Loc} {h' : Hp} {i : Nat} {v' : PV}, get 151 l = some (.ref A.p) -> get 118 l = some (.int (k : Nat)) -> get 22 l = some (.int S.fg) -> get 23 l = some (.int S.rg) -> Keep A h h' -> k = i -> PosAt h' A S.g S.z v' -> v' ≠ v -> J (i + 1) l h':= fun a b c d e f x' ne => ⟨⟨a, b, c, d⟩, e, fun z => by lia, fun _ => ⟨_, _, _, _, x', gfk e, fun w => ne w.2.2⟩⟩
 have J0 : J 0 [(151, .ref A.p), (118, .int (k : Nat)), (22, .int S.fg), (23, .int S.rg)] h:= ⟨⟨rfl, rfl, rfl, rfl⟩, Keep.refl _ _, fun _ => x, fun z => by exact gD z⟩
 refine zV (fn:= fn_law_alter) rfl rfl ?_
 try refine yI ?_
 refine yD (J 1) ?_ fun l1 h1 => yW <| yW fun g1 g2 g3 g4 k1 x1 a1 => ?_
 ·
  revert J0; refine yW <| yW fun g1 g2 g3 g4 k0 x0 a0 => ?_
  cbv; refine zB (fun c => ?_) fun c => ?_
  ·
   have x0:= x0 (by exact gC)
   have hb : 0 < v.board.length:= yH s0 b1
   cbv; refine zA x0.pos rfl ?_
   cbv; refine xB (y:= v.board[0]) x0 (by decide) (List.getElem?_eq_getElem hb) (by decide) ?_
   cbv; refine wB x0 (by decide) (by exact vL hb) (by decide) fun h' k' x' => ?_
   cbv; refine yes g1 g2 g3 g4 (k0.trans k') (by exact wO c) x' fun e => ?_
   have:= congrArg (fun v : PV => v.board[0]?) e
   dsimp only at this
   rw [show (0 : Int).toNat = 0 from rfl, List.getElem?_set_self hb, List.getElem?_eq_getElem hb] at this
   have:= Option.some.inj this
   lia
  ·
   cbv; exact go g1 g2 g3 g4 k0 (by exact tJ c) x0 a0
 try refine yI ?_
 refine yD (J 2) ?_ fun l2 h2 => yW <| yW fun g1 g2 g3 g4 k2 x2 a2 => ?_
 ·
  cbv; refine zB (fun c => ?_) fun c => ?_
  ·
   have x1:= x1 (by exact cq (wO c) rfl)
   cbv; refine zA x1.pos rfl ?_
   cbv; refine xP (y:= (gd ks 1 : Nat)) x1 (by decide) (by rw [ek]; exact yG (by exact yY ek2 rfl)) (by decide) ?_
   cbv; rw [show (1 : Int) = ((1 : Nat) : Int) from rfl, tY]
   cbv; refine vE x1 (by decide) (by rw [ek, zN]; exact vL (yY ek2 rfl)) (by decide) fun h' k' x' => ?_
   cbv; refine yes g1 g2 g3 g4 (k1.trans k') (by exact wO c) x' fun e => ?_
   have:= congrArg (fun v : PV => v.kinds[1]?) e
   dsimp only at this
   rw [ek, toN, List.getElem?_set_self (by rw [zN]; exact yY ek2 rfl), yG (by exact yY ek2 rfl)] at this
   have:= Option.some.inj this
   exact xor1 _ (Int.ofNat.inj this)
  ·
   cbv; exact go g1 g2 g3 g4 k1 (by exact tJ c) x1 a1
 try refine yI ?_
 refine yD (J 3) ?_ fun l3 h3 => yW <| yW fun g1 g2 g3 g4 k3 x3 a3 => ?_
 ·
  cbv; refine zB (fun c => ?_) fun c => ?_
  ·
   have x2:= x2 (by exact cq (wO c) rfl)
   cbv; refine zA x2.pos rfl ?_
   cbv; refine xA (y:= (gd ss 1 : Nat)) x2 (by decide) (by rw [es]; exact yG (by exact yY es2 rfl)) (by decide) ?_
   cbv; rw [show (1 : Int) = ((1 : Nat) : Int) from rfl, tY]
   cbv; refine vD x2 (by decide) (by rw [es, zN]; exact vL (yY es2 rfl)) (by decide) fun h' k' x' => ?_
   cbv; refine yes g1 g2 g3 g4 (k2.trans k') (by exact wO c) x' fun e => ?_
   have:= congrArg (fun v : PV => v.sides[1]?) e
   dsimp only at this
   rw [es, toN, List.getElem?_set_self (by rw [zN]; exact yY es2 rfl), yG (by exact yY es2 rfl)] at this
   have:= Option.some.inj this
   exact xor1 _ (Int.ofNat.inj this)
  ·
   cbv; exact go g1 g2 g3 g4 k2 (by exact tJ c) x2 a2
 try refine yI ?_
 refine yD (J 4) ?_ fun l4 h4 => yW <| yW fun g1 g2 g3 g4 k4 x4 a4 => ?_
 ·
  cbv; refine zB (fun c => ?_) fun c => ?_
  ·
   have x3:= x3 (by exact cq (wO c) rfl)
   cbv; refine zA x3.pos rfl ?_
   cbv; refine zY (g':= S.g) (v':= { v with side:= 1 - v.side }) x3 rfl rfl rfl rfl rfl fun h' k' x' => ?_
   cbv; refine yes g1 g2 g3 g4 (k3.trans k') (by exact wO c) x' fun e => ?_
   have:= congrArg (fun v : PV => v.side) e
   dsimp only at this
   lia
  ·
   cbv; exact go g1 g2 g3 g4 k3 (by exact tJ c) x3 a3
 try refine yI ?_
 refine yD (J 5) ?_ fun l5 h5 => yW <| yW fun g1 g2 g3 g4 k5 x5 a5 => ?_
 ·
  cbv; refine zB (fun c => ?_) fun c => ?_
  ·
   have x4:= x4 (by exact cq (wO c) rfl)
   cbv; refine zA x4.pos rfl ?_
   cbv; refine zY (g':= S.g) (v':= { v with rights:= v.rights + 1 }) x4 rfl rfl rfl rfl rfl fun h' k' x' => ?_
   cbv; refine yes g1 g2 g3 g4 (k4.trans k') (by exact wO c) x' fun e => ?_
   have:= congrArg (fun v : PV => v.rights) e
   dsimp only at this
   lia
  ·
   cbv; exact go g1 g2 g3 g4 k4 (by exact tJ c) x4 a4
 try refine yI ?_
 refine yD (J 6) ?_ fun l6 h6 => yW <| yW fun g1 g2 g3 g4 k6 x6 a6 => ?_
 ·
  cbv; refine zB (fun c => ?_) fun c => ?_
  ·
   have x5:= x5 (by exact cq (wO c) rfl)
   cbv; refine zA x5.pos rfl ?_
   cbv; refine zY (g':= S.g) (v':= { v with ep:= v.ep - 1 }) x5 rfl rfl rfl rfl rfl fun h' k' x' => ?_
   cbv; refine yes g1 g2 g3 g4 (k5.trans k') (by exact wO c) x' fun e => ?_
   have:= congrArg (fun v : PV => v.ep) e
   dsimp only at this
   lia
  ·
   cbv; exact go g1 g2 g3 g4 k5 (by lia) x5 a5
 try refine yI ?_
 refine yD (J 7) ?_ fun l7 h7 => yW <| yW fun g1 g2 g3 g4 k7 x7 a7 => ?_
 ·
  cbv; refine zB (fun c => ?_) fun c => ?_
  ·
   have x6:= x6 (by lia)
   cbv; refine zA x6.pos rfl ?_
   cbv; refine zY (g':= S.g) (v':= { v with half:= v.half + 1 }) x6 rfl rfl rfl rfl rfl fun h' k' x' => ?_
   cbv; refine yes g1 g2 g3 g4 (k6.trans k') (by lia) x' fun e => ?_
   have:= congrArg (fun v : PV => v.half) e
   dsimp only at this
   lia
  ·
   cbv; exact go g1 g2 g3 g4 k6 (by lia) x6 a6
 try refine yI ?_
 refine yD (J 8) ?_ fun l8 h8 => yW <| yW fun g1 g2 g3 g4 k8 x8 a8 => ?_
 ·
  cbv; refine zB (fun c => ?_) fun c => ?_
  ·
   have x7:= x7 (by lia)
   cbv; refine zA x7.pos rfl ?_
   cbv; refine zY (g':= S.g) (v':= { v with full:= v.full + 1 }) x7 rfl rfl rfl rfl rfl fun h' k' x' => ?_
   cbv; refine yes g1 g2 g3 g4 (k7.trans k') (by lia) x' fun e => ?_
   have:= congrArg (fun v : PV => v.full) e
   dsimp only at this
   lia
  ·
   cbv; exact go g1 g2 g3 g4 k7 (by lia) x7 a7
 try refine yI ?_
 refine yD (J 9) ?_ fun l9 h9 => yW <| yW fun g1 g2 g3 g4 k9 x9 a9 => ?_
 ·
  cbv; refine zB (fun c => ?_) fun c => ?_
  ·
   have x8:= x8 (by lia)
   cbv; refine zA x8.pos rfl ?_
   cbv; rw [ey, show (1 : Int) = ((1 : Nat) : Int) from rfl, tY]
   cbv; refine zY (g':= S.g) (v':= { v with key:= (y ^^^ 1 : Nat) }) x8 rfl rfl rfl rfl rfl fun h' k' x' => ?_
   cbv; refine yes g1 g2 g3 g4 (k8.trans k') (by lia) x' fun e => ?_
   have:= congrArg (fun v : PV => v.key) e
   dsimp only at this
   rw [ey] at this
   exact xor1 _ (Int.ofNat.inj this)
  ·
   cbv; exact go g1 g2 g3 g4 k8 (by lia) x8 a8
 try refine yI ?_
 refine yD (J 10) ?_ fun l10 h10 => yW <| yW fun g1 g2 g3 g4 k10 x10 a10 => ?_
 ·
  cbv; refine zB (fun c => ?_) fun c => ?_
  ·
   have x9:= x9 (by lia)
   cbv; refine zA x9.pos rfl ?_
   refine oEA (fun hl' e1 e2 => ?_) x9.hist
   cbv; refine wD e1 ?_
   cbv; refine zG rfl ?_
   have x8:= x9.ext (Ext.app h9 [O.tup [.int 66, .int 0, .int 0, .int (-1), .int 0, .int 7]])
   have k8:= k9.trans (.of_ext (Ext.app h9 [O.tup [.int 66, .int 0, .int 0, .int (-1), .int 0, .int 7]]))
   cbv; refine rQ (v:= v) (t:= [66, 0, 0, -1, 0, 7]) x8 (by have:= R.hist; lia) zC fun h' k' x' => ?_
   cbv; refine yes g1 g2 g3 g4 (k8.trans k') (by lia) x' fun e => ?_
   have:= congrArg (fun v : PV => v.hist.length) e
   dsimp only at this
   rw [List.length_append, List.length_singleton] at this
   lia
  ·
   cbv; exact go g1 g2 g3 g4 k9 (by lia) x9 a9
 try refine yI ?_
 refine yD (J 11) ?_ fun l11 h11 => yW <| yW fun g1 g2 g3 g4 k11 x11 a11 => ?_
 ·
  cbv; refine zB (fun c => ?_) fun c => ?_
  ·
   have x10:= x10 (by lia)
   cbv; refine ar r8 f8 fun h' k' G' => ?_
   cbv; refine zY (g':= h10.length) (v':= v) (x10.ext k') rfl rfl rfl rfl rfl fun h2 k2 x2 => ?_
   cbv; have kk:= (k10.trans (.of_ext k')).trans k2
   revert G'; refine xG fun gf q1 q2 q3 => ?_
   refine ⟨⟨g1, g2, g3, g4⟩, kk, fun z => by lia, fun _ => ⟨_, _, _, _, x2, ⟨gf, k2.1 _ _ q1 fun q => ?_, q2, q3⟩, fun w => hS.fr w.1.symm⟩⟩
   have m1:= zJ x10.pos
   have m2:= zJ x10.board
   have m3:= zJ x10.kinds
   have m4:= zJ x10.sides
   refine oEA (fun hl' m5 _ => ?_) x10.hist
   have m5:= zJ m5
   rcases q with q | q | q | q | q <;> lia
  ·
   cbv; exact go g1 g2 g3 g4 k10 (by lia) x10 a10
 cbv; exact q _ k11 (a11 hk)
end
section
variable {n : Nat} {h : Hp} {X : Hp -> Prop} {A : PA} {g z : Nat} {v : PV} {call : Call}
theorem iY {h0 : Hp} {S : SI} (hS : Stat h0 S) (hx : Ext h0 h) (x : PosAt h A S.g S.z v) (R : Rough S v) {k : Nat} (hk : k < 11) {Q : V -> Hp -> Prop} (q : ∀ h', Ext h h' -> Q (.bool true) h') :
  wp (run tab (n + 3) 152 [.ref A.p, .int k, .int S.fg, .int S.rg]) h Q X:= by
 have sz:= hS.sz
 have B:= R.bnd sz
 refine zV (fn:= fn_law_copied) rfl rfl ?_
 cbv; refine wW x B fun h1 r1 k1 R1 => ?_
 have x1:= x.ext k1
 have hx1:= hx.trans k1
 cbv; refine copy_w hS hx1 x1 B fun h2 A2 k2 ge2 x2 => ?_
 have hx2:= hx1.trans k2
 have ge0 : A2.Ge h0.length:= by
  have:= hx1.len
  revert ge2; refine yE fun g1 g2 g3 g4 g5 => ?_
  exact ⟨by exact jZ this g1, by exact jZ this g2, by exact jZ this g3, by exact jZ this g4, by exact jZ this g5⟩
 cbv; refine wW x2 B fun h3 r3 k3 R3 => ?_
 cbv; refine rP R3.deep ((R1.ext k2).ext k3).deep ?_
 rw [(pO _ _).mpr rfl]
 cbv; try refine vZ (fun c => by cases c) fun _ => ?_
 have y3:= x1.ext (k2.trans k3)
 have hx3:= hx2.trans k3
 cbv; refine iK (x2.ext k3) y3 (hS.gf_ok hx3) (hS.gf_ok hx3) (fun _ _ _ => ?_) fun c => absurd ⟨rfl, rfl, rfl⟩ c
 cbv; try refine yV rfl ?_
 cbv; refine fT hS hx3 ge0 (x2.ext k3) R hk fun h4 k4 => vS fun g' v' f' r' x4 G4 ne => ?_
 have e4 : Ext h1 h4:= k4.ext (k2.trans k3) ge2
 have x0:= x1.ext e4
 have G0:= hS.gf_ok (hx1.trans e4)
 cbv; refine iK x4 x0 G4 G0 (fun a b c => absurd ⟨a, b, c⟩ ne) fun _ => ?_
 cbv; refine iK x0 x4 G0 G4 (fun a b c => absurd ⟨a.symm, b.symm, c.symm⟩ ne) fun _ => ?_
 cbv; refine wW x0 B fun h5 r5 k5 R5 => ?_
 cbv; refine dk R5.deep ((R1.ext e4).ext k5).deep ?_
 rw [(pO _ _).mpr rfl]
 cbv; exact q _ ((k1.trans e4).trans k5)
end
structure Boards (S : SI) (v : PV) (ck : List Nat) : Prop where
 len : ck.length = S.fg * S.rg
 val : Val ck
 b : v.board = cI ck
 k : v.kinds = kL ck
 s : v.sides = sL ck
theorem man_of {y : Int} (h1 : 0 < y) (h2 : y < 15) (h3 : 1 <= y % 8) (h4 : y % 8 <= 6) : y.toNat ∈ men /\ (y.toNat : Int) = y:= by
 have k : ∀ m : Nat, m < 15 -> 1 <= m % 8 -> m % 8 <= 6 -> m ∈ men:= by decide
 refine oE (fun n e => ?_) (Int.eq_ofNat_of_zero_le (Int.le_of_lt h1))
 subst e
 exact ⟨k n (Int.ofNat_lt.mp h2) (Int.ofNat_le.mp h3) (Int.ofNat_le.mp h4), rfl⟩
theorem cG {a b : List Nat} (h : cI a = cI b) : a = b:= List.map_inj_right (fun (a b : Nat) h => Int.ofNat.inj h) |>.mp h
theorem jf {f : Nat -> Bool} {i : Nat} : bts f i ||| 2 ^ i = bts f i + 2 ^ i:= (rM (by rw [yJ]; simp)).symm
theorem nL {a b : Nat} : a ^^^ b = 0 ↔ a = b:= by
 constructor
 ·
  intro e
  refine Nat.eq_of_testBit_eq fun i => ?_
  have:= congrArg (fun x => x.testBit i) e
  simp only [Nat.testBit_xor, Nat.zero_testBit] at this
  cases q : a.testBit i <;> cases r : b.testBit i <;> simp [q, r] at this <;> rfl
 ·
  intro e; rw [e]; exact Nat.xor_self b
section
variable {n : Nat} {h : Hp} {X : Hp -> Prop} {A : PA} {g z : Nat} {v : PV} {call : Call}
theorem lC {h0 : Hp} {S : SI} (hS : Stat h0 S) (hx : Ext h0 h) (x : PosAt h A S.g S.z v) (R : Rough S v) {Q : V -> Hp -> Prop} (qt : ∀ h' ck, Ext h h' -> Boards S v ck -> Q .none h') (qf : ∀ h', Ext h h' -> (∀ ck, ¬ Boards S v ck) -> X h') :
  wp (run tab (n + 3) 70 [.ref A.p]) h Q X:= by
 have sz:= hS.sz
 have f2:= hS.f2
 have r3:= hS.r3
 have B:= R.bnd sz
 have B1:= B.b
 have B2:= B.k
 have B3:= B.s
 refine zV (fn:= fn_check_boards) rfl rfl ?_
 cbv; refine zA x.pos rfl ?_
 cbv; refine zA x.pos rfl ?_
 cbv; refine tA x.board (by simp; exact yB B1 rfl) ?_
 cbv; refine zA (hx _ _ hS.geo) hS.g19 ?_
 rw [List.length_map]
 cbv; refine zT (fun c => ?_) fun c1 => ?_
 ·
  cbv; cbv
  exact qf _ (Ext.refl h) fun ck b => c (by rw [b.b, zN, b.len])
 have c1 : v.board.length = S.fg * S.rg:= qW c1
 cbv; refine zA x.pos rfl ?_
 cbv; refine tA x.kinds (by simp; exact yB B2 rfl) ?_
 rw [List.length_map]
 cbv; refine zT (fun c => ?_) fun c2 => ?_
 ·
  cbv; cbv
  exact qf _ (Ext.refl h) fun ck b => c (by rw [b.k, pA]; rfl)
 have c2 : v.kinds.length = 7:= qW c2
 cbv; refine zA x.pos rfl ?_
 cbv; refine tA x.sides (by simp; exact yB B3 rfl) ?_
 rw [List.length_map]
 cbv; refine zB (fun c => ?_) fun c3 => ?_
 ·
  cbv; exact qf _ (Ext.refl h) fun ck b => c (by rw [b.s]; rfl)
 have c3 : v.sides.length = 2:= qW c3
 have hb0 : ∃ ck : List Nat, ck = v.board.map Int.toNat:= ⟨_, rfl⟩
 revert hb0; refine oE fun ck hcells => ?_
 have hlen : ck.length = S.fg * S.rg:= by rw [hcells, List.length_map, c1]
 have hgd : ∀ i (hi : i < v.board.length), gd ck i = (v.board[i]).toNat:= fun i hi => by
  have:= xN (ck:= ck) (s:= i) (by exact uN hlen (eX c1 hi))
  rw [hcells, List.getElem?_map, List.getElem?_eq_getElem hi] at this
  rw [<- hcells] at this
  exact (Option.some.inj this).symm
 have notgood : ∀ i (hi : i < v.board.length), ¬ (v.board[i] = 0 \/ ((0 < v.board[i] /\ v.board[i] < 15) /\ 1 <= v.board[i] % 8 /\ v.board[i] % 8 <= 6)) -> ∀ ck, ¬ Boards S v ck:= fun i hi no cs b => by
  have e : (v.board)[i]? = some (gd cs i : Int):= by rw [b.b]; exact yG (by rw [b.len]; exact eX c1 hi)
  rw [List.getElem?_eq_getElem hi] at e
  have e:= Option.some.inj e
  apply no
  rw [e]
  by_cases q : gd cs i = 0
  ·
   left; exact ar86 q
  ·
   right
   refine yE (fun m1 m2 m3 m4 m5 => ?_) (xD (b.val.gd i q))
   exact men0 m1 m2 m4 m5
 cbv; refine zG rfl ?_
 cbv; refine sK zC (by decide) (by decide) (by simp) (by decide) ?_
 have x0:= (Ext.app h [O.lst [V.int 0]]).app' [.lst (rep [V.int 0] (7 : Int).toNat)]
 have ha : h.length <= (h ++ [O.lst [V.int 0]]).length:= by simp
 have ea : ((h ++ [O.lst [V.int 0]]) ++ [.lst (rep [V.int 0] (7 : Int).toNat)])[(h ++ [O.lst [V.int 0]]).length]? = some (.lst (il (kLi ck 0))):= zC
 generalize ((h ++ [O.lst [V.int 0]]) ++ [.lst (rep [V.int 0] (7 : Int).toNat)]) = h1 at x0 ea ⊢
 generalize (h ++ [O.lst [V.int 0]]).length = a at ha ea ⊢
 cbv; refine zG rfl ?_
 have x1:= x0.app' [O.lst [V.int 0, V.int 0]]
 have hb : h.length <= h1.length:= x0.len
 have eb : (h1 ++ [O.lst [V.int 0, V.int 0]])[h1.length]? = some (.lst (il (sLi ck 0))):= zC
 have hab : a ≠ h1.length:= fun z => by have:= zJ ea; exact gE this z
 have ea:= zI (l:= [O.lst [V.int 0, V.int 0]]) ea
 generalize h1 ++ [O.lst [V.int 0, V.int 0]] = h2 at x1 ea eb ⊢
 generalize h1.length = b at hb eb hab ⊢
 cbv; refine zA ((hx.trans x1) _ _ hS.geo) hS.g19 ?_
 cbv; refine xS (zM (by exact uK rfl) (by exact yP sz rfl)) ?_
 cbv; refine jR zC (by exact jH sz rfl) ?_
 cbv; refine xK (h:= _) (l:= _) _ (fun i l h' => Ext h h' /\ h'[a]? = some (.lst (il (kLi ck i))) /\ h'[b]? = some (.lst (il (sLi ck i))) /\ (get 47 l = some (.ref A.p) /\ get 8 l = some (.ref S.g) /\ get 16 l = some (.ref a) /\ get 15 l = some (.ref b)) /\ ∀ j, j < i -> (v.board[j]? = some (gd ck j : Int)) /\ (gd ck j = 0 \/ gd ck j ∈ men))
  (by simp; exact jH sz rfl) (fun _ _ _ _ => rfl) (fun i l h' y hv1 I => ?_) (fun l h' I => ?_) ⟨x1.app' _, zI ea, zI eb, ⟨rfl, rfl, rfl, rfl⟩, fun j hj => by exact gD hj⟩
 ·
  refine oA (fun hi t01 => ?_) (xW hv1); obtain rfl:= t01
  revert I; refine yE fun i1 i2 i3 => yW fun i4 i5 i6 i7 i8 => ?_
  have hi' : i < v.board.length:= uN c1 hi
  have hg:= hgd i hi'
  have ng:= notgood i hi'
  have eget:= List.getElem?_eq_getElem hi'
  generalize v.board[i] = y at hg ng eget
  have xx:= x.ext i1
  cbv; refine zA xx.pos rfl ?_
  cbv; refine xB (y:= y) xx (by exact zK) (by rw [toN]; exact eget) (by exact xJ (yH hi' B1) rfl) ?_
  cbv; refine zB (fun c => ?_) fun c4 => ?_
  ·
   have e0 : gd ck i = 0:= by lia
   cbv; refine ⟨i1, by rw [fX e0]; exact i2, by rw [gU e0]; exact i3, ⟨by walk_at "lc", by walk_at "lc", by walk_at "lc", by walk_at "lc"⟩, fun j hj => ?_⟩
   by_cases ej : j = i
   ·
    subst ej; rw [e0, eget, c]; exact ⟨rfl, .inl rfl⟩
   ·
    exact i8 j (by exact md hj ej)
  ·
   have bad : ¬ ((0 < y /\ y < 15) /\ 1 <= y % 8 /\ y % 8 <= 6) -> X h':= fun no => qf _ i1 (ng fun q => q.elim c4 no)
   have good : ((0 < y /\ y < 15) /\ 1 <= y % 8 /\ y % 8 <= 6) -> ∀ l', get 47 l' = some (.ref A.p) -> get 8 l' = some (.ref S.g) -> get 16 l' = some (.ref a) -> get 15 l' = some (.ref b) -> get 44 l' = some (.int y) -> get 38 l' = some (.int (i : Nat)) ->
     wp (exec tab (run tab (n + 2)) (.seq (.augsub (.loc 16) (.call 45 (.cons (.loc 44) .nil)) .or (.bin .shl (.int 1) (.loc 38))) (.seq (.augsub (.loc 15) (.call 43 (.cons (.loc 44) .nil)) .or (.bin .shl (.int 1) (.loc 38))) .nil)) l') h'
      (fun p h3 => p.1 = .next /\ Ext h h3 /\ h3[a]? = some (.lst (il (kLi ck (i + 1)))) /\ h3[b]? = some (.lst (il (sLi ck (i + 1)))) /\ (get 47 p.2 = some (.ref A.p) /\ get 8 p.2 = some (.ref S.g) /\ get 16 p.2 = some (.ref a) /\ get 15 p.2 = some (.ref b)) /\ ∀ j, j < i + 1 -> (v.board[j]? = some (gd ck j : Int)) /\ (gd ck j = 0 \/ gd ck j ∈ men)) X:= by
    refine oAA <| oA fun q1 q2 q3 q4 l' g1 g2 g3 g4 g5 g6 => ?_
    refine oA (fun hm ey => ?_) (man_of q1 q2 q3 q4)
    rw [<- hg] at hm ey
    refine yE (fun m1 m2 m3 m4 m5 => ?_) (xD hm)
    rw [<- ey] at g5
    cbv; refine vW ?_
    rw [(ks8 _).1]
    cbv; refine zF (.inl i2) (by exact zK) (by exact yP m2 rfl) (tU (by rw [toN]; exact nF ck i (by exact jH m2 rfl))) ?_
    cbv; refine wC (by exact zK) (by exact lR (yH hi' B1) rfl) rfl ?_
    rw [sh1]
    cbv; rw [bOr, jf]
    cbv; refine wA i2 (by exact zK) (by rw [List.length_map, pZ]; exact yP m2 rfl) (by exact yP m2 rfl) ?_
    rw [qS, toN, <- fW rfl hm]
    have j1:= i1.set ha (.lst (il (kLi ck (i + 1))))
    have j2:= zS (x:= .lst (il (kLi ck (i + 1)))) i2
    have j3:= zD (x:= .lst (il (kLi ck (i + 1)))) i3 hab.symm
    generalize List.set h' a (.lst (il (kLi ck (i + 1)))) = h3 at j1 j2 j3 ⊢
    cbv; refine tB (by exact zK) ?_
    rw [(ks8 _).2]
    cbv; refine zF (.inl j3) (by exact zK) (by exact yP m3 rfl) (tU (by rw [toN]; exact bB ck i (by exact jH m3 rfl))) ?_
    cbv; refine wC (by exact zK) (by exact lR (yH hi' B1) rfl) rfl ?_
    rw [sh1]
    cbv; rw [bOr, jf]
    cbv; refine wA j3 (by exact zK) (by rw [List.length_map]; simp [sLi]; lia) (by lia) ?_
    rw [qS, toN, <- gT rfl hm]
    cbv; refine ⟨rfl, j1.set hb _, zD j2 hab, zS j3, ⟨g1, g2, g3, g4⟩, fun j hj => ?_⟩
    by_cases ej : j = i
    ·
     subst ej; rw [eget, ey]; exact ⟨rfl, .inr hm⟩
    ·
     exact i8 j (by lia)
   cbv; refine zB (fun d1 => ?_) fun d1 => ?_
   ·
    cbv; by_cases d2 : y < 15
    ·
     rw [eTr d2]
     cbv; try refine vZ (fun c => by cases c) fun _ => ?_
     cbv; refine vW ?_
     cbv; refine zB (fun d3 => ?_) fun d3 => ?_
     ·
      cbv; by_cases d4 : y % 8 <= 6
      ·
       rw [eTr d4]
       iterate 4 walk_at "st"
       refine uW (good ⟨⟨d1, d2⟩, d3, d4⟩ _ ?_ ?_ ?_ ?_ ?_ ?_) (fun p h3 q => by obtain ⟨f, l'⟩:= p; revert q; refine oA fun t00 q => ?_; obtain rfl:= t00; exact q) fun _ q => q
       all_goals walk_at "lc"
      ·
       rw [eFa d4]
       cbv; try refine jI rfl ?_
       cbv; exact bad fun q => d4 q.2.2
     ·
      cbv; cbv
      try refine jI rfl ?_
      cbv; exact bad fun q => d3 q.2.1
    ·
     rw [eFa d2]
     cbv; try refine vZ (fun _ => ?_) fun c => by cases c
     cbv; exact bad fun q => d2 q.1.2
   ·
    cbv; cbv
    try refine vZ (fun _ => ?_) fun c => by cases c
    cbv; exact bad fun q => d1 q.1.1
 ·
  revert I; refine yE fun i1 i2 i3 => yW fun i4 i5 i6 i7 i8 => ?_
  rw [List.length_map, List.length_range, <- hlen] at i2 i3 i8
  rw [bV] at i2
  rw [bC] at i3
  have hv : Val ck:= fun c hc => by
   obtain ⟨j, hj, e⟩:= List.getElem_of_mem hc
   have:= (i8 j hj).2
   have g:= xN hj
   rw [List.getElem?_eq_getElem hj, e] at g
   rw [<- Option.some.inj g] at this
   exact this
  have hbd : v.board = cI ck:= List.ext_getElem? fun j => by
   by_cases hj : j < ck.length
   ·
    rw [(i8 j hj).1, yG hj]
   ·
    rw [List.getElem?_eq_none (by lia), List.getElem?_eq_none (by rw [zN]; exact uM hj)]
  refine vO (fun ks ek ek1 ek2 ek3 => ?_) R.kinds
  refine vO (fun ss es es1 es2 es3 => ?_) R.sides
  have el1 : ks.length = 7:= by rw [ek, zN] at c2; exact c2
  have el2 : ss.length = 2:= by rw [es, zN] at c3; exact c3
  have p22 : 2 ^ ck.length <= 2 ^ 22:= Nat.pow_le_pow_right (by decide) (by exact yB (jO hlen sz) rfl)
  have good : (sB ck 0 = gd ss 0 /\ sB ck 1 = gd ss 1) -> (∀ k, k < 7 -> kB ck k = gd ks k) -> Boards S v ck:= fun q1 q2 => by
   refine ⟨hlen, hv, hbd, ek.trans (List.ext_getElem? fun k => ?_), es.trans (List.ext_getElem? fun k => ?_)⟩
   ·
    by_cases hk : k < 7
    ·
     rw [wH _ hk, yG (by exact yH hk ek2), q2 k hk]
    ·
     rw [List.getElem?_eq_none (by rw [zN]; exact jO el1 (uM hk)), List.getElem?_eq_none (by rw [pA]; exact uM hk)]
   ·
    by_cases hk : k < 2
    ·
     rw [uC _ hk, yG (by exact yH hk es2)]
     have : k = 0 \/ k = 1:= by lia
     rcases this with rfl | rfl
     ·
      rw [q1.1]
     ·
      rw [q1.2]
    ·
     rw [List.getElem?_eq_none (by rw [zN]; exact jO el2 (uM hk)), List.getElem?_eq_none (by simp [sL]; exact uM hk)]
  have back : ∀ cs, Boards S v cs -> (sB ck 0 = gd ss 0 /\ sB ck 1 = gd ss 1) /\ (∀ k, k < 7 -> kB ck k = gd ks k):= fun cs b => by
   have e1 : cs = ck:= cG (b.b.symm.trans hbd)
   subst e1
   have e2:= b.k.symm.trans ek
   have e3:= b.s.symm.trans es
   refine ⟨⟨?_, ?_⟩, fun k hk => ?_⟩
   ·
    have:= congrArg (fun l => l[0]?) e3
    rw [uC _ (by decide), yG (by exact yY es2 rfl)] at this
    exact Int.ofNat.inj (Option.some.inj this)
   ·
    have:= congrArg (fun l => l[1]?) e3
    rw [uC _ (by decide), yG (by exact yY es2 rfl)] at this
    exact Int.ofNat.inj (Option.some.inj this)
   ·
    have:= congrArg (fun l => l[k]?) e2
    rw [wH _ hk, yG (by exact yH hk ek2)] at this
    exact Int.ofNat.inj (Option.some.inj this)
  have xx:= x.ext i1
  have lts : ∀ k, k < 2 -> gd ss k < 2 ^ 22:= fun k hk => aD es1 (by exact yH hk es2)
  have ltk : ∀ k, k < 7 -> gd ks k < 2 ^ 22:= fun k hk => aD ek1 (by exact yH hk ek2)
  cbv; refine zF (.inl i3) (by decide) (by decide) (tU (x:= (sB ck 0 : Int)) rfl) ?_
  cbv; refine zA xx.pos rfl ?_
  cbv; refine xA (y:= (gd ss 0 : Nat)) xx (by decide) (by rw [es]; exact yG (by exact yY es2 rfl)) (by decide) ?_
  cbv; refine zF (.inl i3) (by decide) (by decide) (tU (x:= (sB ck 1 : Int)) rfl) ?_
  cbv; refine zA xx.pos rfl ?_
  cbv; refine xA (y:= (gd ss 1 : Nat)) xx (by decide) (by rw [es]; exact yG (by exact yY es2 rfl)) (by decide) ?_
  cbv; rw [tY, tY, bOr]
  cbv; refine xS rfl ?_
  cbv; refine jR zC (by decide) ?_
  cbv; refine xK (h:= _) (l:= _) _ (fun k l h2 => Ext h' h2 /\ (get 47 l = some (.ref A.p) /\ get 8 l = some (.ref S.g) /\ get 16 l = some (.ref a)) /\ ∃ W : Nat, get 71 l = some (.int (W : Nat)) /\ W < 2 ^ 22 /\ (W = 0 ↔ (sB ck 0 = gd ss 0 /\ sB ck 1 = gd ss 1) /\ ∀ j, j < k -> kB ck j = gd ks j)) (by simp) (fun _ _ _ _ => rfl) (fun k l h2 y hv1 I => ?_) (fun l h2 I => ?_)
   ⟨Ext.app h' _, ⟨by walk_at "lc", by walk_at "lc", by walk_at "lc"⟩, _, get_put_eq, Nat.or_lt_two_pow (Nat.xor_lt_two_pow (Nat.lt_of_lt_of_le (gr _ _) p22) (lts 0 (by decide))) (Nat.xor_lt_two_pow (Nat.lt_of_lt_of_le (gr _ _) p22) (lts 1 (by decide))), by
    rw [Nat.or_eq_zero_iff, nL, nL]
    exact ⟨fun q => ⟨q, fun j hj => by exact gD hj⟩, fun q => q.1⟩⟩
  ·
   refine oA (fun hk t01 => ?_) (xW hv1); obtain rfl:= t01
   have hk : k < 7:= hk
   revert I; refine qM fun j1 => oAA fun j2 j3 j4 W j5 j6 j7 => ?_
   have x2:= xx.ext j1
   cbv; refine zF (.inl (j1 _ _ i2)) (by exact zK) (by exact xJ hk rfl) (tU (by rw [toN]; exact wH ck hk)) ?_
   cbv; refine zA x2.pos rfl ?_
   cbv; refine xP (y:= (gd ks k : Nat)) x2 (by exact zK) (by rw [ek, toN]; exact yG (by exact yH hk ek2)) (by exact xJ hk rfl) ?_
   cbv; rw [tY, bOr]
   refine ⟨j1, ⟨by walk_at "lc", by walk_at "lc", by walk_at "lc"⟩, _, get_put_eq, Nat.or_lt_two_pow j6 (Nat.xor_lt_two_pow (Nat.lt_of_lt_of_le (jz _ _) p22) (ltk k hk)), ?_⟩
   rw [Nat.or_eq_zero_iff, nL, j7]
   constructor
   ·
    refine oA <| oA fun q1 q2 q3 => ?_
    refine ⟨q1, fun j hj => ?_⟩
    by_cases e : j = k
    ·
     rw [e]; exact q3
    ·
     exact q2 j (by exact md hj e)
   ·
    refine oA fun q1 q2 => ?_
    exact ⟨⟨q1, fun j hj => q2 j (by exact yH hj vM)⟩, q2 k (by lia)⟩
  ·
   revert I; refine qM fun j1 => oAA fun j2 j3 j4 W j5 j6 j7 => ?_
   have j7 : W = 0 ↔ (sB ck 0 = gd ss 0 /\ sB ck 1 = gd ss 1) /\ ∀ j, j < 7 -> kB ck j = gd ks j:= j7
   have i2':= i1.trans j1
   have bad : W ≠ 0 -> X h2:= fun q => qf _ i2' fun cs b => q (j7.mpr (back cs b))
   cbv; refine zT (fun c => by exact gD (cp c)) fun _ => ?_
   cbv; refine zA ((hx.trans i2') _ _ hS.geo) hS.g12 ?_
   cbv; refine zB (fun c => ?_) fun c => ?_
   ·
    cbv; exact bad fun q => by subst q; exact gD (cp c)
   ·
    cbv; rw [bc]
    cbv; refine zB (fun d => ?_) fun d => ?_
    ·
     cbv; refine mP (by exact oF j6 rfl) (fun i => ?_) d
     exact bad d
    ·
     have d:= Decidable.of_not_not d
     refine oA (fun q1 q2 => ?_) (j7.mp d)
     cbv; exact qt _ _ i2' (good q1 q2)
end
noncomputable def U (ck : List Nat) (m : Nat) : Prop:= ∃ i, i < ck.length /\ gd ck i = m /\ ∀ j, j < ck.length -> gd ck j = m -> j = i
theorem tP {b : Nat} (hb : b ≠ 0) : ∃ i, b.testBit i = true /\ ∀ j, j < i -> b.testBit j = false:= by
 have key : ∀ k, (∃ i, i < k /\ b.testBit i = true) -> ∃ i, b.testBit i = true /\ ∀ j, j < i -> b.testBit j = false:= by
  intro k
  induction k with
  | zero => refine oEA fun i hi _ => ?_; exact gD hi
  | succ k ih =>
   refine oEA fun i hi e => ?_
   by_cases w : ∃ i, i < k /\ b.testBit i = true
   ·
    exact ih w
   ·
    refine ⟨i, e, fun j hj => ?_⟩
    cases q : b.testBit j with
    | false => rfl
    | true => exact absurd ⟨j, by exact yH hj (me hi), q⟩ w
 have ex : ∃ i, b.testBit i = true:= by
  apply Classical.byContradiction
  intro no
  apply hb
  refine Nat.eq_of_testBit_eq fun i => ?_
  rw [Nat.zero_testBit]
  cases q : b.testBit i with
  | false => rfl
  | true => exact absurd ⟨i, q⟩ no
 revert ex; refine oE fun i e => ?_
 exact key (i + 1) ⟨i, by lia, e⟩
theorem mq {b i : Nat} (h1 : b.testBit i = true) (h2 : ∀ j, j < i -> b.testBit j = false) (h3 : b &&& (b - 1) = 0) : b = 2 ^ i:= by
 have e:= fP h1 h2
 generalize b / 2 ^ (i + 1) = a at e
 have hp : 0 < 2 ^ i:= Nat.pow_pos (by decide)
 have e1 : b - 1 = 2 ^ i * (2 * a) + (2 ^ i - 1):= by
  rw [e, Nat.mul_add, Nat.mul_one]; exact Nat.add_sub_assoc hp _
 have e2 : b = 2 ^ i * (2 * a + 1) + 0:= e
 have e3 : a = 0:= by
  refine Nat.eq_of_testBit_eq fun j => ?_
  rw [Nat.zero_testBit]
  have:= congrArg (fun x => x.testBit (i + (j + 1))) h3
  simp only [Nat.testBit_and, Nat.zero_testBit] at this
  rw [e1, Nat.testBit_two_pow_mul_add _ (ma hp)] at this
  have e4 : b.testBit (i + (j + 1)) = (2 * a + 1).testBit (j + 1):= by
   rw [e2, Nat.testBit_two_pow_mul_add _ hp, if_neg (by exact mh vM)]; congr 1; exact Nat.add_sub_cancel_left ..
  rw [e4, if_neg (by exact mh vM), show i + (j + 1) - i = j + 1 from Nat.add_sub_cancel_left .., Nat.testBit_succ, Nat.testBit_succ, show (2 * a + 1) / 2 = a by lia, show 2 * a / 2 = a by lia, Bool.and_self] at this
  exact this
 rw [e, e3]; simp
theorem uniq_bits {ck : List Nat} {m : Nat} : (mB ck m ≠ 0 /\ mB ck m &&& (mB ck m - 1) = 0) ↔ U ck m:= by
 constructor
 ·
  refine oA fun h1 h2 => ?_
  refine oEA (fun i a b => ?_) (tP h1)
  have e:= mq a b h2
  have bit : ∀ j, (decide (j < ck.length) && decide (gd ck j = m)) = decide (i = j):= fun j => by
   rw [<- Nat.testBit_two_pow (n:= i) (m:= j), <- e]; unfold mB; rw [yJ]
  have bi:= bit i
  simp at bi
  refine ⟨i, bi.1, bi.2, fun j hj ej => ?_⟩
  have:= bit j
  rw [eTr hj, eTr ej] at this
  have:= (decide_eq_true_eq.mp this.symm)
  exact this.symm
 ·
  refine xG fun i h1 h2 h3 => ?_
  have e : mB ck m = 2 ^ i:= by
   refine Nat.eq_of_testBit_eq fun j => ?_
   unfold mB
   rw [yJ, Nat.testBit_two_pow]
   by_cases q : i = j
   ·
    subst q; simp [h1, h2]
   ·
    have : (decide (j < ck.length) && decide (gd ck j = m)) = false:= by
     rw [Bool.and_eq_false_iff]
     by_cases w : j < ck.length
     ·
      right; exact eFa fun z => q (h3 j w z).symm
     ·
      left; exact eFa w
    rw [this, eFa q]
  rw [e]
  refine ⟨Nat.ne_of_gt (Nat.pow_pos (by decide)), ?_⟩
  rw [Nat.and_two_pow_sub_one_eq_mod, Nat.mod_self]
theorem mB_lt (ck : List Nat) (m : Nat) : mB ck m < 2 ^ ck.length:= sY _ _
section
variable {n : Nat} {h : Hp} {X : Hp -> Prop} {A : PA} {g z : Nat} {v : PV} {call : Call}
theorem more_w {b : Nat} (hb : b ≠ 0) {Q : V -> Hp -> Prop} (q : Q (.bool (decide (b &&& (b - 1) ≠ 0))) h) : wp (run tab (n + 1) 35 [.int b]) h Q X:= by
 refine zV (fn:= fn_more_than_one) rfl rfl ?_
 cbv; rw [show (b : Int) - 1 = ((b - 1 : Nat) : Int) by exact gB (ar11 (ar31 hb) rfl), oB]
 cbv; rw [bc]
 exact q
theorem lQ {S : SI} (sz : S.fg * S.rg <= 21) {ck : List Nat} (x : PosAt h A g z v) (B : Boards S v ck) {Q : V -> Hp -> Prop} (qt : ∀ h', Ext h h' -> U ck 6 -> U ck 14 -> Q .none h') (qf : ∀ h', Ext h h' -> ¬ (U ck 6 /\ U ck 14) -> X h') :
  wp (run tab (n + 2) 72 [.ref A.p]) h Q X:= by
 have hl:= B.len
 refine zV (fn:= fn_check_kings) rfl rfl ?_
 cbv; refine zG rfl ?_
 cbv; refine pH zC ?_
 cbv; refine xK (h:= _) (l:= _) _ (fun i l h' => Ext h h' /\ get 47 l = some (.ref A.p) /\ ∀ j, j < i -> U ck (j * 8 + 6)) (by simp) (fun _ _ _ _ => rfl) (fun i l h' y hv1 I => ?_) (fun l h' I => ?_) ⟨Ext.app h _, rfl, fun j hj => by exact gD hj⟩
 ·
  revert I; refine oAA fun i1 i2 i3 => ?_
  obtain ⟨hi, rfl⟩ : i < 2 /\ y = .int (i : Nat):= by
   match i, hv1 with
   | 0, hv1 => exact ⟨by decide, (Option.some.inj hv1).symm⟩
   | 1, hv1 => exact ⟨by decide, (Option.some.inj hv1).symm⟩
   | i + 2, hv1 => simp at hv1
  have bad : ¬ U ck (i * 8 + 6) -> X h':= fun no => qf _ i1 fun q => by
   have : i = 0 \/ i = 1:= by lia
   rcases this with rfl | rfl
   ·
    exact no q.1
   ·
    exact no q.2
  have p22 : mB ck (i * 8 + 6) < 2 ^ 32:= Nat.lt_of_lt_of_le (mB_lt _ _) (Nat.pow_le_pow_right (by decide) (by exact yB (jO hl sz) rfl))
  cbv; refine mG (a:= i) (b:= 6) (c:= (sB ck i : Int)) (d:= (kB ck 6 : Int)) (x.ext i1) (by rw [B.s]; exact uC ck hi) (by rw [B.k]; exact wH ck (by decide)) (by exact oF hi rfl) (by exact mf gC) ?_
  rw [oB, nJ (by decide) (by decide)]
  cbv; refine zB (fun c => ?_) fun c => ?_
  ·
   cbv; exact bad fun q => (uniq_bits.mpr q).1 (by exact wO c)
  ·
   have c : mB ck (i * 8 + 6) ≠ 0:= tJ c
   cbv; refine more_w c ?_
   cbv; refine zB (fun d => ?_) fun d => ?_
   ·
    cbv; refine kM (by exact ar31 c) p22 fun r _ _ => ?_
    exact bad fun q => d (uniq_bits.mpr q).2
   ·
    have d:= Decidable.of_not_not d
    cbv; refine ⟨i1, by walk_at "lc", fun j hj => ?_⟩
    by_cases e : j = i
    ·
     rw [e]; exact uniq_bits.mp ⟨c, d⟩
    ·
     exact i3 j (by exact md hj e)
 ·
  revert I; refine oAA fun i1 i2 i3 => ?_
  cbv; exact qt _ i1 (i3 0 (by decide)) (i3 1 (by decide))
theorem gW (f k s : Nat) : ((2 ^ f - 1) * 2 ^ k).testBit s = (decide (k <= s) && decide (s - k < f)):= by
 rw [Nat.testBit_mul_two_pow, Nat.testBit_two_pow_sub_one]
noncomputable def oR (S : SI) (ck : List Nat) : Prop:= ∃ s, s < S.fg * S.rg /\ (s < S.fg \/ S.fg * S.rg - S.fg <= s) /\ gd ck s % 8 = 1
theorem lP {h0 : Hp} {S : SI} (hS : Stat h0 S) (hx : Ext h0 h) {ck : List Nat} (x : PosAt h A S.g S.z v) (B : Boards S v ck) {Q : V -> Hp -> Prop} (qt : ¬ oR S ck -> Q .none h) (qf : oR S ck -> X h) :
  wp (run tab (n + 3) 74 [.ref A.p]) h Q X:= by
 have sz:= hS.sz
 have r3:= hS.r3
 have r8:= hS.r8
 have hl:= B.len
 refine oEA (fun xs e1 e2 => ?_) hS.rmk
 refine zV (fn:= fn_check_pawns) rfl rfl ?_
 cbv; refine zA x.pos rfl ?_
 cbv; refine zA x.pos rfl ?_
 cbv; refine xP (y:= (kB ck 1 : Int)) x (by decide) (by rw [B.k]; exact wH ck (by decide)) (by decide) ?_
 cbv; refine zA (hx _ _ hS.geo) hS.g32 ?_
 cbv; refine zF (.inl (hx _ _ e1)) (by decide) (by decide) (e2 0 (by exact yY r3 rfl)) ?_
 cbv; refine zA (hx _ _ hS.geo) hS.g32 ?_
 cbv; refine zA (hx _ _ hS.geo) hS.g23 ?_
 cbv; rw [show (S.rg : Int) - 1 = ((S.rg - 1 : Nat) : Int) by exact gB (cO r3 rfl)]
 cbv; refine zF (.inl (hx _ _ e1)) (by exact zK) (by exact yP (eW r8) rfl) (by rw [toN]; exact e2 (S.rg - 1) (ma (yY r3 rfl))) ?_
 cbv; rw [bOr, oB]
 cbv; rw [bc]
 have p22 : kB ck 1 &&& ((2 ^ S.fg - 1) * 2 ^ (0 * S.fg) ||| (2 ^ S.fg - 1) * 2 ^ ((S.rg - 1) * S.fg)) < 2 ^ 32:= Nat.lt_of_le_of_lt Nat.and_le_left (Nat.lt_of_lt_of_le (jz _ _) (Nat.pow_le_pow_right (by decide) (by exact yB (jO hl sz) rfl)))
 have e3 : (S.rg - 1) * S.fg = S.fg * S.rg - S.fg:= by rw [Nat.sub_mul, Nat.mul_comm, Nat.one_mul]
 have N1 : S.fg <= S.fg * S.rg:= Nat.le_mul_of_pos_right _ (by exact yY r3 rfl)
 have key : (kB ck 1 &&& ((2 ^ S.fg - 1) * 2 ^ (0 * S.fg) ||| (2 ^ S.fg - 1) * 2 ^ ((S.rg - 1) * S.fg)) ≠ 0) ↔ oR S ck:= by
  have bit : ∀ s, (kB ck 1 &&& ((2 ^ S.fg - 1) * 2 ^ (0 * S.fg) ||| (2 ^ S.fg - 1) * 2 ^ ((S.rg - 1) * S.fg))).testBit s = true ↔ s < S.fg * S.rg /\ (s < S.fg \/ S.fg * S.rg - S.fg <= s) /\ gd ck s % 8 = 1:= fun s => by
   rw [Nat.testBit_and, Nat.testBit_or, gW, gW, e3, Nat.zero_mul]
   unfold kB
   rw [yJ, hl]
   simp only [isK, Bool.and_eq_true, Bool.or_eq_true, decide_eq_true_eq, ne_eq]
   constructor
   ·
    refine oA <| oAA fun a b c d => ?_
    exact ⟨a, d.imp And.right And.left, c⟩
   ·
    refine oAA fun a b c => ?_
    exact ⟨⟨a, by lia, c⟩, b.imp (fun h => ⟨Nat.zero_le _, h⟩) fun h => ⟨h, ar66 h (by rw [ar65 N1]; exact a)⟩⟩
  constructor
  ·
   intro no
   refine oEA (fun s q _ => ?_) (tP no)
   exact ⟨s, (bit s).mp q⟩
  ·
   refine oE fun s q e => ?_
   have:= (bit s).mpr q
   rw [e, Nat.zero_testBit] at this
   contradiction
 cbv; refine zB (fun c => ?_) fun c => ?_
 ·
  cbv; refine mP p22 (fun i => ?_) c
  exact qf (key.mp c)
 ·
  cbv; exact qt fun q => c (key.mpr q)
noncomputable def qY (S : SI) (v : PV) (ck : List Nat) : Prop:= ∃ r : Nat, v.rights = (r : Int) /\ r < 16 /\ ∀ i, i < 4 -> r.testBit i = true -> yS S ck i = true
theorem lB {h0 : Hp} {S : SI} (hS : Stat h0 S) (hx : Ext h0 h) {ck : List Nat} (x : PosAt h A S.g S.z v) (B : Boards S v ck) {Q : V -> Hp -> Prop} (qt : ∀ h', Ext h h' -> qY S v ck -> Q .none h') (qf : ∀ h', Ext h h' -> ¬ qY S v ck -> X h') :
  wp (run tab (n + 2) 75 [.ref A.p]) h Q X:= by
 have sz:= hS.sz
 have hl:= B.len
 refine oEA (fun xs e1 e2 => ?_) hS.cst
 refine zV (fn:= fn_check_rights) rfl rfl ?_
 try refine yI ?_
 refine yD (fun l h' => h' = h /\ get 47 l = some (.ref A.p) /\ 0 <= v.rights /\ v.rights < 16) ?_ fun l1 h1 => yW fun eh g1 c1 c2 => ?_
 ·
  cbv; refine zA x.pos rfl ?_
  cbv; refine zB (fun c1 => ?_) fun c => ?_
  ·
   cbv; by_cases c2 : v.rights < 16
   ·
    rw [eTr c2]
    cbv; try refine yV rfl ?_
    cbv; exact ⟨rfl, rfl, c1, c2⟩
   ·
    rw [eFa c2]
    cbv; try refine jI rfl ?_
    cbv; exact qf _ (Ext.refl h) <| xG fun r q1 q2 _ => by lia
  ·
   cbv; cbv
   try refine jI rfl ?_
   cbv; exact qf _ (Ext.refl h) <| xG fun r q1 q2 _ => by exact at09 (as09 c) q1
 subst eh
 obtain ⟨r, er⟩ : ∃ r : Nat, v.rights = (r : Int):= ⟨v.rights.toNat, by lia⟩
 have hr : r < 16:= cp (as24 er c2)
 cbv; refine xS rfl ?_
 cbv; refine jR zC (by decide) ?_
 cbv; refine xK (h:= _) (l:= _) _ (fun i l h' => Ext h1 h' /\ get 47 l = some (.ref A.p) /\ ∀ j, j < i -> r.testBit j = true -> yS S ck j = true) (by simp) (fun _ _ _ _ => rfl) (fun i l h' y hv1 I => ?_) (fun l h' I => ?_) ⟨Ext.app h1 _, g1, fun j hj => by exact gD hj⟩
 ·
  refine oA (fun hi t01 => ?_) (xW hv1); obtain rfl:= t01
  have hi : i < 4:= hi
  revert I; refine oAA fun i1 i2 i3 => ?_
  have xx:= x.ext i1
  have hx':= hx.trans i1
  refine oAA (fun q1 q2 q3 => ?_) (hS.sq hi)
  have e2:= e2 i hi
  have next : (r.testBit i = true -> yS S ck i = true) -> ∀ j, j < i + 1 -> r.testBit j = true -> yS S ck j = true:= fun q j hj => by
   by_cases e : j = i
   ·
    rw [e]; exact q
   ·
    exact i3 j (by exact md hj e)
  have bad : r.testBit i = true -> yS S ck i = false -> X h':= fun a b => qf _ i1 <| xG fun r' w1 w2 w3 => by
   have : r' = r:= by lia
   subst this
   rw [w3 i hi a] at b; contradiction
  have etb : r &&& 2 ^ i ≠ 0 ↔ r.testBit i = true:= by
   constructor
   ·
    intro q
    refine oEA (fun s a _ => ?_) (tP q)
    rw [Nat.testBit_and, Nat.testBit_two_pow, Bool.and_eq_true, decide_eq_true_eq] at a
    rw [a.2]; exact a.1
   ·
    intro q e
    have:= congrArg (fun x => x.testBit i) e
    simp only [Nat.testBit_and, Nat.testBit_two_pow, Nat.zero_testBit, q, decide_true, Bool.and_self] at this
    contradiction
  cbv; refine zA xx.pos rfl ?_
  cbv; refine wC (by exact zK) (by exact lR hi rfl) rfl ?_
  rw [sh1, er]
  cbv; rw [oB]
  cbv; refine zB (fun c => ?_) fun c => ?_
  ·
   cbv; exact ⟨i1, by walk_at "lc", next fun q => absurd (show r &&& 2 ^ i = 0 by exact wO c) (etb.mpr q)⟩
  ·
   have tb:= etb.mp (show r &&& 2 ^ i ≠ 0 by exact tJ c)
   cbv; refine zA xx.pos rfl ?_
   cbv; refine zA (hx' _ _ hS.geo) hS.g27 ?_
   cbv; by_cases hw : (S.wg && S.room i) = true
   ·
    rw [if_pos hw] at e2
    revert e2; refine pS fun t b' d' e3 e4 => ?_
    have e4:= hx' _ _ e4
    cbv; refine zF (.inl (hx' _ _ e1)) (by exact zK) (by exact xJ hi rfl) (by rw [toN]; exact e3) ?_
    cbv; try refine yV rfl ?_
    cbv; refine zA xx.pos rfl ?_
    cbv; refine zF (v:= .int (S.kingSq i : Nat)) (.inr e4) (by decide) (by decide) rfl ?_
    cbv; refine xB (y:= (gd ck (S.kingSq i) : Nat)) xx (by exact zK) (by rw [B.b, toN]; exact yG (by exact uN hl q1)) (by exact xJ (yH q1 sz) rfl) ?_
    cbv; refine lS (by exact zK) (by decide) (by decide) ?_
    rw [show (i : Int) / 2 ^ (1 : Int).toNat = ((i / 2 : Nat) : Int) by rw [show (1 : Int).toNat = 1 from rfl]; lia]
    cbv; refine vT ?_
    cbv; refine zB (fun c => ?_) fun c1 => ?_
    ·
     cbv; refine zF (v:= .int (S.kingSq i : Nat)) (.inr e4) (by decide) (by decide) rfl ?_
     refine bad tb ?_
     unfold yS; rw [eFa (show ¬ gd ck (S.kingSq i) = _ by exact at06 c rfl)]; simp
    ·
     cbv; refine zA xx.pos rfl ?_
     cbv; refine zF (v:= .int (S.rookSq i : Nat)) (.inr e4) (by decide) (by decide) rfl ?_
     cbv; refine xB (y:= (gd ck (S.rookSq i) : Nat)) xx (by exact zK) (by rw [B.b, toN]; exact yG (by exact uN hl q2)) (by exact xJ (yH q2 sz) rfl) ?_
     cbv; refine lS (by exact zK) (by decide) (by decide) ?_
     rw [show (i : Int) / 2 ^ (1 : Int).toNat = ((i / 2 : Nat) : Int) by rw [show (1 : Int).toNat = 1 from rfl]; lia]
     cbv; refine vT ?_
     cbv; refine zB (fun c => ?_) fun c2 => ?_
     ·
      cbv; refine zF (v:= .int (S.rookSq i : Nat)) (.inr e4) (by decide) (by decide) rfl ?_
      refine bad tb ?_
      unfold yS; rw [eFa (show ¬ gd ck (S.rookSq i) = _ by exact at06 c rfl)]; simp
     ·
      cbv; refine ⟨i1, by walk_at "lc", next fun _ => ?_⟩
      unfold yS; rw [hw, eTr (show gd ck (S.kingSq i) = _ by exact at07 c1 rfl), eTr (show gd ck (S.rookSq i) = _ by exact at07 c2 rfl)]; rfl
   ·
    rw [if_neg hw] at e2
    cbv; refine zF (.inl (hx' _ _ e1)) (by exact zK) (by exact xJ hi rfl) (by rw [toN]; exact e2) ?_
    cbv; try refine jI rfl ?_
    cbv; refine bad tb ?_
    unfold yS; rw [Bool.eq_false_iff.mpr hw]; simp
 ·
  revert I; refine oAA fun i1 i2 i3 => ?_
  cbv; exact qt _ i1 ⟨r, er, hr, i3⟩
end
noncomputable def cR (S : SI) (v : PV) (ck : List Nat) (w : Nat) : Prop:= S.dv = true /\ ∃ f : Nat, f < 4 /\ v.ep = ((8 + f : Nat) : Int) /\ gd ck (8 + f) = 0 /\ gd ck (yK w f) = 0 /\ gd ck (zH w f) = 9 - 8 * w
noncomputable def attF (F w s t : Nat) : Bool:= (if w = 0 then decide (t / F = s / F + 1) else decide (t / F + 1 = s / F)) && (decide (t % F = s % F + 1) || decide (t % F + 1 = s % F))
theorem aq1 : ∀ w < 2, ∀ f < 4, ∀ t < 20, attF 4 (1 - w) (8 + f) t = true ↔ (1 <= f /\ t = zH w f - 1) \/ (f + 1 < 4 /\ t = zH w f + 1):= by decide +kernel
theorem sj {S : SI} (h4 : S.fg = 4) {ck : List Nat} (hl : ck.length = 20) {w f : Nat} (hw : w < 2) (hf : f < 4) : (bts (S.att (1 - w) (8 + f)) 20 &&& mB ck (w * 8 + 1) ≠ 0) ↔ 1 + 8 * w ∈ bes ck w f:= by
 have bit : ∀ t, (bts (S.att (1 - w) (8 + f)) 20 &&& mB ck (w * 8 + 1)).testBit t = true ↔ t < 20 /\ S.att (1 - w) (8 + f) t = true /\ gd ck t = w * 8 + 1:= fun t => by
  unfold mB
  rw [Nat.testBit_and, yJ, yJ, hl]
  simp only [Bool.and_eq_true, decide_eq_true_eq]
  exact ⟨oAA <| oA fun a b _ c => ⟨a, b, c⟩, oAA fun a b c => ⟨⟨a, b⟩, a, c⟩⟩
 have at' : ∀ t, t < 20 -> (S.att (1 - w) (8 + f) t = true ↔ (1 <= f /\ t = zH w f - 1) \/ (f + 1 < 4 /\ t = zH w f + 1)):= fun t ht => by
  show attF S.fg _ _ _ = true ↔ _
  rw [h4]
  exact aq1 w hw f hf t ht
 have hbes : 1 + 8 * w ∈ bes ck w f ↔ (1 <= f /\ gd ck (zH w f - 1) = w * 8 + 1) \/ (f + 1 < 4 /\ gd ck (zH w f + 1) = w * 8 + 1):= by
  unfold bes eS cK
  rw [List.mem_append]
  by_cases c1 : 1 <= f <;> by_cases c2 : f + 1 < 4 <;> simp [c1, c2] <;> lia
 have b20:= (aq2 w hw f hf).2.2
 have b0 : zH w f - 1 < 20:= tg (aq2 w hw f hf).1
 rw [hbes]
 constructor
 ·
  intro no
  refine oEA (fun t a _ => ?_) (tP no)
  refine oAA (fun q1 q2 q3 => ?_) ((bit t).mp a)
  rcases (at' t q1).mp q2 with ⟨u1, rfl⟩ | ⟨u1, rfl⟩
  ·
   exact .inl ⟨u1, q3⟩
  ·
   exact .inr ⟨u1, q3⟩
 ·
  intro q e
  have : ∃ t, t < 20 /\ S.att (1 - w) (8 + f) t = true /\ gd ck t = w * 8 + 1:= by
   rcases q with ⟨u1, u2⟩ | ⟨u1, u2⟩
   ·
    exact ⟨_, b0, (at' _ b0).mpr (.inl ⟨u1, rfl⟩), u2⟩
   ·
    exact ⟨_, b20 u1, (at' _ (b20 u1)).mpr (.inr ⟨u1, rfl⟩), u2⟩
  revert this; refine oE fun t r => ?_
  have:= (bit t).mpr r
  rw [e, Nat.zero_testBit] at this
  contradiction
section
variable {n : Nat} {h : Hp} {X : Hp -> Prop} {A : PA} {g z : Nat} {v : PV} {call : Call}
theorem eE {h0 : Hp} {S : SI} (hS : Stat h0 S) (hx : Ext h0 h) {ck : List Nat} (x : PosAt h A S.g S.z v) (B : Boards S v ck) {w : Nat} (hw : w < 2) (hsd : v.side = (w : Int)) {Q : V -> Hp -> Prop} (qt : cR S v ck w -> Q (.bool true) h) (qf : ¬ cR S v ck w -> Q (.bool false) h) :
  wp (run tab (n + 2) 65 [.ref A.p, .int v.ep]) h Q X:= by
 have sz:= hS.sz
 have hl:= B.len
 refine zV (fn:= fn_ep_stands) rfl rfl ?_
 cbv; refine zA x.pos rfl ?_
 try refine yI ?_
 refine yD (fun l h' => h' = h /\ (get 47 l = some (.ref A.p) /\ get 38 l = some (.int v.ep) /\ get 8 l = some (.ref S.g)) /\ S.dv = true /\ 0 <= v.ep /\ v.ep < (S.fg * S.rg : Nat)) ?_ fun l1 h1 => yE fun eh => oAA fun g1 g2 g3 c1 c2 c3 => ?_
 ·
  cbv; refine zA (hx _ _ hS.geo) hS.g24 ?_
  cbv; refine vZ (fun c => ?_) fun c1 => ?_
  ·
   cbv; cbv
   exact qf fun q => by rw [q.1] at c; contradiction
  ·
   have c1 : S.dv = true:= by simpa using c1
   cbv; refine zT (fun c => ?_) fun c2 => ?_
   ·
    cbv; cbv
    exact qf <| uE fun _ f q1 q2 _ => by exact at09 c q2
   ·
    cbv; refine zA (hx _ _ hS.geo) hS.g19 ?_
    cbv; refine zB (fun c => ?_) fun c3 => ?_
    ·
     cbv; refine qf <| uE fun _ f q1 q2 _ => ?_
     refine oA (fun d1 d2 => ?_) (hS.dbl c1)
     rw [d1, d2] at c
     lia
    ·
     cbv; exact ⟨rfl, ⟨rfl, rfl, rfl⟩, c1, by exact ch c2, by exact as09 c3⟩
 subst eh
 refine oA (fun d1 d2 => ?_) (hS.dbl c1)
 rw [d1, d2] at c3 hl
 have hl : ck.length = 20:= hl
 have G22 : get 22 S.gf = some (.int (4 : Nat)):= by rw [hS.g22, d1]
 have G23 : get 23 S.gf = some (.int (5 : Nat)):= by rw [hS.g23, d2]
 try refine yI ?_
 refine yD (fun l h' => h' = h1 /\ (get 47 l = some (.ref A.p) /\ get 38 l = some (.int v.ep) /\ get 8 l = some (.ref S.g) /\ get 68 l = some (.int 2))) ?_ fun l2 h2 => yE fun eh g1 g2 g3 g4 => ?_
 ·
  cbv; exact ⟨rfl, by walk_at "lc", by walk_at "lc", by walk_at "lc", by walk_at "lc"⟩
 subst eh
 try refine yI ?_
 refine yD (fun l h' => h' = h2 /\ (get 47 l = some (.ref A.p) /\ get 38 l = some (.int v.ep) /\ get 8 l = some (.ref S.g) /\ get 68 l = some (.int 2) /\ get 67 l = some (.int (-4)))) ?_ fun l3 h3 => wG fun eh g1 g2 g3 g4 g5 => ?_
 ·
  cbv; refine zA (hx _ _ hS.geo) G22 ?_
  cbv; exact ⟨rfl, by walk_at "lc", by walk_at "lc", by walk_at "lc", by walk_at "lc", get_put_eq⟩
 subst eh
 try refine yI ?_
 refine yD (fun l h' => h' = h3 /\ (get 47 l = some (.ref A.p) /\ get 38 l = some (.int v.ep) /\ get 8 l = some (.ref S.g) /\ get 68 l = some (.int 2) /\ get 67 l = some (.int (if w = 1 then -4 else 4)))) ?_ fun l4 h4 => wG fun eh g1 g2 g3 g4 g5 => ?_
 ·
  cbv; refine zA x.pos rfl ?_
  rw [hsd]
  cbv; refine zB (fun c => ?_) fun c => ?_
  ·
   cbv; refine zA (hx _ _ hS.geo) G23 ?_
   cbv; refine zA (hx _ _ hS.geo) G22 ?_
   cbv; refine ⟨rfl, by walk_at "lc", by walk_at "lc", by walk_at "lc", uI (by decide) get_put_eq, ?_⟩
   rw [if_neg (by lia)]; exact get_put_eq
  ·
   cbv; refine ⟨rfl, g1, g2, g3, g4, ?_⟩
   rw [if_pos (by lia)]; exact g5
 subst eh
 generalize hah : (if w = 1 then (-4 : Int) else 4) = ah at g5
 cbv; refine zA (hx _ _ hS.geo) G22 ?_
 cbv; refine yL (by decide) (by decide) ?_
 cbv; refine zB (fun c => ?_) fun c => ?_
 ·
  cbv; refine qf <| uE fun _ f q1 q2 _ => c ?_
  rw [q2]; exact aq12 f q1
 have c:= Decidable.of_not_not c
 obtain ⟨f, hf, ef⟩ : ∃ f : Nat, f < 4 /\ v.ep = ((8 + f : Nat) : Int):= ⟨_, ep8 c⟩
 have wa : ((8 + f : Nat) : Int) + ah = ((yK w f : Nat) : Int):= by rw [<- hah]; exact aq9 w hw f hf
 have wb : ((8 + f : Nat) : Int) - ah = ((zH w f : Nat) : Int):= by rw [<- hah]; exact aq10 w hw f hf
 have a1 : yK w f < 20:= aq3 w hw f hf
 have b1 : zH w f < 20:= (aq2 w hw f hf).1
 have cg : ∀ s, s < 20 -> v.board[((s : Nat) : Int).toNat]? = some ((gd ck s : Nat) : Int):= fun s hs => by rw [B.b, toN]; exact yG (by exact uN hl hs)
 have st : cR S v ck w -> gd ck (8 + f) = 0 /\ gd ck (yK w f) = 0 /\ gd ck (zH w f) = 9 - 8 * w:= uE fun _ f' q1 q2 q3 => by
  have : f' = f:= at08 ef q2
  subst this; exact q3
 rw [ef] at g2
 cbv; refine zA x.pos rfl ?_
 cbv; refine xB (y:= (gd ck (8 + f) : Nat)) x (by exact zK) (cg _ (by exact oF (cN hf) rfl)) (by exact xJ (cN hf) rfl) ?_
 cbv; refine zT (fun d => ?_) fun d1 => ?_
 ·
  cbv; cbv
  exact qf fun q => d (by rw [(st q).1]; rfl)
 cbv; refine zA x.pos rfl ?_
 cbv; rw [wa]
 cbv; refine xB (y:= (gd ck (yK w f) : Nat)) x (by exact zK) (cg _ a1) (by exact xJ a1 rfl) ?_
 cbv; refine zB (fun d => ?_) fun d2 => ?_
 ·
  cbv; exact qf fun q => d (by rw [(st q).2.1]; rfl)
 cbv; refine zA x.pos rfl ?_
 cbv; rw [wb]
 cbv; refine xB (y:= (gd ck (zH w f) : Nat)) x (by exact zK) (cg _ b1) (by exact xJ b1 rfl) ?_
 cbv; refine zA x.pos rfl ?_
 rw [hsd]
 cbv; refine vT ?_
 cbv; by_cases d3 : gd ck (zH w f) = 9 - 8 * w
 ·
  rw [eTr (by rw [d3]; exact aq13 w hw)]
  exact qt ⟨c1, f, hf, ef, by exact qW d1, by exact qW d2, d3⟩
 ·
  rw [eFa fun e => d3 (Int.ofNat.inj (e.trans (aq13 w hw).symm))]
  exact qf fun q => d3 (st q).2.2
theorem lN {h0 : Hp} {S : SI} (hS : Stat h0 S) (hx : Ext h0 h) {ck : List Nat} (x : PosAt h A S.g S.z v) (B : Boards S v ck) {w f : Nat} (hw : w < 2) (hf : f < 4) (hsd : v.side = (w : Int)) (hd : S.dv = true) {Q : V -> Hp -> Prop} (q : Q (.bool (decide (1 + 8 * w ∈ bes ck w f))) h) :
  wp (run tab (n + 2) 69 [.ref A.p, .int (8 + f : Nat)]) h Q X:= by
 refine oA (fun d1 d2 => ?_) (hS.dbl hd)
 have hl : ck.length = 20:= by rw [B.len, d1, d2]
 refine oEA (fun xs e1 e2 => ?_) (hS.pwn (1 - w) (by exact at32))
 rw [d1, d2] at e2
 refine zV (fn:= fn_ep_attacked) rfl rfl ?_
 cbv; refine zA x.pos rfl ?_
 cbv; refine zA (hx _ _ hS.geo) hS.g28 ?_
 cbv; refine zA x.pos rfl ?_
 rw [hsd]
 cbv; rw [show (1 : Int) - (w : Nat) = ((1 - w : Nat) : Int) by exact gB (cr hw rfl)]
 cbv; refine zF (v:= .ref (if 1 - w = 0 then S.p0 else S.p1)) (.inl (hx _ _ hS.pwl)) (by exact zK) (by exact at33 rfl) (by
  have : w = 0 \/ w = 1:= by lia
  rcases this with rfl | rfl <;> rfl) ?_
 cbv; refine zF (.inl (hx _ _ e1)) (by exact zK) (by exact xJ (cN hf) rfl) (by rw [toN]; exact e2 (8 + f) (by exact oF (cN hf) rfl)) ?_
 cbv; refine zA x.pos rfl ?_
 rw [hsd]
 cbv; refine mG (a:= w) (b:= 1) (c:= (sB ck w : Int)) (d:= (kB ck 1 : Int)) x (by rw [B.s]; exact uC ck hw) (by rw [B.k]; exact wH ck (by decide)) (by exact oF hw rfl) (by exact mf gC) ?_
 rw [oB, nJ (by decide) (by decide)]
 cbv; rw [oB]
 cbv; rw [bc]
 have key:= sj d1 hl hw hf
 by_cases c : 1 + 8 * w ∈ bes ck w f
 ·
  rw [eTr (key.mpr c)]
  rw [eTr c] at q; exact q
 ·
  rw [eFa fun z => c (key.mp z)]
  rw [eFa c] at q; exact q
noncomputable def nh (S : SI) (v : PV) (ck : List Nat) (w : Nat) : Prop:= v.ep = -1 \/ ∃ e : Nat, v.ep = (e : Int) /\ e ∈ jB S ck w
theorem mem_passed {S : SI} {ck : List Nat} {w e : Nat} : e ∈ jB S ck w ↔ S.dv = true /\ ∃ f, f < 4 /\ e = 8 + f /\ wV ck w f = true:= by
 unfold jB vK
 split
 ·
  rename_i hd
  rw [List.mem_map]
  simp only [List.mem_filter, List.mem_range]
  exact ⟨oEA fun f => oA fun a b c => ⟨hd, f, a, c.symm, b⟩, uE fun _ f a b c => ⟨f, ⟨a, c⟩, b.symm⟩⟩
 ·
  rename_i hd
  exact ⟨(fun q => by cases q), fun q => absurd q.1 hd⟩
theorem passOk_is {ck : List Nat} {w f : Nat} : wV ck w f = true ↔ (gd ck (8 + f) = 0 /\ gd ck (yK w f) = 0 /\ gd ck (zH w f) = 9 - 8 * w) /\ 1 + 8 * w ∈ bes ck w f:= by
 unfold wV
 simp only [Bool.and_eq_true, decide_eq_true_eq]
 exact ⟨oA <| oA <| oA fun a b c d => ⟨⟨a, b, c⟩, d⟩, oA <| oAA fun a b c d => ⟨⟨⟨a, b⟩, c⟩, d⟩⟩
theorem cF {h0 : Hp} {S : SI} (hS : Stat h0 S) (hx : Ext h0 h) {ck : List Nat} (x : PosAt h A S.g S.z v) (B : Boards S v ck) {w : Nat} (hw : w < 2) (hsd : v.side = (w : Int)) {Q : V -> Hp -> Prop} (qt : nh S v ck w -> Q .none h) (qf : ¬ nh S v ck w -> X h) :
  wp (run tab (n + 3) 79 [.ref A.p]) h Q X:= by
 refine zV (fn:= fn_check_ep) rfl rfl ?_
 cbv; refine zA x.pos rfl ?_
 cbv; refine zB (fun c => ?_) fun c0 => ?_
 ·
  cbv; exact qt (.inl c)
 cbv; refine zA x.pos rfl ?_
 cbv; refine eE hS hx x B hw hsd (fun st => ?_) fun st => ?_
 ·
  revert st; refine uE fun hd f hf ef s1 => ?_
  cbv; try refine yV rfl ?_
  cbv; refine zA x.pos rfl ?_
  rw [ef]
  cbv; refine lN hS hx x B hw hf hsd hd ?_
  cbv; by_cases c : 1 + 8 * w ∈ bes ck w f
  ·
   rw [eTr c]
   cbv; try refine yV rfl ?_
   cbv; exact qt (.inr ⟨8 + f, ef, mem_passed.mpr ⟨hd, f, hf, rfl, passOk_is.mpr ⟨s1, c⟩⟩⟩)
  ·
   rw [eFa c]
   cbv; try refine jI rfl ?_
   cbv; refine zA x.pos rfl ?_
   refine qf fun q => ?_
   rcases q with q | ⟨e, q1, q2⟩
   ·
    exact c0 q
   ·
    refine uE (fun _ f' m1 m2 m3 => ?_) (mem_passed.mp q2)
    have : f' = f:= by lia
    subst this
    exact c (passOk_is.mp m3).2
 ·
  cbv; cbv
  try refine jI rfl ?_
  cbv; refine zA x.pos rfl ?_
  refine qf fun q => ?_
  rcases q with q | ⟨e, q1, q2⟩
  ·
   exact c0 q
  ·
   refine uE (fun hd f' m1 m2 m3 => ?_) (mem_passed.mp q2)
   exact st ⟨hd, f', m1, by rw [q1, m2], (passOk_is.mp m3).1⟩
structure Good (S : SI) (v : PV) (ck : List Nat) (w : Nat) : Prop where
 hw : w < 2
 side : v.side = (w : Int)
 half : 0 <= v.half
 full : 1 <= v.full
 B : Boards S v ck
 k0 : U ck 6
 k1 : U ck 14
 pawns : ¬ oR S ck
 rights : qY S v ck
 ep : nh S v ck w
theorem sX {h0 : Hp} {S : SI} (hS : Stat h0 S) (hx : Ext h0 h) (x : PosAt h A S.g S.z v) (R : Rough S v) {Q : V -> Hp -> Prop} (qt : ∀ h' ck w, Ext h h' -> Good S v ck w -> Q .none h') (qf : ∀ h', Ext h h' -> (∀ ck w, ¬ Good S v ck w) -> X h') :
  wp (run tab (n + 4) 80 [.ref A.p]) h Q X:= by
 have sz:= hS.sz
 refine zV (fn:= fn_check_position) rfl rfl ?_
 try refine yI ?_
 refine yD (fun l h' => h' = h /\ get 47 l = some (.ref A.p) /\ ∃ w : Nat, w < 2 /\ v.side = (w : Int)) ?_ fun l1 h1 => tC fun eh g1 w hw hsd => ?_
 ·
  cbv; refine zA x.pos rfl ?_
  cbv; refine wS (fun c => ?_) fun c => ?_
  ·
   cbv; refine zA x.pos rfl ?_
   cbv; refine zB (fun c' => ?_) fun c' => ?_
   ·
    cbv; exact qf _ (Ext.refl h) fun ck w G => by have:= G.hw; have:= G.side; lia
   ·
    cbv; exact ⟨rfl, rfl, 1, by decide, by lia⟩
  ·
   cbv; cbv
   exact ⟨rfl, rfl, 0, by decide, by lia⟩
 subst eh
 have same : ∀ {ck w'}, Good S v ck w' -> w' = w:= fun G => by have:= G.side; lia
 cbv; refine zA x.pos rfl ?_
 cbv; refine zT (fun c => ?_) fun c1 => ?_
 ·
  cbv; cbv
  exact qf _ (Ext.refl _) fun ck w G => by have:= G.half; exact sm c this
 cbv; refine zA x.pos rfl ?_
 cbv; refine zB (fun c => ?_) fun c2 => ?_
 ·
  cbv; exact qf _ (Ext.refl _) fun ck w G => by have:= G.full; exact sm c this
 cbv; refine lC hS hx x R (fun h2 ck k2 B => ?_) fun h2 k2 no => ?_
 ·
  have cellsEq : ∀ {cs w'}, Good S v cs w' -> cs = ck:= fun G => cG (G.B.b.symm.trans B.b)
  cbv; refine lQ sz (x.ext k2) B (fun h3 k3 u1 u2 => ?_) fun h3 k3 no => ?_
  ·
   have k23:= k2.trans k3
   cbv; refine lP hS (hx.trans k23) (x.ext k23) B (fun pw => ?_) fun pw => ?_
   ·
    cbv; refine lB hS (hx.trans k23) (x.ext k23) B (fun h4 k4 ro => ?_) fun h4 k4 ro => ?_
    ·
     have k24:= k23.trans k4
     cbv; refine cF hS (hx.trans k24) (x.ext k24) B hw hsd (fun eo => ?_) fun eo => ?_
     ·
      cbv; exact qt _ ck w k24 ⟨hw, hsd, by exact ch c1, by exact ch c2, B, u1, u2, pw, ro, eo⟩
     ·
      exact qf _ k24 fun cs w' G => by
       have e1:= cellsEq G
       have e2:= same G
       subst e1 e2
       exact eo G.ep
    ·
     exact qf _ (k23.trans k4) fun cs w' G => by
      have e1:= cellsEq G
      subst e1
      exact ro G.rights
   ·
    exact qf _ k23 fun cs w' G => by
     have e1:= cellsEq G
     subst e1
     exact G.pawns pw
  ·
   exact qf _ (k2.trans k3) fun cs w' G => by
    have e1:= cellsEq G
    subst e1
    exact no ⟨G.k0, G.k1⟩
 ·
  exact qf _ k2 fun cs w' G => no cs G.B
theorem uX {h0 : Hp} {S : SI} (hS : Stat h0 S) (hx : Ext h0 h) (x : PosAt h A S.g S.z v) (R : Rough S v) {Q : V -> Hp -> Prop} (qt : ∀ h' ck w, Ext h h' -> Good S v ck w -> Q (.bool false) h') (qf : ∀ h', Ext h h' -> (∀ ck w, ¬ Good S v ck w) -> Q (.bool true) h') :
  wp (run tab (n + 5) 146 [.ref A.p]) h Q X:= by
 refine zV (fn:= fn_law_refused) rfl rfl ?_
 cbv; refine sX hS hx x R (fun h' ck w k G => ?_) fun h' k no => ?_
 ·
  cbv; exact qt _ _ _ k G
 ·
  cbv; exact qf _ k no
end
theorem U_cons {c m : Nat} {r : List Nat} : U (c :: r) m ↔ (c = m /\ m ∉ r) \/ (c ≠ m /\ U r m):= by
 have g0 : gd (c :: r) 0 = c:= rfl
 have gs : ∀ i, gd (c :: r) (i + 1) = gd r i:= fun _ => rfl
 have mem : m ∈ r ↔ ∃ i, i < r.length /\ gd r i = m:= by
  constructor
  ·
   intro h
   obtain ⟨i, hi, e⟩:= List.getElem_of_mem h
   refine ⟨i, hi, ?_⟩
   have:= xN hi
   rw [List.getElem?_eq_getElem hi, e] at this
   exact (Option.some.inj this).symm
  ·
   refine oEA fun i hi e => ?_
   exact e ▸ List.mem_of_getElem? (xN hi)
 constructor
 ·
  refine xG fun i h1 h2 h3 => ?_
  by_cases e : c = m
  ·
   left
   refine ⟨e, fun q => ?_⟩
   refine oEA (fun j a b => ?_) (mem.mp q)
   have j1:= h3 (j + 1) (by simp; exact a) (by rw [gs]; exact b)
   have j2:= h3 0 (by simp) (by rw [g0]; exact e)
   lia
  ·
   right
   refine ⟨e, ?_⟩
   match i, h1, h2, h3 with
   | 0, h1, h2, h3 => exact absurd h2 e
   | i + 1, h1, h2, h3 =>
    refine ⟨i, by simpa using h1, h2, fun j hj ej => ?_⟩
    have:= h3 (j + 1) (by simp; exact hj) ej
    lia
 ·
  rintro (⟨e, no⟩ | ⟨e, i, h1, h2, h3⟩)
  ·
   refine ⟨0, by simp, e, fun j hj ej => ?_⟩
   match j, hj, ej with
   | 0, _, _ => rfl
   | j + 1, hj, ej => exact absurd (mem.mpr ⟨j, by simpa using hj, ej⟩) no
  ·
   refine ⟨i + 1, by simpa using h1, h2, fun j hj ej => ?_⟩
   match j, hj, ej with
   | 0, _, ej => exact absurd ej e
   | j + 1, hj, ej =>
    have:= h3 j (by simpa using hj) ej
    lia
theorem sD (m : Nat) : ∀ ck : List Nat, ck.count m = 1 ↔ U ck m
 | [] => by
  constructor
  ·
   intro h; simp at h
  ·
   refine oEA fun i h1 _ => ?_; simp at h1
 | c :: r => by
  rw [U_cons, <- sD m r, List.count_cons]
  by_cases e : c = m
  ·
   subst e
   simp [List.count_eq_zero]
  ·
   have : (c == m) = false:= by simp [e]
   rw [this]; simp [e]
theorem eJ (m : Nat) (ck : List Nat) : (cI ck).count (m : Int) = ck.count m:= by
 unfold cI
 induction ck with
 | nil => rfl
 | cons c r ih =>
  rw [List.map_cons, List.count_cons, List.count_cons, ih]
  congr 1
  by_cases e : c = m
  ·
   subst e; simp
  ·
   have e1 : ((c : Int) == (m : Int)) = false:= by simp; exact cj e
   have e2 : (c == m) = false:= by simp [e]
   rw [e1, e2]
theorem aF {h : Hp} {n k : Nat} {xs : List V} {ds : List PyData} (e : h[n]? = some (.tup xs)) (e2 : xs.mapM (deep k h) = some ds) : deep (k + 1) h (.ref n) = some (.tuple ds):= by simp only [deep, e, e2]
noncomputable def jY (y : Int) : Bool:= decide (y ≠ 0) && decide (y ∉ cI men)
section
variable {n : Nat} {h : Hp} {X : Hp -> Prop} {A : PA} {g z : Nat} {v : PV} {call : Call}
theorem lh {b : Nat} {board : List Int} {l : Loc} (e : h[b]? = some (.lst (il board))) (hall : h[2]? = some (.tup (il (cI men)))) (hl : board.length <= 22) (g1 : get 120 l = some (.ref b)) {Q : V -> Hp -> Prop}
  (q : ∀ h' r, Ext h h' -> h'[r]? = some (.lst (il (board.filter jY))) -> Q (.ref r) h') :
  wp (eval tab call (.compIf (.loc 145) 145 (.loc 120) (.and (.cons (.cmp (.loc 145) (.cc .ne (.int 0) .nil)) (.cons (.cmp (.loc 145) (.cc .notIn (.glb 136) .nil)) .nil)))) l) h Q X:= by
 refine tG ?_
 cbv; refine pI e ?_
 cbv; refine tL (h:= _) (il board) (fun i acc h' => Ext h h' /\ acc = il ((board.take i).filter jY)) (by simp; exact jH hl rfl) (fun i acc h' I => by simp [jV, zO, I.1 _ _ e]) (fun i acc h' v hv1 I => ?_) (fun acc h' I => ?_) ⟨Ext.refl h, by simp⟩
 ·
  revert I; refine oA fun i1 t01 => ?_; obtain rfl:= t01
  rw [List.getElem?_map] at hv1
  refine oEA (fun y ey t02 => ?_) (Option.map_eq_some_iff.mp hv1); obtain rfl:= t02
  have tk : board.take (i + 1) = board.take i ++ [y]:= by rw [List.take_add_one, ey]; rfl
  cbv; refine wS (fun c => ?_) fun c => ?_
  ·
   cbv; refine kZ (.inr (i1 _ _ hall)) ?_
   cbv; refine zB (fun d => ?_) fun d => ?_
   ·
    cbv; refine ⟨i1, ?_⟩
    have hb : jY y = true:= by unfold jY; rw [eTr c, eTr d]; rfl
    rw [tk, List.filter_append, List.filter_cons, if_pos hb]
    simp [il]
   ·
    cbv; refine ⟨i1, ?_⟩
    have hb : jY y = false:= by unfold jY; rw [eFa d]; simp
    rw [tk, List.filter_append, List.filter_cons, if_neg (by rw [hb]; decide)]
    simp [il]
  ·
   cbv; cbv
   refine ⟨i1, ?_⟩
   have hb : jY y = false:= by unfold jY; rw [eFa c]; rfl
   rw [tk, List.filter_append, List.filter_cons, if_neg (by rw [hb]; decide)]
   simp [il]
 ·
  revert I; refine oA fun i1 t01 => ?_; obtain rfl:= t01
  rw [List.length_map, List.take_length]
  cbv; refine xL (by show (il (board.filter jY)).length <= _; rw [List.length_map]; have:= List.length_filter_le jY board; exact jZ this (yB hl rfl)) ?_
  exact q _ _ (i1.app' _) zC
noncomputable def pB (y : Int) : Bool:= decide (y % 8 = 1)
theorem bg {board : List Int} {l : Loc} {it : ME} (hl : board.length <= 62) {Q : V -> Hp -> Prop}
  (ev : ∀ Q' : V -> Hp -> Prop, (∀ h' b, Ext h h' -> h'[b]? = some (.lst (il board)) -> Q' (.ref b) h') -> wp (eval tab call it l) h Q' X)
  (q : ∀ h' r, Ext h h' -> h'[r]? = some (.lst (il (board.filter pB))) -> Q (.ref r) h') :
  wp (eval tab call (.compIf (.loc 145) 145 it (.cmp (.bin .mod (.loc 145) (.int 8)) (.cc .eq (.int 1) .nil))) l) h Q X:= by
 refine tG (ev _ fun h0 b k0 e => ?_)
 cbv; refine pI e ?_
 cbv; refine tL (h:= _) (il board) (fun i acc h' => Ext h0 h' /\ acc = il ((board.take i).filter pB)) (by simp; exact jH hl rfl) (fun i acc h' I => by simp [jV, zO, I.1 _ _ e]) (fun i acc h' v hv1 I => ?_) (fun acc h' I => ?_) ⟨Ext.refl h0, by simp⟩
 ·
  revert I; refine oA fun i1 t01 => ?_; obtain rfl:= t01
  rw [List.getElem?_map] at hv1
  refine oEA (fun y ey t02 => ?_) (Option.map_eq_some_iff.mp hv1); obtain rfl:= t02
  have tk : board.take (i + 1) = board.take i ++ [y]:= by rw [List.take_add_one, ey]; rfl
  cbv; refine zW (by decide) ?_
  cbv; refine zB (fun c => ?_) fun c => ?_
  ·
   cbv; refine ⟨i1, ?_⟩
   have hb : pB y = true:= eTr c
   rw [tk, List.filter_append, List.filter_cons, if_pos hb]
   simp [il]
  ·
   cbv; refine ⟨i1, ?_⟩
   have hb : pB y = false:= eFa c
   rw [tk, List.filter_append, List.filter_cons, if_neg (by rw [hb]; decide)]
   simp [il]
 ·
  revert I; refine oA fun i1 t01 => ?_; obtain rfl:= t01
  rw [List.length_map, List.take_length]
  cbv; refine xL (by show (il (board.filter pB)).length <= _; rw [List.length_map]; have:= List.length_filter_le pB board; exact jZ this (yB hl rfl)) ?_
  exact q _ _ ((k0.trans i1).app' _) zC
end
theorem eU {board : List Int} (h : board.filter jY = []) : ∃ ck, board = cI ck /\ Val ck:= by
 have k : ∀ y ∈ board, y = 0 \/ y ∈ cI men:= fun y hy => by
  have:= List.filter_eq_nil_iff.mp h y hy
  unfold jY at this
  by_cases e : y = 0
  ·
   exact .inl e
  ·
   right
   rw [eTr e, Bool.true_and] at this
   by_cases q : y ∈ cI men
   ·
    exact q
   ·
    exact absurd (eTr q) this
 have ki : ∀ y ∈ board, 0 <= y:= fun y hy => by
  refine oO (fun e => ?_) (fun e => ?_) (k y hy)
  ·
   exact as23 e rfl
  ·
   refine oEA (fun m _ t02 => ?_) (List.mem_map.mp e); obtain rfl:= t02; exact zK
 refine ⟨board.map Int.toNat, ?_, fun c hc => ?_⟩
 ·
  unfold cI
  rw [List.map_map]
  refine (List.map_congr_left (g:= id) fun y hy => ?_).trans (List.map_id _) |>.symm
  exact Int.toNat_of_nonneg (ki y hy)
 ·
  refine oEA (fun y hy t02 => ?_) (List.mem_map.mp hc); obtain rfl:= t02
  refine oO (fun e => ?_) (fun e => ?_) (k y hy)
  ·
   left; rw [e]; rfl
  ·
   right
   refine oEA (fun m hm t02 => ?_) (List.mem_map.mp e); obtain rfl:= t02
   exact hm
theorem eV {ck : List Nat} (hv : Val ck) : (cI ck).filter jY = []:= by
 rw [List.filter_eq_nil_iff]
 intro y hy
 refine oEA (fun c hc t02 => ?_) (List.mem_map.mp hy); obtain rfl:= t02
 unfold jY
 rcases hv c hc with rfl | hm
 ·
  simp
 ·
  rw [eFa (fun q : (c : Int) ∉ cI men => q (mem_cI.mpr hm))]; simp
theorem mJ {S : SI} {ck : List Nat} (hl : ck.length = S.fg * S.rg) (h1 : S.fg <= S.fg * S.rg) : (((cI ck).take S.fg ++ (cI ck).drop (S.fg * S.rg - S.fg)).filter pB = []) ↔ ¬ oR S ck:= by
 rw [List.filter_eq_nil_iff]
 constructor
 ·
  refine fun h => xG fun s a b c => ?_
  have e:= yG (ck:= ck) (s:= s) (by exact uN hl a)
  refine h (gd ck s : Int) (List.mem_append.mpr ?_) (eTr (by lia))
  revert b; refine oO (fun b => ?_) fun b => ?_
  ·
   left
   refine List.mem_of_getElem? (i:= s) ?_
   rw [List.getElem?_take_of_lt b]; exact e
  ·
   right
   refine List.mem_of_getElem? (i:= s - (S.fg * S.rg - S.fg)) ?_
   rw [List.getElem?_drop, show S.fg * S.rg - S.fg + (s - (S.fg * S.rg - S.fg)) = s by exact ar63 b]; exact e
 ·
  intro no y hy hp
  have hp : y % 8 = 1:= dTr hp
  refine oO (fun q => ?_) (fun q => ?_) (List.mem_append.mp hy)
  ·
   refine oE (fun s e => ?_) (List.getElem?_of_mem q)
   rw [List.getElem?_take] at e
   split at e
   ·
    rename_i hs
    rw [yG (ck:= ck) (s:= s) (by exact yH hs (ar17 hl h1))] at e
    have e:= Option.some.inj e
    exact no ⟨s, by exact yH hs h1, .inl hs, by lia⟩
   ·
    contradiction
  ·
   refine oE (fun s e => ?_) (List.getElem?_of_mem q)
   rw [List.getElem?_drop] at e
   have hlt:= (List.getElem?_eq_some_iff.mp e).1
   rw [zN] at hlt
   rw [yG hlt] at e
   have e:= Option.some.inj e
   exact no ⟨S.fg * S.rg - S.fg + s, by exact eX hl hlt, .inr (Nat.le_add_right _ _), by lia⟩
theorem fN {S : SI} {ck : List Nat} {r : Nat} (hr : r < 16) : r &&& oK S ck = r ↔ ∀ i, i < 4 -> r.testBit i = true -> yS S ck i = true:= by
 constructor
 ·
  intro e i hi ht
  have:= congrArg (fun x => x.testBit i) e
  simp only [Nat.testBit_and, ht, Bool.true_and] at this
  unfold oK at this
  rw [yJ] at this
  simp at this
  exact this.2
 ·
  intro h
  refine Nat.eq_of_testBit_eq fun i => ?_
  rw [Nat.testBit_and]
  unfold oK
  rw [yJ]
  by_cases hi : i < 4
  ·
   cases q : r.testBit i with
   | false => rfl
   | true => rw [h i hi q]; simp [hi]
  ·
   have : r.testBit i = false:= Nat.testBit_lt_two_pow (Nat.lt_of_lt_of_le hr (Nat.pow_le_pow_right (n:= 2) (by decide) (show 4 <= i by exact uM hi)))
   rw [this]; rfl
theorem rights_iff {S : SI} {v : PV} {ck : List Nat} : qY S v ck ↔ (0 <= v.rights /\ v.rights <= 15) /\ v.rights.toNat &&& oK S ck = v.rights.toNat:= by
 constructor
 ·
  refine xG fun r e hr h => ?_
  rw [e]
  exact ⟨by exact as31 zK (lR hr rfl), (fN hr).mpr h⟩
 ·
  refine oA <| oA fun h1 h2 h3 => ?_
  exact ⟨v.rights.toNat, by lia, by exact lz h2 rfl, (fN (by exact lz h2 rfl)).mp h3⟩
section
variable {n : Nat} {h : Hp} {X : Hp -> Prop} {A : PA} {g z : Nat} {v : PV} {call : Call}
theorem fS {h0 : Hp} {S : SI} (hS : Stat h0 S) (hall : h0[2]? = some (.tup (il (cI men)))) (hx : Ext h0 h) (x : PosAt h A S.g S.z v) (R : Rough S v) {Q : V -> Hp -> Prop} (qt : ∀ h' ck w, Ext h h' -> Good S v ck w -> Q (.bool false) h') (qf : ∀ h', Ext h h' -> (∀ ck w, ¬ Good S v ck w) -> Q (.bool true) h') :
  wp (run tab (n + 2) 144 [.ref A.p, .int S.fg, .int S.rg, .bool S.dv, .bool S.wg]) h Q X:= by
 have sz:= hS.sz
 have f2:= hS.f2
 have f8:= hS.f8
 have r3:= hS.r3
 have r8:= hS.r8
 have N1 : S.fg <= S.fg * S.rg:= Nat.le_mul_of_pos_right _ (by exact yY r3 rfl)
 have Bn:= R.bnd sz
 have B2:= R.b2
 refine zV (fn:= fn_law_fault) rfl rfl ?_
 cbv; refine zA x.pos rfl ?_
 let G : Loc -> Prop:= fun l => get 47 l = some (.ref A.p) /\ get 120 l = some (.ref A.b) /\ get 22 l = some (.int S.fg) /\ get 23 l = some (.int S.rg) /\ get 128 l = some (.bool S.dv) /\ get 129 l = some (.bool S.wg)
 try refine yI ?_
 refine yD (fun l h' => Ext h h' /\ G l /\ (∃ w : Nat, w < 2 /\ v.side = (w : Int)) /\ 0 <= v.half /\ 1 <= v.full /\ v.board.length = S.fg * S.rg) ?_ fun l1 h1 => wG fun k1 => wG fun g1 g2 g3 g4 g5 g6 => oEA fun w hw hsd c2 c3 c4 => ?_
 ·
  cbv; refine zA x.pos rfl ?_
  cbv; refine zG rfl ?_
  have k1:= Ext.app h [O.tup [.int 0, .int 1]]
  cbv; refine kZ (l:= [0, 1]) (.inr zC) ?_
  cbv; refine zT (fun c => ?_) fun c1 => ?_
  ·
   cbv; cbv
   refine qf _ k1 fun ck w G => c ?_
   rw [G.side]
   have:= G.hw
   have : w = 0 \/ w = 1:= by lia
   rcases this with rfl | rfl <;> decide
  have c1:= Decidable.of_not_not c1
  cbv; refine zA (k1 _ _ x.pos) rfl ?_
  cbv; refine zT (fun c => ?_) fun c2 => ?_
  ·
   cbv; cbv
   exact qf _ k1 fun ck w G => by have:= G.half; exact sm c this
  cbv; refine zA (k1 _ _ x.pos) rfl ?_
  cbv; refine zT (fun c => ?_) fun c3 => ?_
  ·
   cbv; cbv
   exact qf _ k1 fun ck w G => by have:= G.full; exact sm c this
  cbv; refine tA (k1 _ _ x.board) (by rw [List.length_map]; exact jZ B2 (yB (cM sz) rfl)) ?_
  rw [List.length_map]
  cbv; refine xF (.inl (zM (by exact uK rfl) (by exact yP f8 rfl))) ?_
  rw [show (S.fg : Int) * (S.rg : Nat) = ((S.fg * S.rg : Nat) : Int) by simp]
  cbv; refine zB (fun c => ?_) fun c4 => ?_
  ·
   cbv; exact qf _ k1 fun ck w G => c (by rw [G.B.b, zN, G.B.len])
  ·
   cbv; refine ⟨k1, ⟨rfl, rfl, rfl, rfl, rfl, rfl⟩, ?_, by exact ch c2, by exact ch c3, by exact qW c4⟩
   simp only [List.mem_cons, List.not_mem_nil, or_false] at c1
   revert c1; refine oO (fun c1 => ?_) fun c1 => ?_
   ·
    exact ⟨0, by decide, c1⟩
   ·
    exact ⟨1, by decide, c1⟩
 try refine yI ?_
 refine yD (fun l h' => Ext h h' /\ G l /\ v.board.filter jY = []) ?_ fun l2 h2 => oAA fun k2 => wG fun g1 g2 g3 g4 g5 g6 c5 => ?_
 ·
  cbv; refine lh (k1 _ _ x.board) ((hx.trans k1) _ _ hall) (by exact jZ B2 (cM sz)) g2 fun h2 r k2 j2 => ?_
  cbv; refine zG rfl ?_
  have k3:= (k1.trans k2).app' [O.lst []]
  cbv; refine rP (y:= .list (iD [])) (yA 3 (zI j2)) (yA 3 zC) ?_
  rw [tF, <- decide_not]
  cbv; refine zB (fun c => ?_) fun c => ?_
  ·
   cbv; exact qf _ k3 fun ck w G => c (by rw [G.B.b]; exact eV G.B.val)
  ·
   cbv; exact ⟨k3, ⟨g1, g2, g3, g4, g5, g6⟩, Decidable.of_not_not c⟩
 refine oEA (fun ck hb hv => ?_) (eU c5)
 have hl : ck.length = S.fg * S.rg:= by rw [hb, zN] at c4; exact c4
 have same : ∀ {cs w'}, Good S v cs w' -> cs = ck /\ w' = w:= fun G => ⟨cG (G.B.b.symm.trans hb), by have:= G.side; lia⟩
 have xb : ∀ {h' : Hp}, Ext h h' -> h'[A.b]? = some (.lst (il (cI ck))):= fun k => by rw [<- hb]; exact k _ _ x.board
 try refine yI ?_
 refine yD (fun l h' => Ext h h' /\ G l /\ Boards S v ck /\ U ck 6 /\ U ck 14) ?_ fun l3 h3 => yE fun k3 => wG fun g1 g2 g3 g4 g5 g6 B u1 u2 => ?_
 ·
  cbv; refine zA (k2 _ _ x.pos) rfl ?_
  cbv; refine zA (k2 _ _ x.pos) rfl ?_
  cbv; refine zG rfl ?_
  have k3:= k2.app' [O.tup [.ref A.k, .ref A.s]]
  have n3:= zC (h:= h2) (o:= O.tup [.ref A.k, .ref A.s])
  generalize h2 ++ [O.tup [.ref A.k, .ref A.s]] = h3 at k3 n3 ⊢
  cbv; refine tQ (xb k3) (by exact jO hl sz) hv fun h4 t a b k4 j1 j2 j3 => ?_
  have k5:= k3.trans k4
  cbv; refine rP (x:= .tuple [.list (iD v.kinds), .list (iD v.sides)]) (y:= .tuple [.list (iD (kL ck)), .list (iD (sL ck))]) ?_ ?_ ?_
  ·
   refine aF (k4 _ _ n3) ?_
   simp only [List.mapM_cons, List.mapM_nil, yA 2 (k5 _ _ x.kinds), yA 2 (k5 _ _ x.sides)]; rfl
  ·
   refine aF j1 ?_
   simp only [List.mapM_cons, List.mapM_nil, yA 2 j2, yA 2 j3]; rfl
  rw [show PyData.eqv (.tuple [.list (iD v.kinds), .list (iD v.sides)]) (.tuple [.list (iD (kL ck)), .list (iD (sL ck))]) = (decide (v.kinds = kL ck) && decide (v.sides = sL ck)) by simp only [PyData.eqv, PyData.eqvAll, vI, Bool.and_true]]
  cbv; refine vZ (fun c => ?_) fun c => ?_
  ·
   cbv; cbv
   refine qf _ k5 fun cs w' G => ?_
   refine oA (fun t00 _ => ?_) (same G); obtain rfl:= t00
   rw [eTr G.B.k, eTr G.B.s] at c
   contradiction
  have c : v.kinds = kL ck /\ v.sides = sL ck:= by simpa using c
  have B : Boards S v ck:= ⟨hl, hv, hb, c.1, c.2⟩
  cbv; refine wD (xb k5) ?_
  cbv; refine cU (i:= ((6 : Nat) : Int)) (xb k5) ?_
  rw [eJ]
  cbv; refine zT (fun c => ?_) fun u1 => ?_
  ·
   cbv; cbv
   refine qf _ k5 fun cs w' G => ?_
   refine oA (fun t00 _ => ?_) (same G); obtain rfl:= t00
   have:= (sD 6 cs).mpr G.k0
   exact ar39 this (tJ c)
  have u1:= (sD 6 ck).mp (by exact qW u1)
  cbv; refine wD (xb k5) ?_
  cbv; refine cU (i:= ((14 : Nat) : Int)) (xb k5) ?_
  rw [eJ]
  cbv; refine zB (fun c => ?_) fun u2 => ?_
  ·
   cbv; refine qf _ k5 fun cs w' G => ?_
   refine oA (fun t00 _ => ?_) (same G); obtain rfl:= t00
   have:= (sD 14 cs).mpr G.k1
   exact ar39 this (tJ c)
  have u2:= (sD 14 ck).mp (by exact qW u2)
  cbv; exact ⟨k5, ⟨g1, g2, g3, g4, g5, g6⟩, B, u1, u2⟩
 try refine yI ?_
 refine yD (fun l h' => Ext h h' /\ G l /\ ¬ oR S ck) ?_ fun l4 h4 => oAA fun k4 => wG fun g1 g2 g3 g4 g5 g6 pw => ?_
 ·
  cbv; refine bg (board:= (cI ck).take S.fg ++ (cI ck).drop (S.fg * S.rg - S.fg)) (by simp [cI]; exact yB (mn62 f8 N1 hl) rfl) (fun Q' q' => ?_) fun h4 r k4 j4 => ?_
  ·
   cbv; refine gH (a:= 0) (b:= S.fg) (.inl (xb k3)) (by simp [cI]; exact yB (jO hl sz) rfl) rfl (by
    show (bif decide ((0 : Int) <= (S.fg : Int)) && small (S.fg : Int) then some ((S.fg : Int)).toNat else .none) = some S.fg
    rw [eTr (show (0 : Int) <= (S.fg : Int) by exact zK), zM (by exact uK rfl) (by exact yP f8 rfl)]; rfl) ?_
   have ka:= Ext.app h3 [O.lst (((il (cI ck)).take S.fg).drop 0)]
   have na:= zC (h:= h3) (o:= O.lst (((il (cI ck)).take S.fg).drop 0))
   generalize h3 ++ [O.lst (((il (cI ck)).take S.fg).drop 0)] = h4 at ka na ⊢
   cbv; refine tA (xb (k3.trans ka)) (by simp [cI]; exact yB (jO hl sz) rfl) ?_
   rw [List.length_map, zN, hl]
   cbv; rw [show ((S.fg * S.rg : Nat) : Int) - (S.fg : Nat) = ((S.fg * S.rg - S.fg : Nat) : Int) by exact gB N1]
   cbv; refine gH (a:= S.fg * S.rg - S.fg) (b:= S.fg * S.rg) (.inl (xb (k3.trans ka))) (by simp [cI]; exact yB (jO hl sz) rfl) (by
    show (bif decide ((0 : Int) <= ((S.fg * S.rg - S.fg : Nat) : Int)) && small ((S.fg * S.rg - S.fg : Nat) : Int) then some (((S.fg * S.rg - S.fg : Nat) : Int)).toNat else .none) = some (S.fg * S.rg - S.fg)
    rw [eTr (show (0 : Int) <= ((S.fg * S.rg - S.fg : Nat) : Int) by exact zK), zM (by exact uK rfl) (by exact yP (eW sz) rfl)]; rfl) (by show some (il (cI ck)).length = _; rw [List.length_map, zN, hl]) ?_
   cbv; refine iA (zI na) zC (by simp [cI]; exact yB (mn63 f8 N1 hl) rfl) ?_
   refine q' _ _ ((ka.app' _).app' _) ?_
   rw [zC]
   congr 2
   have : (il (cI ck)).take (S.fg * S.rg) = il (cI ck):= List.take_of_length_le (by rw [List.length_map, zN]; lia)
   rw [this]
   simp [il]
  cbv; refine zG rfl ?_
  have k5:= (k3.trans k4).app' [O.lst []]
  cbv; refine rP (y:= .list (iD [])) (yA 3 (zI j4)) (yA 3 zC) ?_
  rw [tF, <- decide_not]
  cbv; refine zB (fun c => ?_) fun c => ?_
  ·
   cbv; refine qf _ k5 fun cs w' G => ?_
   refine oA (fun t00 _ => ?_) (same G); obtain rfl:= t00
   exact c ((mJ hl N1).mpr G.pawns)
  ·
   cbv; exact ⟨k5, ⟨g1, g2, g3, g4, g5, g6⟩, (mJ hl N1).mp (Decidable.of_not_not c)⟩
 try refine yI ?_
 refine yD (fun l h' => Ext h h' /\ G l /\ qY S v ck) ?_ fun l5 h5 => oAA fun k5 => wG fun g1 g2 g3 g4 g5 g6 ro => ?_
 ·
  have bad : ¬ ((0 <= v.rights /\ v.rights <= 15) /\ v.rights.toNat &&& oK S ck = v.rights.toNat) -> ∀ h', Ext h h' -> Q (.bool true) h':= fun no h' k => qf _ k fun cs w' G => by
   refine oA (fun t00 _ => ?_) (same G); obtain rfl:= t00
   exact no (rights_iff.mp G.rights)
  cbv; refine zA (k4 _ _ x.pos) rfl ?_
  cbv; refine zB (fun d1 => ?_) fun d1 => ?_
  ·
   cbv; by_cases d2 : v.rights <= 15
   ·
    rw [eTr d2]
    cbv; try refine vZ (fun c => by cases c) fun _ => ?_
    cbv; refine zA (k4 _ _ x.pos) rfl ?_
    cbv; refine pW hS (xb k4) hl fun h5 k5 => ?_
    have k6:= k4.trans k5
    have er : v.rights = (v.rights.toNat : Int):= by lia
    rw [er]
    cbv; rw [oB]
    cbv; refine zA (k6 _ _ x.pos) rfl ?_
    rw [er]
    cbv; rw [toN]
    cbv; refine zB (fun c => ?_) fun c => ?_
    ·
     cbv; exact bad (fun q => c (by rw [q.2])) _ k6
    ·
     cbv; exact ⟨k6, ⟨g1, g2, g3, g4, g5, g6⟩, rights_iff.mpr ⟨⟨d1, d2⟩, by exact qW c⟩⟩
   ·
    rw [eFa d2]
    cbv; try refine vZ (fun _ => ?_) fun c => by cases c
    cbv; exact bad (fun q => d2 q.1.2) _ k4
  ·
   cbv; cbv
   try refine vZ (fun _ => ?_) fun c => by cases c
   cbv; exact bad (fun q => d1 q.1.1) _ k4
 have good : nh S v ck w -> Good S v ck w:= fun eo => ⟨hw, hsd, c2, c3, B, u1, u2, pw, ro, eo⟩
 have bad : ¬ nh S v ck w -> ∀ cs w', ¬ Good S v cs w':= fun no cs w' G => by
  refine oA (fun t00 t01 => ?_) (same G); obtain rfl:= t00; obtain rfl:= t01
  exact no G.ep
 cbv; refine zA (k5 _ _ x.pos) rfl ?_
 cbv; refine wS (fun d1 => ?_) fun d1 => ?_
 ·
  cbv; refine zA (k5 _ _ x.pos) rfl ?_
  cbv; refine zA (k5 _ _ x.pos) rfl ?_
  rw [hsd]
  cbv; refine pX hS (xb k5) hl hw fun h6 r k6 j6 => ?_
  cbv; refine kZ (.inl j6) ?_
  have k7:= k5.trans k6
  by_cases d2 : v.ep ∈ cI (jB S ck w)
  ·
   rw [eFa (fun q : v.ep ∉ _ => q d2)]
   cbv; refine oEA (fun e he ee => ?_) (List.mem_map.mp d2)
   exact qt _ _ _ k7 (good (.inr ⟨e, ee.symm, he⟩))
  ·
   rw [eTr d2]
   cbv; refine qf _ k7 (bad fun q => ?_)
   rcases q with q | ⟨e, q1, q2⟩
   ·
    exact d1 q
   ·
    exact d2 (q1 ▸ mem_cI.mpr q2)
 ·
  cbv; exact qt _ _ _ k5 (good (.inl (Decidable.of_not_not d1)))
end
theorem qm {ck : List Nat} (hv : Val ck) {i : Nat} (hi : i <= ck.length) : rZ ck i < 2 ^ (15 * ck.length):= by rw [pV hv i hi]; exact sY _ _
theorem iV (r k j : Nat) (hr : r < 16) (h : k + 4 <= j) : (r * 2 ^ k).testBit j = false:= by
 rw [Nat.testBit_mul_two_pow, show r.testBit (j - k) = false from Nat.testBit_lt_two_pow (Nat.lt_of_lt_of_le hr (Nat.pow_le_pow_right (n:= 2) (by decide) (show 4 <= j - k by exact ar67 h)))]
 simp
noncomputable def epT (K f : Nat) (ep : Int) : Nat:= if 0 <= ep then 2 ^ (K + 4 + (ep % (f : Int)).toNat) else 0
noncomputable def sdT (K f w : Nat) : Nat:= if w = 1 then 2 ^ (K + 4 + f) else 0
section
variable {n : Nat} {h : Hp} {X : Hp -> Prop} {A : PA} {g z : Nat} {v : PV} {call : Call}
theorem gP {h0 : Hp} {S : SI} (hS : Stat h0 S) (hx : Ext h0 h) (x : PosAt h A S.g S.z v) {w r : Nat} (hw : w < 2) (hsd : v.side = (w : Int)) (hr : r < 16) (er : v.rights = (r : Int)) {Q : V -> Hp -> Prop}
  (q : Q (.int (r * 2 ^ (15 * (S.fg * S.rg)) + epT (15 * (S.fg * S.rg)) S.fg v.ep + sdT (15 * (S.fg * S.rg)) S.fg w : Nat)) h) : wp (run tab (n + 1) 46 [.ref A.p]) h Q X:= by
 have f2:= hS.f2
 have f8:= hS.f8
 have sz:= hS.sz
 refine oEA (fun xs e1 e2 => ?_) hS.rgt
 refine oEA (fun ys e3 e4 => ?_) hS.ept
 refine zV (fn:= fn_state_key) rfl rfl ?_
 cbv; refine zA x.pos rfl ?_
 cbv; refine zA (hx _ _ hS.zob) hS.z4 ?_
 cbv; refine zA x.pos rfl ?_
 rw [er]
 cbv; refine zF (.inl (hx _ _ e1)) (by exact zK) (by exact xJ hr rfl) (by rw [toN]; exact e2 r hr) ?_
 try refine yI ?_
 refine yD (fun l h' => h' = h /\ get 47 l = some (.ref A.p) /\ get 9 l = some (.ref S.z) /\ get 11 l = some (.int (r * 2 ^ (15 * (S.fg * S.rg)) + epT (15 * (S.fg * S.rg)) S.fg v.ep : Nat)) /\ ∀ j, 15 * (S.fg * S.rg) + 4 + S.fg <= j -> (r * 2 ^ (15 * (S.fg * S.rg)) + epT (15 * (S.fg * S.rg)) S.fg v.ep).testBit j = false) ?_ fun l1 h1 => yE fun eh g1 g2 g3 g4 => ?_
 ·
  cbv; refine zA x.pos rfl ?_
  cbv; refine zB (fun c => ?_) fun c => ?_
  ·
   have m1:= Int.emod_nonneg v.ep (show (S.fg : Int) ≠ 0 by lia)
   have m2:= Int.emod_lt_of_pos v.ep (show (0 : Int) < S.fg by exact vL (yY f2 rfl))
   have m3 : ((v.ep % (S.fg : Int)).toNat : Int) = v.ep % (S.fg : Int):= Int.toNat_of_nonneg m1
   have eT : epT (15 * (S.fg * S.rg)) S.fg v.ep = 2 ^ (15 * (S.fg * S.rg) + 4 + (v.ep % (S.fg : Int)).toNat):= if_pos c
   cbv; refine zA (hx _ _ hS.zob) hS.z3 ?_
   cbv; refine zA x.pos rfl ?_
   cbv; refine zA x.pos rfl ?_
   cbv; refine zA (hx _ _ hS.geo) hS.g22 ?_
   cbv; refine zW (by exact as00 m1 m2) ?_
   rw [<- m3]
   cbv; refine zF (.inl (hx _ _ e3)) (by exact zK) (by lia) (by rw [toN]; exact e4 _ (by exact cp (as13 m3 m2))) ?_
   cbv; have off:= iV r (15 * (S.fg * S.rg)) (15 * (S.fg * S.rg) + 4 + (v.ep % (S.fg : Int)).toNat) hr (by exact vM)
   refine ⟨rfl, rfl, rfl, ?_, fun j hj => ?_⟩
   ·
    rw [eT, tY, tK off, <- rM off]; rfl
   ·
    rw [eT, rM off, Nat.testBit_or, iV _ _ _ hr (by exact jZ vM hj), Nat.testBit_two_pow]
    simp; lia
  ·
   have eT : epT (15 * (S.fg * S.rg)) S.fg v.ep = 0:= if_neg c
   cbv; refine ⟨rfl, rfl, rfl, by rw [eT]; rfl, fun j hj => ?_⟩
   rw [eT, Nat.add_zero]; exact iV _ _ _ hr (by exact jZ vM hj)
 subst eh
 generalize r * 2 ^ (15 * (S.fg * S.rg)) + epT (15 * (S.fg * S.rg)) S.fg v.ep = T at g3 g4 q
 cbv; refine zA x.pos rfl ?_
 rw [hsd]
 cbv; refine zB (fun c => ?_) fun c => ?_
 ·
  have c : w = 1:= wO c
  have eT : sdT (15 * (S.fg * S.rg)) S.fg w = 2 ^ (15 * (S.fg * S.rg) + 4 + S.fg):= if_pos c
  rw [eT] at q
  cbv; refine zA (hx _ _ hS.zob) hS.z5 ?_
  cbv; rw [tY, tK (g4 _ (Nat.le_refl _)), <- rM (g4 _ (Nat.le_refl _))]
  exact q
 ·
  have eT : sdT (15 * (S.fg * S.rg)) S.fg w = 0:= if_neg (by exact tJ c)
  rw [eT] at q
  cbv; exact q
theorem dY {h0 : Hp} {S : SI} (hS : Stat h0 S) (hx : Ext h0 h) (x : PosAt h A S.g S.z v) {ck : List Nat} (hl : ck.length = S.fg * S.rg) (hv : Val ck) (hb : v.board = cI ck) {w r : Nat} (hw : w < 2) (hsd : v.side = (w : Int)) (hr : r < 16) (er : v.rights = (r : Int)) {Q : V -> Hp -> Prop}
  (q : Q (.int (vQ ck S.fg w r v.ep : Nat)) h) : wp (run tab (n + 2) 49 [.ref A.p]) h Q X:= by
 have sz:= hS.sz
 refine zV (fn:= fn_full_key) rfl rfl ?_
 cbv; refine zA x.pos rfl ?_
 cbv; refine zA (hx _ _ hS.zob) hS.z2 ?_
 cbv; refine gP hS hx x hw hsd hr er ?_
 have eT : vQ ck S.fg w r v.ep = r * 2 ^ (15 * (S.fg * S.rg)) + epT (15 * (S.fg * S.rg)) S.fg v.ep + sdT (15 * (S.fg * S.rg)) S.fg w + rZ ck ck.length:= by
  rw [fK hv]; unfold vQ epT sdT; rw [hl]
  have : ((w : Int) = 1) = (w = 1):= by simp; exact at31 hw
  simp only [this]
 obtain ⟨t, et⟩ : ∃ t, r * 2 ^ (15 * (S.fg * S.rg)) + epT (15 * (S.fg * S.rg)) S.fg v.ep + sdT (15 * (S.fg * S.rg)) S.fg w = 2 ^ (15 * (S.fg * S.rg)) * t:= by
  unfold epT sdT
  refine ⟨r + (if 0 <= v.ep then 2 ^ (4 + (v.ep % (S.fg : Int)).toNat) else 0) + (if w = 1 then 2 ^ (4 + S.fg) else 0), ?_⟩
  rw [Nat.mul_add, Nat.mul_add, Nat.mul_comm r]
  congr 1
  ·
   congr 1
   split
   ·
    rw [<- Nat.pow_add]; congr 1; lia
   ·
    rfl
  ·
   split
   ·
    rw [<- Nat.pow_add]; congr 1; lia
   ·
    rfl
 rw [et] at eT
 rw [et]
 cbv; refine zA x.pos rfl ?_
 cbv; refine pI x.board ?_
 have xb : h[A.b]? = some (.lst (il (cI ck))):= by rw [<- hb]; exact x.board
 cbv; refine xK (h:= _) (l:= _) (il (cI ck)) (fun i l h' => h' = h /\ get 50 l = some (.ref S.rows) /\ get 11 l = some (.int (2 ^ (15 * (S.fg * S.rg)) * t + rZ ck i : Nat)) /\ get 38 l = some (.int (i : Nat))) (by simp [cI]; exact jH (jO hl sz) rfl) (fun i l h' I => by
  revert I; refine oA fun t00 _ => ?_; obtain rfl:= t00
  simp [jV, zO, xb]) (fun i l h' y hv1 I => ?_) (fun l h' I => ?_) ⟨rfl, rfl, rfl, rfl⟩
 ·
  revert I; refine yW fun t00 i2 i3 i4 => ?_; obtain rfl:= t00
  have hi:= (List.getElem?_eq_some_iff.mp hv1).1
  rw [List.length_map, zN] at hi
  have ey : y = .int (gd ck i : Nat):= by
   have:= tU (yG hi)
   rw [hv1] at this
   exact Option.some.inj this
  subst ey
  cbv; refine zB (fun c => ?_) fun c => ?_
  ·
   have c : gd ck i ≠ 0:= tJ c
   have hm:= hv.gd i c
   refine yE (fun m1 m2 m3 m4 m5 => ?_) (xD hm)
   have off : (2 ^ (15 * (S.fg * S.rg)) * t + rZ ck i).testBit (gd ck i * (S.fg * S.rg) + i) = false:= by
    have jl:= jlt (m:= gd ck i) hi m4
    have jd:= jdm (m:= gd ck i) hi
    rw [<- hl, Nat.testBit_two_pow_mul_add _ (qm hv (by exact cP hi)), if_pos jl, pV hv _ (by exact cP hi), yJ, jd.1]
    simp
   cbv; refine kY hS hx m4 ?_
   cbv; refine nN hS hx m4 (by exact eX hl hi) ?_
   cbv; refine ⟨rfl, by walk_at "lc", ?_, by refine get_put_eq.trans ?_; simp⟩
   refine uI (by decide) (get_put_eq.trans ?_)
   rw [tY, tK off, <- rM off]
   simp only [rZ, if_pos c, hl, Nat.add_assoc]
  ·
   have c : gd ck i = 0:= qW c
   cbv; refine ⟨rfl, by walk_at "lc", ?_, by refine get_put_eq.trans ?_; simp⟩
   have e0 : rZ ck (i + 1) = rZ ck i:= by simp [rZ, c]
   rw [e0]; walk_at "lc"
 ·
  revert I; refine yW fun t00 i2 i3 i4 => ?_; obtain rfl:= t00
  rw [List.length_map, zN, <- eT] at i3
  cbv; exact q
theorem pM {h0 : Hp} {S : SI} (hS : Stat h0 S) (hx : Ext h0 h) (x : PosAt h A S.g S.z v) {ck : List Nat} (hl : ck.length = S.fg * S.rg) (hv : Val ck) (hb : v.board = cI ck) {w r : Nat} (hw : w < 2) (hsd : v.side = (w : Int)) (hr : r < 16) (er : v.rights = (r : Int)) {Q : V -> Hp -> Prop}
  (q : ∀ h', Keep A h h' -> PosAt h' A S.g S.z { v with key:= (vQ ck S.fg w r v.ep : Nat) } -> Q .none h') : wp (run tab (n + 3) 64 [.ref A.p]) h Q X:= by
 refine zV (fn:= fn_settle_key) rfl rfl ?_
 cbv; refine dY hS hx x hl hv hb hw hsd hr er ?_
 cbv; refine zY (g':= S.g) (v':= { v with key:= (vQ ck S.fg w r v.ep : Nat) }) x rfl rfl rfl rfl rfl fun h' k' x' => ?_
 cbv; exact q _ k' x'
end
noncomputable def sw0 (c : Nat) : Nat:= if c = 0 then 0 else (c + 8) % 16
noncomputable def tsq (S : SI) (s : Nat) : Nat:= (S.rg - 1 - s / S.fg) * S.fg + s % S.fg
noncomputable def wU (S : SI) (ck : List Nat) (i : Nat) : List Nat:= (List.range (S.fg * S.rg)).map fun t => if tsq S t < i then sw0 (gd ck (tsq S t)) else 0
noncomputable def tr (r : Nat) : Nat:= r % 4 * 4 + r / 4
noncomputable def tep (S : SI) (ep : Int) : Int:= if 0 <= ep then (tsq S ep.toNat : Nat) else -1
theorem xE {S : SI} (hf : 0 < S.fg) {s : Nat} (hs : s < S.fg * S.rg) : s / S.fg < S.rg /\ tsq S s < S.fg * S.rg /\ tsq S s / S.fg = S.rg - 1 - s / S.fg /\ tsq S s % S.fg = s % S.fg:= by
 have h1 : s / S.fg < S.rg:= Nat.div_lt_of_lt_mul hs
 have h2:= Nat.mod_lt s hf
 have h3 : tsq S s / S.fg = S.rg - 1 - s / S.fg:= by
  unfold tsq
  rw [Nat.add_comm, Nat.add_mul_div_right _ _ hf, Nat.div_eq_of_lt h2, Nat.zero_add]
 have h4 : tsq S s % S.fg = s % S.fg:= by
  unfold tsq
  rw [Nat.add_comm, Nat.add_mul_mod_self_right, Nat.mod_mod]
 refine ⟨h1, ?_, h3, h4⟩
 have:= Nat.lt_mul_of_div_lt (show tsq S s / S.fg < S.rg by rw [h3]; exact Nat.lt_of_le_of_lt (Nat.sub_le _ _) (Nat.sub_lt (Nat.lt_of_le_of_lt (Nat.zero_le _) h1) (by decide))) hf
 rw [Nat.mul_comm]; exact this
theorem uR {S : SI} (hf : 0 < S.fg) {s : Nat} (hs : s < S.fg * S.rg) : tsq S (tsq S s) = s:= by
 refine yW (fun a b c d => ?_) (xE hf hs)
 have e:= Nat.div_add_mod s S.fg
 show (S.rg - 1 - tsq S s / S.fg) * S.fg + tsq S s % S.fg = s
 rw [c, d, show S.rg - 1 - (S.rg - 1 - s / S.fg) = s / S.fg by generalize s / S.fg = d at a; exact ar76 a, Nat.mul_comm]
 exact e
theorem zP (S : SI) (ck : List Nat) (i : Nat) : (wU S ck i).length = S.fg * S.rg:= by simp [wU]
theorem wX {S : SI} {ck : List Nat} {i t : Nat} (ht : t < S.fg * S.rg) : gd (wU S ck i) t = if tsq S t < i then sw0 (gd ck (tsq S t)) else 0:= by
 have:= xN (ck:= wU S ck i) (s:= t) (by rw [zP]; exact ht)
 unfold wU at this ⊢
 rw [List.getElem?_map, List.getElem?_range ht] at this
 exact (Option.some.inj this).symm
theorem sC {a b : List Nat} (hl : a.length = b.length) (h : ∀ i, i < a.length -> gd a i = gd b i) : a = b:= by
 refine List.ext_getElem? fun i => ?_
 by_cases hi : i < a.length
 ·
  rw [xN hi, xN (hl ▸ hi), h i hi]
 ·
  rw [List.getElem?_eq_none (by exact uM hi), List.getElem?_eq_none (by exact ar19 hl (uM hi))]
theorem gK (S : SI) (ck : List Nat) : wU S ck 0 = zeros (S.fg * S.rg):= by
 refine sC (by rw [zP]; simp [zeros]) fun i hi => ?_
 rw [zP] at hi
 rw [wX hi, if_neg (by exact mh gC), qT]
theorem pL {c : Nat} (h : c ∈ men) : sw0 c ∈ men /\ (1 - c / 8) * 8 + c % 8 = sw0 c /\ sw0 (sw0 c) = c /\ sw0 c % 8 = c % 8 /\ sw0 c / 8 = 1 - c / 8:= by
 have k : ∀ c ∈ men, sw0 c ∈ men /\ (1 - c / 8) * 8 + c % 8 = sw0 c /\ sw0 (sw0 c) = c /\ sw0 c % 8 = c % 8 /\ sw0 c / 8 = 1 - c / 8:= by decide
 exact k c h
theorem gM {S : SI} (hf : 0 < S.fg) {ck : List Nat} {i : Nat} (hi : i < S.fg * S.rg) (h : gd ck i = 0) : wU S ck (i + 1) = wU S ck i:= by
 refine sC (by rw [zP, zP]) fun t ht => ?_
 rw [zP] at ht
 rw [wX ht, wX ht]
 by_cases e : tsq S t = i
 ·
  rw [if_pos (by lia), if_neg (by lia), e, h]; rfl
 ·
  by_cases w : tsq S t < i
  ·
   rw [if_pos w, if_pos (by exact yH w vM)]
  ·
   rw [if_neg w, if_neg (by lia)]
theorem gL {S : SI} (hf : 0 < S.fg) {ck : List Nat} {i : Nat} (hi : i < S.fg * S.rg) : wU S ck (i + 1) = (wU S ck i).set (tsq S i) (sw0 (gd ck i)):= by
 refine yW (fun _ b _ _ => ?_) (xE hf hi)
 refine sC (by rw [List.length_set, zP, zP]) fun t ht => ?_
 rw [zP] at ht
 rw [wX ht, wL (by rw [zP]; exact b), wX ht]
 by_cases e : t = tsq S i
 ·
  subst e
  rw [if_pos rfl, uR hf hi, if_pos (by lia)]
 ·
  rw [if_neg e]
  have ne : tsq S t ≠ i:= fun z => e (by rw [<- z, uR hf ht])
  by_cases w : tsq S t < i
  ·
   rw [if_pos w, if_pos (by exact yH w vM)]
  ·
   rw [if_neg w, if_neg (by lia)]
noncomputable def zZ (S : SI) (ck : List Nat) : List Nat:= wU S ck (S.fg * S.rg)
theorem jL {S : SI} (hf : 0 < S.fg) {ck : List Nat} {t : Nat} (ht : t < S.fg * S.rg) : gd (zZ S ck) t = sw0 (gd ck (tsq S t)):= by
 unfold zZ
 rw [wX ht, if_pos (xE hf ht).2.1]
theorem rX {S : SI} (hf : 0 < S.fg) {ck : List Nat} (hv : Val ck) : Val (zZ S ck):= fun c hc => by
 obtain ⟨i, hi, e⟩:= List.getElem_of_mem hc
 have g:= xN hi
 rw [List.getElem?_eq_getElem hi, e] at g
 have g:= Option.some.inj g
 rw [zZ, zP] at hi
 rw [jL hf hi] at g
 by_cases z : gd ck (tsq S i) = 0
 ·
  left; rw [g, z]; rfl
 ·
  right; rw [g]; exact (pL (hv.gd _ z)).1
theorem lJ {S : SI} (hf : 0 < S.fg) {ck : List Nat} (hv : Val ck) (hl : ck.length = S.fg * S.rg) : zZ S (zZ S ck) = ck:= by
 refine sC (by rw [zZ, zP, hl]) fun t ht => ?_
 rw [zZ, zP] at ht
 refine yW (fun _ b _ _ => ?_) (xE hf ht)
 rw [jL hf ht, jL hf b, uR hf ht]
 by_cases z : gd ck t = 0
 ·
  rw [z]; rfl
 ·
  exact (pL (hv.gd _ z)).2.2.1
noncomputable def rS (S : SI) (v : PV) (ck : List Nat) (w r : Nat) : PV :=
 ⟨cI (zZ S ck), kL (zZ S ck), sL (zZ S ck), [], ((1 - w : Nat) : Int), (tr r : Nat), tep S v.ep, v.half, v.full, (vQ (zZ S ck) S.fg ((1 - w : Nat) : Int) (tr r) (tep S v.ep) : Nat)⟩
theorem cX : ∀ r, r < 16 -> (r % 4 * 4 ||| r / 4) = tr r /\ tr r < 16 /\ tr (tr r) = r /\ tr r = r / 4 + r % 4 * 4:= by decide
section
variable {n : Nat} {h : Hp} {X : Hp -> Prop} {A : PA} {g z : Nat} {v : PV} {call : Call}
theorem rR {h0 : Hp} {S : SI} (hS : Stat h0 S) (hx : Ext h0 h) {s : Nat} (hs : s < S.fg * S.rg) {Q : V -> Hp -> Prop} (q : Q (.int (tsq S s : Nat)) h) : wp (run tab (n + 1) 81 [.ref S.g, .int s]) h Q X:= by
 have f2:= hS.f2
 have f8:= hS.f8
 have r8:= hS.r8
 refine yW (fun a _ _ _ => ?_) (xE (by exact yY f2 rfl) hs)
 refine zV (fn:= fn_turn_square) rfl rfl ?_
 cbv; refine zA (hx _ _ hS.geo) hS.g23 ?_
 cbv; refine zA (hx _ _ hS.geo) hS.g22 ?_
 cbv; refine yL (by exact vL (yY f2 rfl)) (by exact yP f8 rfl) ?_
 cbv; refine zA (hx _ _ hS.geo) hS.g22 ?_
 rw [show (S.rg : Int) - 1 - (s : Int) / (S.fg : Nat) = ((S.rg - 1 - s / S.fg : Nat) : Int) by
  exact sub2 a]
 have hd : S.rg - 1 - s / S.fg <= 8:= Nat.le_trans (Nat.sub_le _ _) (by exact eW r8)
 cbv; refine xF (.inl (zM (Int.lt_of_lt_of_le (by decide) (Int.natCast_nonneg _)) (Int.lt_of_le_of_lt (Int.ofNat_le.mpr hd) (by decide)))) ?_
 cbv; refine zA (hx _ _ hS.geo) hS.g22 ?_
 cbv; refine zW (by exact vL (yY f2 rfl)) ?_
 cbv; have e : ((S.rg - 1 - s / S.fg : Nat) : Int) * (S.fg : Nat) + (s : Int) % (S.fg : Nat) = ((tsq S s : Nat) : Int):= by unfold tsq; simp
 rw [e]; exact q
theorem qB {h0 : Hp} {S : SI} (hS : Stat h0 S) (hx : Ext h0 h) (x : PosAt h A S.g S.z v) {ck : List Nat} (hl : ck.length = S.fg * S.rg) (hv : Val ck) (hb : v.board = cI ck) {w r : Nat} (hw : w < 2) (hsd : v.side = (w : Int)) (hr : r < 16) (er : v.rights = (r : Int))
  (he : v.ep = -1 \/ ∃ e : Nat, e < S.fg * S.rg /\ v.ep = (e : Int)) {Q : V -> Hp -> Prop} (q : ∀ h' A', Ext h h' -> A'.Ge h.length -> PosAt h' A' S.g S.z (rS S v ck w r) -> Q (.ref A'.p) h') : wp (run tab (n + 4) 82 [.ref A.p]) h Q X:= by
 have sz:= hS.sz
 have f2:= hS.f2
 have hf : 0 < S.fg:= yY f2 rfl
 have hlen:= hx.len
 refine zV (fn:= fn_turn_position) rfl rfl ?_
 cbv; refine zA x.pos rfl ?_
 cbv; refine zA x.pos rfl ?_
 cbv; refine sQ hS hx fun h1 B k1 ge x1 => ?_
 rw [<- gK S ck] at x1
 have ge0 : B.Ge h0.length:= by revert ge; refine yE fun g1 g2 g3 g4 g5 => ?_; exact ⟨by exact jZ hlen g1, by exact jZ hlen g2, by exact jZ hlen g3, by exact jZ hlen g4, by exact jZ hlen g5⟩
 cbv; refine zA ((hx.trans k1) _ _ hS.geo) hS.g19 ?_
 cbv; refine xS (zM (by exact uK rfl) (by exact yP sz rfl)) ?_
 cbv; refine jR zC (by exact jH sz rfl) ?_
 cbv; refine xK (h:= _) (l:= _) _ (fun i l h' => Ext h h' /\ PosAt h' B S.g S.z (pv0 (wU S ck i)) /\ get 47 l = some (.ref A.p) /\ get 8 l = some (.ref S.g) /\ get 62 l = some (.ref B.p)) (by simp; exact jH sz rfl) (fun _ _ _ _ => rfl) (fun i l h' y hv1 I => ?_) (fun l h' I => ?_) ⟨k1.app' _, x1.ext (Ext.app h1 _), rfl, rfl, rfl⟩
 ·
  refine oA (fun hi t01 => ?_) (xW hv1); obtain rfl:= t01
  revert I; refine yE fun i1 i2 i3 i4 i5 => ?_
  have xx:= x.ext i1
  have hx':= hx.trans i1
  cbv; refine zA xx.pos rfl ?_
  cbv; refine xB (y:= (gd ck i : Nat)) xx (by exact zK) (by rw [hb, toN]; exact yG (by exact uN hl hi)) (by exact xJ (yH hi sz) rfl) ?_
  cbv; refine zB (fun c => ?_) fun c => ?_
  ·
   have c : gd ck i ≠ 0:= tJ c
   have hm:= hv.gd i c
   refine yE (fun m1 m2 m3 m4 m5 => ?_) (xD hm)
   refine oAA (fun s1 s2 _ => ?_) (pL hm)
   refine yW (fun _ tb _ _ => ?_) (xE hf hi)
   cbv; refine tB (by exact zK) ?_
   rw [(ks8 _).2]
   cbv; refine vW ?_
   rw [(ks8 _).1]
   cbv; refine vT ?_
   rw [show ((1 : Int) - ((gd ck i / 8 : Nat) : Int)) * 8 + ((gd ck i % 8 : Nat) : Int) = ((sw0 (gd ck i) : Nat) : Int) by rw [<- s2]; exact kpw m3]
   cbv; refine rR hS hx' hi ?_
   cbv; refine qK hS hx' ge0 (zP _ _ _) i2 (by rw [zP]; exact tb) (by rw [wX tb, uR hf hi, if_neg (by lia)]) s1 fun h2 k2 x2 => ?_
   cbv; exact ⟨k2.ext i1 ge, by rw [gL hf hi]; exact x2, by walk_at "lc", by walk_at "lc", by walk_at "lc"⟩
  ·
   have c : gd ck i = 0:= qW c
   cbv; exact ⟨i1, by rw [gM hf hi c]; exact i2, by walk_at "lc", by walk_at "lc", by walk_at "lc"⟩
 ·
  revert I; refine yE fun i1 i2 i3 i4 i5 => ?_
  rw [List.length_map, List.length_range] at i2
  have M0 : Mk h h' B S.g S.z (pv0 (zZ S ck)) B.p:= ⟨i1, ge, i2, rfl⟩
  generalize et : zZ S ck = tc at M0
  cbv; refine zA (i1 _ _ x.pos) rfl ?_
  rw [hsd]
  cbv; refine M0.set (v':= ⟨cI tc, kL tc, sL tc, [], 1 - (w : Int), 0, -1, 0, 1, (jP tc : Nat)⟩) rfl rfl rfl rfl rfl fun h2 M2 => ?_
  cbv; refine zA (M2.k _ _ x.pos) rfl ?_
  rw [er]
  cbv; rw [PyProof.Rows.bitAnd_m2, show (r : Int) % 4 = ((r % 4 : Nat) : Int) by lia]
  cbv; refine wC (by decide) (by decide) (zM (by exact uK rfl) (by exact at34 rfl)) ?_
  cbv; refine zA (M2.k _ _ x.pos) rfl ?_
  rw [er]
  cbv; refine lS (by exact zK) (by decide) (by decide) ?_
  refine yW (fun t1 t2 t3 t4 => ?_) (cX r hr)
  rw [show ((r % 4 : Nat) : Int) * 2 ^ (2 : Int).toNat = ((r % 4 * 4 : Nat) : Int) by rw [show (2 : Int).toNat = 2 from rfl]; lia, show (r : Int) / 2 ^ (2 : Int).toNat = ((r / 4 : Nat) : Int) by rw [show (2 : Int).toNat = 2 from rfl]; lia]
  cbv; rw [bOr, t1]
  refine M2.set (v':= ⟨cI tc, kL tc, sL tc, [], 1 - (w : Int), (tr r : Nat), -1, 0, 1, (jP tc : Nat)⟩) rfl rfl rfl rfl rfl fun h3 M3 => ?_
  try refine yI ?_
  refine yD (fun l h' => Mk h h' B S.g S.z ⟨cI tc, kL tc, sL tc, [], 1 - (w : Int), (tr r : Nat), tep S v.ep, 0, 1, (jP tc : Nat)⟩ B.p /\ get 47 l = some (.ref A.p) /\ get 62 l = some (.ref B.p)) ?_ fun l4 h4 => oAA fun M4 g1 g2 => ?_
  ·
   cbv; refine zA (M3.k _ _ x.pos) rfl ?_
   cbv; rcases he with e | ⟨e, he, e2⟩
   ·
    cbv; refine yV (by rw [e]; rfl) ?_
    cbv; refine ⟨?_, i3, i5⟩
    have : tep S v.ep = -1:= by unfold tep; rw [e]; rfl
    rw [this]; exact M3
   ·
    cbv; refine jI (by rw [e2]; exact eTr (by exact zK)) ?_
    cbv; refine zA (M3.k _ _ x.pos) rfl ?_
    rw [e2]
    cbv; refine rR hS (hx.trans M3.k) he ?_
    cbv; have : tep S ((e : Nat) : Int) = (tsq S e : Nat):= by unfold tep; rw [if_pos (by exact zK), toN]
    rw [this]
    refine M3.set (v':= ⟨cI tc, kL tc, sL tc, [], 1 - (w : Int), (tr r : Nat), (tsq S e : Nat), 0, 1, (jP tc : Nat)⟩) rfl rfl rfl rfl rfl fun h4 M4 => ?_
    cbv; exact ⟨M4, i3, i5⟩
  cbv; refine zA (M4.k _ _ x.pos) rfl ?_
  cbv; refine M4.set (v':= ⟨cI tc, kL tc, sL tc, [], 1 - (w : Int), (tr r : Nat), tep S v.ep, v.half, 1, (jP tc : Nat)⟩) rfl rfl rfl rfl rfl fun h5 M5 => ?_
  cbv; refine zA (M5.k _ _ x.pos) rfl ?_
  cbv; refine M5.set (v':= ⟨cI tc, kL tc, sL tc, [], 1 - (w : Int), (tr r : Nat), tep S v.ep, v.half, v.full, (jP tc : Nat)⟩) rfl rfl rfl rfl rfl fun h6 M6 => ?_
  cbv; have hw1 : (1 : Int) - (w : Int) = ((1 - w : Nat) : Int):= gB (cr hw rfl)
  cbv; refine pM (ck:= tc) (w:= 1 - w) (r:= tr r) hS (hx.trans M6.k) M6.x (by rw [<- et, zZ, zP]) (by rw [<- et]; exact rX hf hv) rfl (by exact at32) hw1 t2 rfl fun h7 k7 x7 => ?_
  cbv; refine q _ B (k7.ext M6.k ge) ge ?_
  unfold rS
  rw [et]
  rw [hw1] at x7
  exact x7
end
theorem sw0_eq {ck : List Nat} (hv : Val ck) {s m : Nat} (h : sw0 (gd ck s) = m) (hm : m ≠ 0) : gd ck s = sw0 m:= by
 by_cases z : gd ck s = 0
 ·
  rw [z] at h; exact absurd h.symm hm
 ·
  rw [<- h, (pL (hv.gd _ z)).2.2.1]
theorem mr {S : SI} (hf : 0 < S.fg) {ck : List Nat} (hl : ck.length = S.fg * S.rg) (hv : Val ck) {m : Nat} (hm : m ≠ 0) (u : U ck m) (hs : sw0 (sw0 m) = m) (hs0 : sw0 m ≠ 0) : U (zZ S ck) (sw0 m):= by
 revert u; refine xG fun i h1 h2 h3 => ?_
 rw [hl] at h1 h3
 refine yW (fun _ tb _ _ => ?_) (xE hf h1)
 refine ⟨tsq S i, by rw [zZ, zP]; exact tb, by rw [jL hf tb, uR hf h1, h2], fun j hj ej => ?_⟩
 rw [zZ, zP] at hj
 rw [jL hf hj] at ej
 have e:= sw0_eq hv ej hs0
 rw [hs] at e
 have:= h3 _ (xE hf hj).2.1 e
 rw [<- this, uR hf hj]
theorem dM {S : SI} (hf : 0 < S.fg) (hr : 0 < S.rg) {ck : List Nat} (hv : Val ck) (h : oR S (zZ S ck)) : oR S ck:= by
 revert h; refine xG fun s h1 h2 h3 => ?_
 refine yW (fun ta tb tc td => ?_) (xE hf h1)
 rw [jL hf h1] at h3
 refine ⟨tsq S s, tb, ?_, ?_⟩
 ·
  have eN : S.fg * S.rg - S.fg = S.fg * (S.rg - 1):= by rw [Nat.mul_sub, Nat.mul_one]
  revert h2; refine oO (fun h2 => ?_) fun h2 => ?_
  ·
   right
   rw [Nat.div_eq_of_lt h2] at tc
   have:= Nat.div_mul_le_self (tsq S s) S.fg
   rw [tc, Nat.sub_zero, Nat.mul_comm] at this
   exact jO eN this
  ·
   left
   have : S.rg - 1 <= s / S.fg:= (Nat.le_div_iff_mul_le hf).mpr (by rw [Nat.mul_comm]; exact ar19 eN h2)
   have e0 : tsq S s / S.fg = 0:= by rw [tc]; generalize s / S.fg = d at this; exact ar74 this
   exact (Nat.div_eq_zero_iff_lt hf).mp e0
 ·
  by_cases z : gd ck (tsq S s) = 0
  ·
   rw [z] at h3; cases h3
  ·
   rw [<- (pL (hv.gd _ z)).2.2.2.1]; exact h3
theorem ay {S : SI} (hf : 2 <= S.fg) (hr : 0 < S.rg) {i : Nat} (hi : i < 4) : tsq S (S.kingSq i) = S.kingSq ((i + 2) % 4) /\ tsq S (S.rookSq i) = S.rookSq ((i + 2) % 4) /\ S.room ((i + 2) % 4) = S.room i:= by
 have eN : S.fg * S.rg - S.fg = (S.rg - 1) * S.fg:= by rw [Nat.sub_mul, Nat.one_mul, Nat.mul_comm]
 have key : ∀ c, c < S.fg -> tsq S c = S.fg * S.rg - S.fg + c /\ tsq S (S.fg * S.rg - S.fg + c) = c:= fun c hc => by
  have h0 : c < S.fg * S.rg:= Nat.lt_of_lt_of_le hc (Nat.le_mul_of_pos_right _ hr)
  have e : tsq S c = S.fg * S.rg - S.fg + c:= by
   unfold tsq; rw [Nat.div_eq_of_lt hc, Nat.mod_eq_of_lt hc, Nat.sub_zero, eN]
  exact ⟨e, by rw [<- e, uR (by exact yY hf rfl) h0]⟩
 have k1:= key (S.fg / 2) (by exact at17 hf)
 have k2:= key 0 (by exact yY hf rfl)
 have k3:= key (S.fg - 1) (by lia)
 have K0 : S.kingSq 0 = S.fg / 2:= by simp [SI.kingSq]
 have K1 : S.kingSq 1 = S.fg / 2:= by simp [SI.kingSq]
 have K2 : S.kingSq 2 = S.fg * S.rg - S.fg + S.fg / 2:= by simp [SI.kingSq]
 have K3 : S.kingSq 3 = S.fg * S.rg - S.fg + S.fg / 2:= by simp [SI.kingSq]
 have R0 : S.rookSq 0 = S.fg - 1:= by simp [SI.rookSq]
 have R1 : S.rookSq 1 = 0:= by simp [SI.rookSq]
 have R2 : S.rookSq 2 = S.fg * S.rg - S.fg + (S.fg - 1):= by simp [SI.rookSq]
 have R3 : S.rookSq 3 = S.fg * S.rg - S.fg + 0:= by simp [SI.rookSq]
 have : i = 0 \/ i = 1 \/ i = 2 \/ i = 3:= at14 hi
 rcases this with rfl | rfl | rfl | rfl
 ·
  exact ⟨by rw [K0, k1.1]; exact K2.symm, by rw [R0, k3.1]; exact R2.symm, rfl⟩
 ·
  exact ⟨by rw [K1, k1.1]; exact K3.symm, by rw [R1, k2.1]; exact R3.symm, rfl⟩
 ·
  exact ⟨by rw [K2, k1.2]; exact K0.symm, by rw [R2, k3.2]; exact R0.symm, rfl⟩
 ·
  exact ⟨by rw [K3, k1.2]; exact K1.symm, by rw [R3, k2.2]; exact R1.symm, rfl⟩
theorem tr_bit : ∀ r, r < 16 -> ∀ i, i < 4 -> (tr r).testBit i = r.testBit ((i + 2) % 4):= by decide +kernel
theorem aM {S : SI} {h0 : Hp} (hS : Stat h0 S) {ck : List Nat} (hv : Val ck) {i : Nat} (hi : i < 4) (h : yS S ck ((i + 2) % 4) = true) : yS S (zZ S ck) i = true:= by
 have f2:= hS.f2
 have r3:= hS.r3
 refine oAA (fun q1 q2 _ => ?_) (hS.sq hi)
 refine oAA (fun t1 t2 t3 => ?_) (ay (S:= S) f2 (by exact yY r3 rfl) hi)
 unfold yS at h ⊢
 simp only [Bool.and_eq_true, decide_eq_true_eq] at h ⊢
 revert h; refine oA <| oA <| oA fun h1 h2 h3 h4 => ?_
 rw [jL (by exact yY f2 rfl) q1, jL (by exact yY f2 rfl) q2, t1, t2, h3, h4]
 refine ⟨⟨⟨h1, t3 ▸ h2⟩, ?_⟩, ?_⟩
 ·
  have : i = 0 \/ i = 1 \/ i = 2 \/ i = 3:= at14 hi
  rcases this with rfl | rfl | rfl | rfl <;> rfl
 ·
  have : i = 0 \/ i = 1 \/ i = 2 \/ i = 3:= at14 hi
  rcases this with rfl | rfl | rfl | rfl <;> rfl
theorem rh {S : SI} (h4 : S.fg = 4) (h5 : S.rg = 5) {ck : List Nat} {w f : Nat} (hw : w < 2) (hf : f < 4) (h : wV ck w f = true) : wV (zZ S ck) (1 - w) f = true /\ tsq S (8 + f) = 8 + f:= by
 have t4 : ∀ s, tsq S s = (4 - s / 4) * 4 + s % 4:= fun s => by unfold tsq; rw [h4, h5]
 have g : ∀ s, s < 20 -> gd (zZ S ck) s = sw0 (gd ck ((4 - s / 4) * 4 + s % 4)):= fun s hs => by rw [jL (by exact tm h4 rfl) (by rw [h4, h5]; exact hs), t4]
 rw [passOk_is] at h ⊢
 revert h; refine oA <| oAA fun a b c d => ?_
 have hb : zH w f < 20:= (aq2 w hw f hf).1
 have e1:= aq4 f hf
 have e2:= aq5 w hw f hf
 have e3:= aq6 w hw f hf
 have e4:= aq7 w hw f hf
 have e5:= aq8 w hw f hf
 have s1 : sw0 (9 - 8 * w) = 9 - 8 * (1 - w):= by
  have : w = 0 \/ w = 1:= by lia
  rcases this with rfl | rfl <;> rfl
 have s2 : sw0 (1 + 8 * w) = 1 + 8 * (1 - w):= by
  have : w = 0 \/ w = 1:= by lia
  rcases this with rfl | rfl <;> rfl
 refine ⟨⟨⟨?_, ?_, ?_⟩, ?_⟩, by rw [t4, e1]⟩
 ·
  rw [g _ (by exact oF (cN hf) rfl), e1, a]; rfl
 ·
  rw [g _ e2.2, e2.1, b]; rfl
 ·
  rw [g _ e3.2, e3.1, c, s1]
 ·
  unfold bes eS cK at d ⊢
  rw [List.mem_append] at d ⊢
  revert d; refine oO (fun d => ?_) fun d => ?_
  ·
   left
   split at d
   ·
    rename_i hf1
    rw [if_pos hf1, List.mem_singleton, g _ (by exact tg e3.2), e4 hf1, <- List.mem_singleton.mp d, s2]
   ·
    cases d
  ·
   right
   split at d
   ·
    rename_i hf1
    rw [if_pos hf1, List.mem_singleton, g _ (e5 hf1).2, (e5 hf1).1, <- List.mem_singleton.mp d, s2]
   ·
    cases d
theorem kN {S : SI} {h0 : Hp} (hS : Stat h0 S) {v : PV} {ck : List Nat} {w r : Nat} (G : Good S v ck w) (er : v.rights = (r : Int)) (hr : r < 16) : Good S (rS S v ck w r) (zZ S ck) (1 - w) /\ Rough S (rS S v ck w r) /\ (v.ep = -1 \/ ∃ e : Nat, e < S.fg * S.rg /\ v.ep = (e : Int)) /\ tep S (tep S v.ep) = v.ep /\ (tep S v.ep = -1 \/ ∃ e : Nat, e < S.fg * S.rg /\ tep S v.ep = (e : Int)):= by
 have f2:= hS.f2
 have r3:= hS.r3
 have sz:= hS.sz
 have hw:= G.hw
 have hl:= G.B.len
 have hv:= G.B.val
 have hf : 0 < S.fg:= yY f2 rfl
 have tv:= rX hf hv
 have tl : (zZ S ck).length = S.fg * S.rg:= zP _ _ _
 refine xG (fun r' er' hr' hro => ?_) G.rights
 have : r' = r:= by lia
 subst this
 have t2:= (cX r' hr).2.1
 have epc : v.ep = -1 \/ ∃ e : Nat, e < S.fg * S.rg /\ v.ep = (e : Int):= by
  rcases G.ep with e | ⟨e, e1, e2⟩
  ·
   exact .inl e
  ·
   refine oAA (fun hd q1 q2 => ?_) (lX e2)
   refine oA (fun d1 d2 => ?_) (hS.dbl hd)
   exact .inr ⟨e, by rw [d1, d2]; exact oF q2 rfl, e1⟩
 have tepc : tep S v.ep = -1 \/ ∃ e : Nat, e < S.fg * S.rg /\ tep S v.ep = (e : Int):= by
  rcases epc with e | ⟨e, e1, e2⟩
  ·
   left; unfold tep; rw [e]; rfl
  ·
   right; exact ⟨_, (xE hf e1).2.1, by unfold tep; rw [e2, if_pos (by exact zK), toN]⟩
 have tt : tep S (tep S v.ep) = v.ep:= by
  rcases epc with e | ⟨e, e1, e2⟩
  ·
   rw [e]; rfl
  ·
   have : tep S v.ep = (tsq S e : Nat):= by unfold tep; rw [e2, if_pos (by exact zK), toN]
   rw [this, e2]; unfold tep; rw [if_pos (by exact zK), toN, uR hf e1]
 have B : Boards S (rS S v ck w r') (zZ S ck):= ⟨tl, tv, rfl, rfl, rfl⟩
 refine ⟨⟨by exact at32, rfl, G.half, G.full, B, ?_, ?_, fun o => G.pawns (dM hf (by exact yY r3 rfl) hv o), ⟨tr r', rfl, t2, fun i hi hb => ?_⟩, ?_⟩, ?_, epc, tt, tepc⟩
 ·
  exact mr hf hl hv (m:= 14) (by decide) G.k1 (by decide) (by decide)
 ·
  exact mr hf hl hv (m:= 6) (by decide) G.k0 (by decide) (by decide)
 ·
  rw [tr_bit r' hr i hi] at hb
  exact aM hS hv hi (hro _ (Nat.mod_lt _ (by decide)) hb)
 ·
  rcases G.ep with e | ⟨e, e1, e2⟩
  ·
   left; show tep S v.ep = -1; unfold tep; rw [e]; rfl
  ·
   refine uE (fun hd f m1 m2 m3 => ?_) (mem_passed.mp e2)
   refine oA (fun d1 d2 => ?_) (hS.dbl hd)
   refine oA (fun p1 p2 => ?_) (rh d1 d2 hw m1 m3)
   right
   refine ⟨8 + f, ?_, mem_passed.mpr ⟨hd, f, m1, rfl, p1⟩⟩
   show tep S v.ep = _
   unfold tep; rw [e1, if_pos (by exact zK), toN, m2, p2]
 ·
  have P : Pre0 S (zZ S ck) 1 (rS S v ck w r'):= ⟨rfl, rfl, rfl, ⟨_, rfl⟩, by show ([] : List (List Int)).length <= 1; decide, by show (-1 : Int) <= (tr r' : Nat); exact sy rfl, by show ((tr r' : Nat) : Int) <= 16; exact lR t2 rfl, by show -2 <= tep S v.ep; rcases tepc with e | ⟨e, e1, e2⟩ <;> lia, by show tep S v.ep <= _; rcases tepc with e | ⟨e, e1, e2⟩ <;> lia⟩
  exact (P.rough tl sz tv).1
theorem dC {S : SI} {h0 : Hp} (hS : Stat h0 S) {v : PV} {ck : List Nat} {w r : Nat} (G : Good S v ck w) (er : v.rights = (r : Int)) (hr : r < 16) (hh : v.hist = []) (hk : v.key = (vQ ck S.fg (w : Int) r v.ep : Nat)) : rS S (rS S v ck w r) (zZ S ck) (1 - w) (tr r) = v:= by
 have f2:= hS.f2
 have hw:= G.hw
 refine yE (fun _ _ _ tt _ => ?_) (kN hS G er hr)
 have e1:= lJ (S:= S) (by exact yY f2 rfl) G.B.val G.B.len
 have e2:= (cX r hr).2.2.1
 have e3 : 1 - (1 - w) = w:= aq11 w hw
 unfold rS
 dsimp only
 rw [e1, e2, e3, tt, <- G.B.b, <- G.B.k, <- G.B.s, <- G.side, <- er]
 obtain ⟨q1, q2, q3, q4, q5, q6, q7, q8, q9, q10⟩:= v
 have hs:= G.side
 dsimp only at hh hk hs ⊢
 rw [hh, hk, hs]
set_option maxHeartbeats 4000000
theorem pP (lo : Int) : ∀ n, xX lo n = (List.range n).map (fun (i : Nat) => V.int (lo - i))
 | 0 => rfl
 | n + 1 => by
  simp only [xX, pP (lo - 1) n, List.range_succ_eq_map, List.map_cons, List.map_map]
  congr 1
  ·
   congr 1; lia
  ·
   refine List.map_congr_left fun i _ => ?_
   simp only [Function.comp]; congr 1; lia
noncomputable def pK (S : SI) (ck : List Nat) (k : Nat) : List Nat:= (List.range k).map fun t => sw0 (gd ck (tsq S t))
theorem fu {S : SI} (hf : 0 < S.fg) (ck : List Nat) : pK S ck (S.fg * S.rg) = zZ S ck:= by
 unfold pK zZ wU
 refine List.map_congr_left fun t ht => ?_
 rw [if_pos (xE hf (List.mem_range.mp ht)).2.1]
noncomputable def sF (S : SI) (ck : List Nat) (r : Nat) : List Nat:= (ck.take ((r + 1) * S.fg)).drop (r * S.fg)
theorem fw {S : SI} (hf : 0 < S.fg) {ck : List Nat} (hl : ck.length = S.fg * S.rg) {i : Nat} (hi : i < S.rg) : pK S ck ((i + 1) * S.fg) = pK S ck (i * S.fg) ++ (sF S ck (S.rg - 1 - i)).map sw0:= by
 have hr : (S.rg - 1 - i + 1) * S.fg <= ck.length:= by
  rw [hl, Nat.mul_comm]; exact Nat.mul_le_mul_left _ (by exact ar77 hi)
 have hbl : (sF S ck (S.rg - 1 - i)).length = S.fg:= by
  unfold sF
  rw [List.length_drop, List.length_take, Nat.min_eq_left hr, Nat.add_mul, Nat.one_mul, Nat.add_sub_cancel_left]
 refine List.ext_getElem? fun t => ?_
 by_cases h1 : t < i * S.fg
 ·
  have h2 : t < (i + 1) * S.fg:= by rw [Nat.add_mul, Nat.one_mul]; exact yH h1 vM
  rw [List.getElem?_append_left (by simp [pK]; exact h1)]
  unfold pK
  rw [List.getElem?_map, List.getElem?_map, List.getElem?_range h1, List.getElem?_range h2]
 ·
  rw [List.getElem?_append_right (by simp [pK]; exact uM h1)]
  rw [show (pK S ck (i * S.fg)).length = i * S.fg by simp [pK]]
  by_cases h2 : t < (i + 1) * S.fg
  ·
   obtain ⟨k, hk, rfl⟩ : ∃ k, k < S.fg /\ t = i * S.fg + k:= ⟨t - i * S.fg, by rw [Nat.add_mul, Nat.one_mul] at h2; exact ar66 (uM h1) h2, by exact ar64 (uM h1)⟩
   rw [Nat.add_sub_cancel_left]
   unfold pK
   rw [List.getElem?_map, List.getElem?_range h2, List.getElem?_map]
   have e1 : tsq S (i * S.fg + k) = (S.rg - 1 - i) * S.fg + k:= by
    unfold tsq
    rw [Nat.add_comm (i * S.fg) k, Nat.add_mul_div_right _ _ hf, Nat.div_eq_of_lt hk, Nat.zero_add, Nat.add_mul_mod_self_right, Nat.mod_eq_of_lt hk]
   have e2 : (S.rg - 1 - i) * S.fg + k < (S.rg - 1 - i + 1) * S.fg:= by rw [Nat.add_mul, Nat.one_mul]; exact cN hk
   have e3 : (sF S ck (S.rg - 1 - i))[k]? = some (gd ck ((S.rg - 1 - i) * S.fg + k)):= by
    unfold sF
    rw [List.getElem?_drop, List.getElem?_take_of_lt e2]
    exact xN (by exact yH e2 hr)
   rw [e3]
   simp only [Option.map_some, e1]
  ·
   rw [List.getElem?_eq_none (by simp [pK]; exact uM h2), List.getElem?_eq_none (by rw [List.length_map, hbl]; rw [Nat.add_mul, Nat.one_mul] at h2; exact ar67 (uM h2))]
section
variable {n : Nat} {h : Hp} {X : Hp -> Prop} {A : PA} {g z : Nat} {v : PV} {call : Call}
theorem cz {n : Nat} {lo : Int} {k : Nat} {Q : Src -> Hp -> Prop} (e : h[n]? = some (.rng lo (-1) (-1))) (s : small lo = true) (hk : (lo - (-1)).toNat = k) (q : Q (.fix ((List.range k).map fun (i : Nat) => V.int (lo - i))) h) : wp (jM (.ref n)) h Q X:= by
 have s0 : small (-1 : Int) = true:= rfl
 have e2 : rF lo (-1) (-1) = some ((List.range k).map fun (i : Nat) => V.int (lo - i)):= by
  simp only [rF, s, s0, Bool.and_self, cond_true, pP, hk, decide_true]
  rfl
 simp only [wp, jM, e, e2]; exact q
theorem bf {c : Nat} {l : Loc} {it : ME} {blk : List Nat} (hl : blk.length <= 60) {Q : V -> Hp -> Prop}
  (ev : ∀ Q' : V -> Hp -> Prop, (∀ h' b, Ext h h' -> h'[b]? = some (.lst (il (cI blk))) -> Q' (.ref b) h') -> wp (eval tab call it l) h Q' X)
  (q : ∀ h' r, Ext h h' -> h'[r]? = some (.lst (il (cI (blk.map sw0)))) -> Q (.ref r) h') :
  wp (eval tab call (.comp (.ite (.cmp (.loc 145) (.cc .ne (.int 0) .nil)) (.bin .mod (.bin .add (.loc 145) (.int 8)) (.int 16)) (.int 0)) 145 it) l) h Q X:= by
 refine e_comp (ev _ fun h0 b k0 e => ?_)
 cbv; refine pI e ?_
 cbv; refine tL (h:= _) (il (cI blk)) (fun i acc h' => Ext h0 h' /\ acc = il (cI ((blk.take i).map sw0))) (by simp [cI]; exact jH hl rfl) (fun i acc h' I => by simp [jV, zO, I.1 _ _ e]) (fun i acc h' v hv1 I => ?_) (fun acc h' I => ?_) ⟨Ext.refl h0, by simp [cI]⟩
 ·
  revert I; refine oA fun i1 t01 => ?_; obtain rfl:= t01
  have hi:= (List.getElem?_eq_some_iff.mp hv1).1
  rw [List.length_map, zN] at hi
  have ey : v = .int (gd blk i : Nat):= by
   have:= tU (yG hi)
   rw [hv1] at this
   exact Option.some.inj this
  subst ey
  have tk : blk.take (i + 1) = blk.take i ++ [gd blk i]:= by rw [List.take_add_one, xN hi]; rfl
  have fin : ∀ y : Int, y = ((sw0 (gd blk i) : Nat) : Int) -> Ext h0 h' /\ il (cI ((blk.take i).map sw0)) ++ [V.int y] = il (cI ((blk.take (i + 1)).map sw0)):= fun y ey => ⟨i1, by rw [tk, ey]; simp [cI]⟩
  cbv; refine zB (fun d => ?_) fun d => ?_
  ·
   cbv; refine zW (by decide) ?_
   cbv; exact fin _ (by unfold sw0; rw [if_neg (by exact tJ d)]; lia)
  ·
   cbv; exact fin _ (by unfold sw0; rw [if_pos (by exact qW d)]; rfl)
 ·
  revert I; refine oA fun i1 t01 => ?_; obtain rfl:= t01
  rw [List.length_map, zN, List.take_length]
  cbv; refine xL (by show (il (cI (blk.map sw0))).length <= _; simp [cI]; exact yB hl rfl) ?_
  exact q _ _ ((k0.trans i1).app' _) zC
theorem fQ {h0 : Hp} {S : SI} (hS : Stat h0 S) (hx : Ext h0 h) (ge : A.Ge h0.length) (x : PosAt h A S.g S.z v) (R : Rough S v) {ck : List Nat} {w : Nat} (G : Good S v ck w) {Q : V -> Hp -> Prop} (q : ∀ h', Q (.bool true) h') :
  wp (run tab (n + 6) 154 [.ref A.p, .int S.fg, .int S.rg]) h Q X:= by
 have sz:= hS.sz
 have f2:= hS.f2
 have f8:= hS.f8
 have r3:= hS.r3
 have r8:= hS.r8
 have hf : 0 < S.fg:= yY f2 rfl
 have hw:= G.hw
 have hl:= G.B.len
 have hv:= G.B.val
 refine xG (fun r er hr hro => ?_) G.rights
 have tv:= rX hf hv
 have tl : (zZ S ck).length = S.fg * S.rg:= zP _ _ _
 refine zV (fn:= fn_law_turns) rfl rfl ?_
 cbv; refine zA x.pos rfl ?_
 cbv; refine pM hS hx x hl hv G.B.b hw G.side hr er fun h1 k1 x1 => ?_
 have hx1:= k1.ext hx ge
 have G1 : Good S { v with key:= (vQ ck S.fg w r v.ep : Nat) } ck w:= ⟨G.hw, G.side, G.half, G.full, ⟨hl, hv, G.B.b, G.B.k, G.B.s⟩, G.k0, G.k1, G.pawns, G.rights, G.ep⟩
 have R1 : Rough S { v with key:= (vQ ck S.fg w r v.ep : Nat) }:= ⟨R.kinds, R.sides, R.b1, R.b2, R.bval, R.hist, ⟨_, rfl⟩, R.r1, R.r2, R.e1, R.e2⟩
 have ek : ({ v with key:= (vQ ck S.fg w r v.ep : Nat) } : PV).key = (vQ ck S.fg w r v.ep : Nat):= rfl
 have ee : ({ v with key:= (vQ ck S.fg w r v.ep : Nat) } : PV).ep = v.ep:= rfl
 rw [<- ee] at ek
 have er1 : ({ v with key:= (vQ ck S.fg w r v.ep : Nat) } : PV).rights = (r : Int):= er
 generalize ({ v with key:= (vQ ck S.fg w r v.ep : Nat) } : PV) = v1 at x1 G1 R1 ek er1
 clear ee x R G er k1 hx
 have hsd:= G1.side
 refine yE (fun G2 R2 epc tt tepc => ?_) (kN hS G1 er1 hr)
 have xb : ∀ {h' : Hp}, Ext h1 h' -> h'[A.b]? = some (.lst (il (cI ck))):= fun k => by rw [<- G1.B.b]; exact k _ _ x1.board
 cbv; refine zA x1.pos rfl ?_
 cbv; refine zA x1.pos rfl ?_
 cbv; refine zA x1.pos rfl ?_
 cbv; refine zA x1.pos rfl ?_
 rw [er1, hsd, ek]
 cbv; refine sU (xb (Ext.refl _)) (by exact jO hl sz) hv hf f8 hr fun h2 k2 => ?_
 cbv; refine zB (fun c => absurd rfl c) fun _ => ?_
 cbv; refine wW (x1.ext k2) (R1.bnd sz) fun h3 r3' k3 Rw3 => ?_
 have k13:= k2.trans k3
 cbv; refine qB hS (hx1.trans k13) (x1.ext k13) hl hv G1.B.b hw hsd hr er1 epc fun h4 B k4 geB y4 => ?_
 have k14:= k13.trans k4
 cbv; refine wW (x1.ext k14) (R1.bnd sz) fun h5 r5 k5 Rw5 => ?_
 have k15:= k14.trans k5
 cbv; refine rP Rw5.deep ((Rw3.ext k4).ext k5).deep ?_
 rw [(pO _ _).mpr rfl]
 cbv; try refine yV rfl ?_
 have y5:= y4.ext k5
 cbv; refine zG rfl ?_
 have ka:= Ext.app h5 [O.lst []]
 have na:= zC (h:= h5) (o:= O.lst [])
 have y6:= y5.ext ka
 have k16:= k15.trans ka
 generalize hgh6 : h5 ++ [O.lst []] = h6 at ka na y6 k16 ⊢
 generalize h5.length = c0 at na ⊢
 try refine yI ?_
 refine yD (fun l h' => Ext h6 h' /\ (get 47 l = some (.ref A.p) /\ get 22 l = some (.int S.fg) /\ get 23 l = some (.int S.rg) /\ get 155 l = some (.ref B.p)) /\ ∃ cur, get 156 l = some (.ref cur) /\ h'[cur]? = some (.lst (il (cI (zZ S ck))))) ?_ fun l7 h7 => tC fun k7 => yW fun g1 g2 g3 g4 cur g5 n7 => ?_
 ·
  cbv; rw [show (S.rg : Int) - 1 = ((S.rg - 1 : Nat) : Int) by exact gB (cO r3 rfl)]
  cbv; refine dh (zM (by exact uK rfl) (by exact yP (eW r8) rfl)) rfl ?_
  cbv; refine cz (k:= S.rg) zC (zM (by exact uK rfl) (by exact yP (eW r8) rfl)) (tnat1 (cO r3 rfl)) ?_
  cbv; refine xK (h:= _) (l:= _) _ (fun i l h' => Ext h6 h' /\ (get 47 l = some (.ref A.p) /\ get 22 l = some (.int S.fg) /\ get 23 l = some (.int S.rg) /\ get 155 l = some (.ref B.p) /\ get 120 l = some (.ref A.b)) /\ ∃ cur, get 156 l = some (.ref cur) /\ h'[cur]? = some (.lst (il (cI (pK S ck (i * S.fg)))))) (by simp; exact jH r8 rfl) (fun _ _ _ _ => rfl) (fun i l h' y hv1 I => ?_) (fun l h' I => ?_) ⟨Ext.app h6 _, ⟨rfl, rfl, rfl, rfl, rfl⟩, c0, rfl, by rw [Nat.zero_mul]; exact zI na⟩
  ·
   obtain ⟨hi, ey⟩ : i < S.rg /\ y = .int ((S.rg - 1 - i : Nat) : Int):= by
    have hl:= (List.getElem?_eq_some_iff.mp hv1).1
    rw [List.length_map, List.length_range] at hl
    rw [List.getElem?_map, List.getElem?_range hl] at hv1
    refine ⟨hl, ?_⟩
    rw [<- Option.some.inj hv1]; show V.int _ = V.int _; congr 1; exact gB (ar49 hl)
   subst ey
   revert I; refine tC fun i1 => yE fun g1 g2 g3 g4 g0 cur g5 n5 => ?_
   have fr : (S.rg - 1 - i + 1) * S.fg <= S.fg * S.rg:= by rw [Nat.mul_comm]; exact Nat.mul_le_mul_left _ (by exact ar77 hi)
   have fr2 : (S.rg - 1 - i) * S.fg <= (S.rg - 1 - i + 1) * S.fg:= Nat.mul_le_mul_right _ (by exact vM)
   have swl : ∀ k, (pK S ck k).length = k:= fun k => by simp [pK]
   have hbl : (sF S ck (S.rg - 1 - i)).length <= 21:= by unfold sF; simp; lia
   have fi : i * S.fg <= S.rg * S.fg:= Nat.mul_le_mul_right _ (by exact cP hi)
   rw [Nat.mul_comm S.rg] at fi
   cbv; refine bf (c:= 0) (blk:= sF S ck (S.rg - 1 - i)) (by exact yB hbl rfl) (fun Q' q' => ?_) fun h8 rr k8 n8 => ?_
   ·
    cbv; refine xF (.inr (zM (by exact uK rfl) (by exact yP f8 rfl))) ?_
    rw [show ((S.rg - 1 - i : Nat) : Int) * (S.fg : Nat) = (((S.rg - 1 - i) * S.fg : Nat) : Int) by simp]
    cbv; refine xF (.inr (zM (by exact uK rfl) (by exact yP f8 rfl))) ?_
    rw [show (((S.rg - 1 - i : Nat) : Int) + 1) * (S.fg : Nat) = (((S.rg - 1 - i + 1) * S.fg : Nat) : Int) by simp]
    cbv; refine gH (a:= (S.rg - 1 - i) * S.fg) (b:= (S.rg - 1 - i + 1) * S.fg) (.inl (xb (k16.trans i1))) (by simp [cI]; exact yB (jO hl sz) rfl) (by
     show (bif decide ((0 : Int) <= (((S.rg - 1 - i) * S.fg : Nat) : Int)) && small (((S.rg - 1 - i) * S.fg : Nat) : Int) then some ((((S.rg - 1 - i) * S.fg : Nat) : Int)).toNat else .none) = some ((S.rg - 1 - i) * S.fg)
     rw [eTr (Int.natCast_nonneg _), zM (Int.lt_of_lt_of_le (by decide) (Int.natCast_nonneg _)) (Int.lt_of_le_of_lt (Int.ofNat_le.mpr (show (S.rg - 1 - i) * S.fg <= 21 by exact jZ fr2 (jZ fr sz))) (by decide))]; rfl) (by
     show (bif decide ((0 : Int) <= (((S.rg - 1 - i + 1) * S.fg : Nat) : Int)) && small (((S.rg - 1 - i + 1) * S.fg : Nat) : Int) then some ((((S.rg - 1 - i + 1) * S.fg : Nat) : Int)).toNat else .none) = some ((S.rg - 1 - i + 1) * S.fg)
     rw [eTr (Int.natCast_nonneg _), zM (Int.lt_of_lt_of_le (by decide) (Int.natCast_nonneg _)) (Int.lt_of_le_of_lt (Int.ofNat_le.mpr (show (S.rg - 1 - i + 1) * S.fg <= 21 by exact jZ fr sz)) (by decide))]; rfl) ?_
    refine q' _ _ (Ext.app h' _) ?_
    rw [zC]
    unfold sF il cI
    simp only [List.map_drop, List.map_take]
   ·
    cbv; refine iA (k8 _ _ n5) n8 (by rw [List.length_append, List.length_map, List.length_map, zN, zN, swl, List.length_map]; exact yB (ar56 (jZ fi sz) hbl) rfl) ?_
    cbv; refine ⟨(i1.trans k8).app' _, ⟨by walk_at "lc", by walk_at "lc", by walk_at "lc", by walk_at "lc", by walk_at "lc"⟩, _, get_put_eq, ?_⟩
    rw [zC, fw hf hl hi]
    simp [il, cI]
  ·
   revert I; refine tC fun i1 => yE fun g1 g2 g3 g4 g0 cur g5 n5 => ?_
   rw [List.length_map, List.length_range, Nat.mul_comm, fu hf] at n5
   cbv; exact ⟨i1, ⟨g1, g2, g3, g4⟩, cur, g5, n5⟩
 have k17:= k16.trans k7
 have x7:= x1.ext k17
 try refine yI ?_
 refine yD (fun l h' => h' = h7 /\ (get 47 l = some (.ref A.p) /\ get 22 l = some (.int S.fg) /\ get 23 l = some (.int S.rg) /\ get 155 l = some (.ref B.p) /\ get 156 l = some (.ref cur)) /\ get 3 l = some (.int (-1))) ?_ fun l8 h8 => oAA fun eh => yE fun g1 g2 g3 g4 g5 g6 => ?_
 ·
  cbv; exact ⟨rfl, ⟨by walk_at "lc", by walk_at "lc", by walk_at "lc", by walk_at "lc", by walk_at "lc"⟩, get_put_eq⟩
 subst eh
 try refine yI ?_
 refine yD (fun l h' => h' = h8 /\ (get 47 l = some (.ref A.p) /\ get 22 l = some (.int S.fg) /\ get 155 l = some (.ref B.p) /\ get 156 l = some (.ref cur)) /\ get 3 l = some (.int (tep S v1.ep))) ?_ fun l9 h9 => oAA fun eh => yW fun g1 g2 g4 g5 g6 => ?_
 ·
  cbv; refine zA x7.pos rfl ?_
  cbv; rcases epc with e | ⟨e, he, e2⟩
  ·
   cbv; refine yV (by rw [e]; rfl) ?_
   cbv; exact ⟨rfl, ⟨g1, g2, g4, g5⟩, by rw [g6, e]; rfl⟩
  ·
   have te : tep S v1.ep = (tsq S e : Nat):= by unfold tep; rw [e2, if_pos (by exact zK), toN]
   cbv; refine jI (by rw [e2]; exact eTr (by exact zK)) ?_
   cbv; refine zA x7.pos rfl ?_
   rw [e2]
   cbv; refine yL (by exact vL hf) (by exact yP f8 rfl) ?_
   cbv; refine yW (fun a _ _ _ => ?_) (xE hf he)
   rw [show (S.rg : Int) - 1 - (e : Int) / (S.fg : Nat) = ((S.rg - 1 - e / S.fg : Nat) : Int) by
    exact sub2 a]
   have hd : S.rg - 1 - e / S.fg <= 8:= Nat.le_trans (Nat.sub_le _ _) (by exact eW r8)
   cbv; refine xF (.inl (zM (Int.lt_of_lt_of_le (by decide) (Int.natCast_nonneg _)) (Int.lt_of_le_of_lt (Int.ofNat_le.mpr hd) (by decide)))) ?_
   cbv; refine zA x7.pos rfl ?_
   rw [e2]
   cbv; refine zW (by exact vL hf) ?_
   cbv; refine ⟨rfl, ⟨by walk_at "lc", by walk_at "lc", by walk_at "lc", by walk_at "lc"⟩, get_put_eq.trans ?_⟩
   rw [e2] at te
   first | rw [te] | rw [e2, te]
   unfold tsq; simp
 subst eh
 refine yW (fun t1 t2 t3 t4 => ?_) (cX r hr)
 have hw1 : (1 : Int) - (w : Int) = ((1 - w : Nat) : Int):= gB (cr hw rfl)
 cbv; refine zA x7.pos rfl ?_
 rw [er1]
 cbv; refine yL (by decide) (by decide) ?_
 cbv; refine zA x7.pos rfl ?_
 rw [er1]
 cbv; refine zW (by decide) ?_
 cbv; refine xF (.inr rfl) ?_
 cbv; rw [show (r : Int) / 4 + (r : Int) % 4 * 4 = ((tr r : Nat) : Int) by rw [t4]; lia]
 cbv; refine tQ n7 (by exact jO tl sz) tv fun h10 t a b k10 j1 j2 j3 => ?_
 refine ⟨_, j1, rfl, ?_⟩
 have x10:= x7.ext k10
 dsimp only [List.zip, List.zipWith, List.foldl]
 cbv; refine zA x10.pos rfl ?_
 rw [hsd]
 cbv; rw [hw1]
 cbv; refine sU (r:= tr r) (k10 _ _ n7) (by exact jO tl sz) tv hf f8 t2 fun h11 k11 => ?_
 have k811:= k10.trans k11
 have y11:= y6.ext (k7.trans k811)
 cbv; refine wW y11 (R2.bnd sz) fun h12 r12 k12 Rw12 => ?_
 have x12:= x7.ext (k811.trans k12)
 cbv; refine zG rfl ?_
 have kb:= Ext.app h12 [O.lst []]
 have nb:= zC (h:= h12) (o:= O.lst [])
 have x13:= x12.ext kb
 generalize hgh13 : h12 ++ [O.lst []] = h13 at kb nb x13 ⊢
 generalize h12.length = c1 at nb ⊢
 cbv; refine zA x13.pos rfl ?_
 rw [hsd]
 cbv; refine zA x13.pos rfl ?_
 cbv; refine zA x13.pos rfl ?_
 cbv; refine zG rfl ?_
 rw [hw1]
 have kc:= Ext.app h13 [O.lst [.ref cur, .ref a, .ref b, .ref c1, .int ((1 - w : Nat) : Int), .int (tr r : Nat), .int (tep S v1.ep), .int v1.half, .int v1.full, .int (vQ (zZ S ck) S.fg ((1 - w : Nat) : Int) (tr r) (tep S v1.ep) : Nat)]]
 have nc:= zC (h:= h13) (o:= O.lst [.ref cur, .ref a, .ref b, .ref c1, .int ((1 - w : Nat) : Int), .int (tr r : Nat), .int (tep S v1.ep), .int v1.half, .int v1.full, .int (vQ (zZ S ck) S.fg ((1 - w : Nat) : Int) (tr r) (tep S v1.ep) : Nat)])
 generalize hgh14 : h13 ++ [O.lst [.ref cur, .ref a, .ref b, .ref c1, .int ((1 - w : Nat) : Int), .int (tr r : Nat), .int (tep S v1.ep), .int v1.half, .int v1.full, .int (vQ (zZ S ck) S.fg ((1 - w : Nat) : Int) (tr r) (tep S v1.ep) : Nat)]] = h14 at kc nc ⊢
 have kbc:= kb.trans kc
 have k12c:= k12.trans kbc
 have Rw : RowAt h14 h13.length (rS S v1 ck w r):= ⟨cur, a, b, c1, [], nc, (k811.trans k12c) _ _ n7, (k11.trans k12c) _ _ j2, (k11.trans k12c) _ _ j3, kc _ _ nb, trivial⟩
 cbv; refine rP (Rw12.ext kbc).deep Rw.deep ?_
 rw [(pO _ _).mpr rfl]
 cbv; try refine yV rfl ?_
 have x14:= x13.ext kc
 have y14:= y11.ext k12c
 have hx14:= hx1.trans (k17.trans (k811.trans k12c))
 have L13 : h1.length <= h3.length:= k13.len
 refine oEA (fun hl0 hi1 _ => ?_) x1.hist
 have a1:= zJ x1.pos
 have a2:= zJ x1.board
 have a3:= zJ x1.kinds
 have a4:= zJ x1.sides
 have a5:= zJ hi1
 have L1E : h1.length <= h14.length:= (k17.trans (k811.trans k12c)).len
 have nBA : ¬ B.Has A.p:= by
  revert geB; refine yE fun g1 g2 g3 g4 g5 => ?_
  rintro (q | q | q | q | q) <;> lia
 cbv; refine zG rfl ?_
 have kd:= Ext.app h14 [O.lst []]
 have nd:= zC (h:= h14) (o:= O.lst [])
 have x15:= x14.ext kd
 have y15:= y14.ext kd
 have hx15:= hx14.trans kd
 generalize h14 ++ [O.lst []] = h15 at kd nd x15 y15 hx15 ⊢
 cbv; refine nO (fs':= pC { A with hi:= h14.length } S.g S.z { v1 with hist:= [] }) x15 rfl rfl ?_
 have x16:= x15.re_hist nd (d:= []) trivial (by lia) (by lia) (by lia)
 have y16:= y15.set_other nBA (o':= .ins 20 (pC { A with hi:= h14.length } S.g S.z { v1 with hist:= [] })) x15.pos (by simp)
 have hx16:= hx15.set ge.1 (.ins 20 (pC { A with hi:= h14.length } S.g S.z { v1 with hist:= [] }))
 generalize h15.set A.p (.ins 20 (pC { A with hi:= h14.length } S.g S.z { v1 with hist:= [] })) = h16 at x16 y16 hx16 ⊢
 cbv; refine uX hS hx16 y16 R2 (fun h17 _ _ k17 _ => ?_) fun h17 _ bad => absurd G2 (bad _ _)
 cbv; try refine sJ (fun _ => ?_) fun c => by cases c
 cbv; refine qB hS (hx16.trans k17) (y16.ext k17) tl tv rfl (by lia) rfl t2 rfl tepc fun h18 C k18 _ z18 => ?_
 have x18:= (x16.ext k17).ext k18
 have hx18:= (hx16.trans k17).trans k18
 have G0 : Good S { v1 with hist:= [] } ck w:= ⟨G1.hw, G1.side, G1.half, G1.full, ⟨hl, hv, G1.B.b, G1.B.k, G1.B.s⟩, G1.k0, G1.k1, G1.pawns, G1.rights, G1.ep⟩
 have e0:= dC hS G0 er1 hr rfl ek
 cbv; exact iK z18 x18 (hS.gf_ok hx18) (hS.gf_ok hx18) (fun _ _ _ => q _) fun c => absurd ⟨rfl, rfl, e0⟩ c
end
noncomputable def okH {α : Type} (m : Mo α) (h : Hp) : Hp:= match m h with
 | .ok _ h' => h'
 | _ => []
noncomputable def okR (m : Mo V) (h : Hp) (n : Nat) : Bool:= match m h with
 | .ok (.ref k) _ => Nat.beq k n
 | _ => false
theorem dj {m : Mo V} {h : Hp} {X : Hp -> Prop} {n : Nat} {Q : V -> Hp -> Prop} (e : okR m h n = true) (q : Q (.ref n) (okH m h)) : wp m h Q X:= by
 unfold okR at e
 unfold okH at q
 unfold wp
 split at e
 ·
  rename_i k h' e2
  rw [e2] at q ⊢
  have:= Nat.eq_of_beq_eq_true e
  subst this; exact q
 ·
  contradiction
noncomputable def qR (h : Hp) (a n : Nat) (f : Nat -> Int) : Bool:= match h[a]? with
 | some (.lst xs) => (List.range n).all fun i => match xs[i]? with
  | some (.int k) => decide (k = f i)
  | _ => false
 | _ => false
theorem vX {h : Hp} {a n : Nat} {f : Nat -> Int} (e : qR h a n f = true) : ∃ xs, h[a]? = some (.lst xs) /\ ∀ i, i < n -> xs[i]? = some (.int (f i)):= by
 unfold qR at e
 split at e
 ·
  rename_i xs e1
  refine ⟨xs, e1, fun i hi => ?_⟩
  have:= List.all_eq_true.mp e i (List.mem_range.mpr hi)
  split at this
  ·
   rename_i k e2
   rw [e2, dTr this]
  ·
   contradiction
 ·
  contradiction
noncomputable def jK (h : Hp) (a : Nat) : Loc:= match h[a]? with
 | some (.ins _ l) => l
 | _ => []
noncomputable def dT (h : Hp) (a : Nat) : List V:= match h[a]? with
 | some (.lst l) => l
 | _ => []
noncomputable def lL (xs : List V) (m : Nat) : Nat:= match xs[m]? with
 | some (.ref a) => a
 | _ => 0
noncomputable def refB (xs : List V) (m : Nat) : Bool:= match xs[m]? with
 | some (.ref _) => true
 | _ => false
theorem pq {xs : List V} {m : Nat} (e : refB xs m = true) : xs[m]? = some (.ref (lL xs m)):= by
 unfold refB at e
 unfold lL
 split at e
 ·
  rename_i a e1; rw [e1]
 ·
  contradiction
noncomputable def cstB (h : Hp) (S : SI) : Bool:= match h[S.cs]? with
 | some (.lst xs) => (List.range 4).all fun i => bif S.wg && S.room i then (match xs[i]? with
  | some (.ref t) => match h[t]? with
   | some (.tup [.int a, _, .int c, _]) => decide (a = (S.kingSq i : Nat)) && decide (c = (S.rookSq i : Nat))
   | _ => false
  | _ => false) else (match xs[i]? with
  | some .none => true
  | _ => false)
 | _ => false
theorem rt {h : Hp} {S : SI} (e : cstB h S = true) : ∃ xs, h[S.cs]? = some (.lst xs) /\ ∀ i, i < 4 -> if (S.wg && S.room i) = true then ∃ t b d, xs[i]? = some (.ref t) /\ h[t]? = some (.tup [.int (S.kingSq i : Nat), b, .int (S.rookSq i : Nat), d]) else xs[i]? = some .none:= by
 unfold cstB at e
 split at e
 ·
  rename_i xs e1
  refine ⟨xs, e1, fun i hi => ?_⟩
  have:= List.all_eq_true.mp e i (List.mem_range.mpr hi)
  cases hw : S.wg && S.room i
  ·
   rw [hw, cond_false] at this
   rw [if_neg (by simp)]
   split at this
   ·
    rename_i e2; exact e2
   ·
    contradiction
  ·
   rw [hw, cond_true] at this
   rw [if_pos rfl]
   split at this
   ·
    rename_i t e2
    split at this
    ·
     rename_i a b c d e3
     rw [Bool.and_eq_true] at this
     refine ⟨t, b, d, e2, ?_⟩
     rw [e3, dTr this.1, dTr this.2]
    ·
     contradiction
   ·
    contradiction
 ·
  contradiction
noncomputable def uf (h : Hp) (S : SI) : Bool:= (List.range 15).all fun m => refB S.rowL m && qR h (lL S.rowL m) (S.fg * S.rg) fun s => (2 ^ (m * (S.fg * S.rg) + s) : Nat)
noncomputable def pwB (h : Hp) (S : SI) : Bool:= (qR h S.p0 (S.fg * S.rg) fun s => (bts (S.att 0 s) (S.fg * S.rg) : Nat)) && (qR h S.p1 (S.fg * S.rg) fun s => (bts (S.att 1 s) (S.fg * S.rg) : Nat))
noncomputable def shF : Nat -> Nat
 | 0 => 2
 | 1 => 4
 | 2 => 7
 | _ => 6
noncomputable def shR : Nat -> Nat
 | 1 => 5
 | _ => 3
noncomputable def shD : Nat -> Bool
 | 1 => true
 | _ => false
noncomputable def shW : Nat -> Bool
 | 2 => true
 | 3 => true
 | _ => false
noncomputable def shV (k : Nat) : List V:= [.int (shF k), .int (shR k), .bool (shD k), .bool (shW k)]
noncomputable def hpB (x y : O) : Hp:= [.tup [.int (0), .int (1), .int (0), .int (-1), .int (1), .int (1), .int (-1), .int (-1)], .tup [.int (1), .int (0), .int (-1), .int (0), .int (1), .int (-1), .int (-1), .int (1)], .tup [.int (1), .int (2), .int (3), .int (4), .int (5), .int (6), .int (9), .int (10), .int (11), .int (12), .int (13), .int (14)], x, y, .tup [.int 2, .int 3, .bool false, .bool false], .tup [.int 4, .int 5, .bool true, .bool false], .tup [.int 7, .int 3, .bool false, .bool true], .tup [.int 6, .int 3, .bool false, .bool true], .lst [.ref 5, .ref 6, .ref 7, .ref 8]]
noncomputable def eF : ME:= .comp (.comp (.bin .shl (.int 1) (.bin .add (.bin .mul (.loc 134) (.loc 19)) (.loc 52))) 52 (.blt .range (.cons (.loc 19) .nil))) 134 (.blt .range (.cons (.int 15) .nil))
noncomputable def e9 : ME:= .new 6 (.cons (.loc 159) (.cons (.comp (.bin .shl (.int 1) (.bin .add (.bin .add (.loc 112) (.int 4)) (.loc 87))) 87 (.blt .range (.cons (.loc 22) .nil))) (.cons (.comp (.bin .shl (.loc 89) (.loc 112)) 89 (.blt .range (.cons (.int 16) .nil))) (.cons (.bin .shl (.int 1) (.bin .add (.bin .add (.loc 112) (.int 4)) (.loc 22))) .nil))))
noncomputable def eG : ME:= .call 114 (.cons (.loc 22) (.cons (.loc 23) (.cons (.loc 128) (.cons (.loc 129) .nil))))
noncomputable def l0 (k : Nat) : Loc:= put 129 (.bool (shW k)) (put 128 (.bool (shD k)) (put 23 (.int (shR k)) (put 22 (.int (shF k)) [(117, .ref 4)])))
noncomputable def l2 (k : Nat) : Loc:= put 112 (.int (15 * (shF k * shR k))) (put 19 (.int (shF k * shR k)) (l0 k))
noncomputable def l3 (k : Nat) : Loc:= put 159 (.ref 41) (l2 k)
noncomputable def l4 (k : Nat) : Loc:= put 9 (.ref 46) (l3 k)
noncomputable def hp1 (k : Nat) (x y : O) : Hp:= okH (eval tab (run tab 7) eF (l2 k)) (hpB x y)
noncomputable def hp2 (k : Nat) (x y : O) : Hp:= okH (eval tab (run tab 7) e9 (l3 k)) (hp1 k x y)
noncomputable def hp3 (k : Nat) (x y : O) : Hp:= okH (eval tab (run tab 7) eG (l4 k)) (hp2 k x y)
noncomputable def qD (l : Loc) (a : Nat) : Nat:= match get a l with
 | some (.ref n) => n
 | _ => 0
noncomputable def siK (k : Nat) (h : Hp) : SI:= ⟨shF k, shR k, shD k, shW k, 47, 46, 41, qD (jK h 46) 3, qD (jK h 46) 4, qD (jK h 47) 32, qD (jK h 47) 28, lL (dT h (qD (jK h 47) 28)) 0, lL (dT h (qD (jK h 47) 28)) 1, qD (jK h 47) 27, lL (dT h 41), jK h 47, jK h 46, dT h 41⟩
theorem ga (k : Nat) (h : Hp) : (siK k h).rowA = lL (siK k h).rowL:= rfl
theorem row_is {h : Hp} {S : SI} (er : S.rowA = lL S.rowL) (e : uf h S = true) : ∀ m, m < 15 -> S.rowL[m]? = some (.ref (S.rowA m)) /\ ∃ xs, h[S.rowA m]? = some (.lst xs) /\ ∀ s, s < S.fg * S.rg -> xs[s]? = some (.int (2 ^ (m * (S.fg * S.rg) + s) : Nat)):= fun m hm => by
 have:= List.all_eq_true.mp e m (List.mem_range.mpr hm)
 rw [Bool.and_eq_true] at this
 rw [er]
 exact ⟨pq this.1, vX this.2⟩
theorem pw_is {h : Hp} {S : SI} (e : pwB h S = true) : ∀ w, w < 2 -> ∃ xs, h[if w = 0 then S.p0 else S.p1]? = some (.lst xs) /\ ∀ s, s < S.fg * S.rg -> xs[s]? = some (.int (bts (S.att w s) (S.fg * S.rg) : Nat)):= fun w hw => by
 unfold pwB at e
 rw [Bool.and_eq_true] at e
 match w, hw with
 | 0, _ => exact vX e.1
 | 1, _ => exact vX e.2
noncomputable def aS (k : Nat) (h : Hp):= (h[47]?, get 22 (jK h 47), get 23 (jK h 47), get 19 (jK h 47), get 12 (jK h 47), get 24 (jK h 47), get 32 (jK h 47), get 28 (jK h 47), get 27 (jK h 47), h[46]?, get 2 (jK h 46), get 3 (jK h 46), get 4 (jK h 46), get 5 (jK h 46), h[41]?, uf h (siK k h),
    (qR h (qD (jK h 46) 3) (shF k) fun f => (2 ^ (15 * (shF k * shR k) + 4 + f) : Nat)), (qR h (qD (jK h 46) 4) 16 fun r => (r * 2 ^ (15 * (shF k * shR k)) : Nat)), (qR h (qD (jK h 47) 32) (shR k) fun r => ((2 ^ shF k - 1) * 2 ^ (r * shF k) : Nat)),
    h[qD (jK h 47) 28]?, pwB h (siK k h), cstB h (siK k h))
noncomputable def aR (k : Nat) (h : Hp):= (some (O.ins 34 (jK h 47)), some (V.int (shF k)), some (V.int (shR k)), some (V.int (shF k * shR k : Nat)), some (V.int (2 ^ (shF k * shR k) - 1 : Nat)), some (V.bool (shD k)), some (V.ref (qD (jK h 47) 32)), some (V.ref (qD (jK h 47) 28)), some (V.ref (qD (jK h 47) 27)), some (O.ins 6 (jK h 46)), some (V.ref 41), some (V.ref (qD (jK h 46) 3)), some (V.ref (qD (jK h 46) 4)), some (V.int (2 ^ (15 * (shF k * shR k) + 4 + shF k) : Nat)), some (O.lst (dT h 41)), true,
    true, true, true, some (O.lst [V.ref (lL (dT h (qD (jK h 47) 28)) 0), V.ref (lL (dT h (qD (jK h 47) 28)) 1)]), true, true)
theorem oY (k : Nat) (h : Hp) (c1 : 2 <= shF k) (c2 : shF k <= 8) (c3 : 3 <= shR k) (c4 : shR k <= 8) (c5 : shF k * shR k <= 21) (c6 : shF k ≠ shR k) (c7 : shD k = true -> shF k = 4 /\ shR k = 5)
  (e : aS k h = aR k h) : Stat h (siK k h):= by
 unfold aS aR at e
 refine oA (fun a1 e => ?_) (Prod.mk.inj e)
 refine oA (fun a2 e => ?_) (Prod.mk.inj e)
 refine oA (fun a3 e => ?_) (Prod.mk.inj e)
 refine oA (fun a4 e => ?_) (Prod.mk.inj e)
 refine oA (fun a5 e => ?_) (Prod.mk.inj e)
 refine oA (fun a6 e => ?_) (Prod.mk.inj e)
 refine oA (fun a7 e => ?_) (Prod.mk.inj e)
 refine oA (fun a8 e => ?_) (Prod.mk.inj e)
 refine oA (fun a9 e => ?_) (Prod.mk.inj e)
 refine oA (fun b1 e => ?_) (Prod.mk.inj e)
 refine oA (fun b2 e => ?_) (Prod.mk.inj e)
 refine oA (fun b3 e => ?_) (Prod.mk.inj e)
 refine oA (fun b4 e => ?_) (Prod.mk.inj e)
 refine oA (fun b5 e => ?_) (Prod.mk.inj e)
 refine oA (fun b6 e => ?_) (Prod.mk.inj e)
 refine oA (fun b7 e => ?_) (Prod.mk.inj e)
 refine oA (fun b8 e => ?_) (Prod.mk.inj e)
 refine oA (fun b9 e => ?_) (Prod.mk.inj e)
 refine oA (fun d1 e => ?_) (Prod.mk.inj e)
 refine oA (fun d2 e => ?_) (Prod.mk.inj e)
 refine oA (fun d3 d4 => ?_) (Prod.mk.inj e)
 exact ⟨c1, c2, c3, c4, c5, c6, c7, a1, a2, a3, a4, a5, a6, a7, a8, a9, b1, b2, b3, b4, b5, b6, row_is (ga _ _) b7, vX b8, vX (f:= fun r => (r * 2 ^ (15 * (shF k * shR k)) : Nat)) b9, vX (f:= fun r => ((2 ^ shF k - 1) * 2 ^ (r * shF k) : Nat)) d1, d2, pw_is d3, rt d4⟩
theorem r1_0 (x y : O) : okR (eval tab (run tab 7) eF (l2 0)) (hpB x y) 41 = true:= by kernel_rfl
theorem r2_0 (x y : O) : okR (eval tab (run tab 7) e9 (l3 0)) (hp1 0 x y) 46 = true:= by kernel_rfl
theorem r3_0 (x y : O) : (okR (eval tab (run tab 7) eG (l4 0)) (hp2 0 x y) 47, (hp3 0 x y)[2]?, (hp3 0 x y)[4]?, aS 0 (hp3 0 x y)) = (true, some (.tup (il (cI men))), some y, aR 0 (hp3 0 x y)):= by kernel_rfl
theorem stat_0 (x y : O) : Stat (hp3 0 x y) (siK 0 (hp3 0 x y)):= oY 0 _ (by decide) (by decide) (by decide) (by decide) (by decide) (by decide) (by decide) (Prod.mk.inj (Prod.mk.inj (Prod.mk.inj (r3_0 x y)).2).2).2
theorem r1_1 (x y : O) : okR (eval tab (run tab 7) eF (l2 1)) (hpB x y) 41 = true:= by kernel_rfl
theorem r2_1 (x y : O) : okR (eval tab (run tab 7) e9 (l3 1)) (hp1 1 x y) 46 = true:= by kernel_rfl
theorem r3_1 (x y : O) : (okR (eval tab (run tab 7) eG (l4 1)) (hp2 1 x y) 47, (hp3 1 x y)[2]?, (hp3 1 x y)[4]?, aS 1 (hp3 1 x y)) = (true, some (.tup (il (cI men))), some y, aR 1 (hp3 1 x y)):= by kernel_rfl
theorem stat_1 (x y : O) : Stat (hp3 1 x y) (siK 1 (hp3 1 x y)):= oY 1 _ (by decide) (by decide) (by decide) (by decide) (by decide) (by decide) (by decide) (Prod.mk.inj (Prod.mk.inj (Prod.mk.inj (r3_1 x y)).2).2).2
theorem r1_2 (x y : O) : okR (eval tab (run tab 7) eF (l2 2)) (hpB x y) 41 = true:= by kernel_rfl
theorem r2_2 (x y : O) : okR (eval tab (run tab 7) e9 (l3 2)) (hp1 2 x y) 46 = true:= by kernel_rfl
theorem r3_2 (x y : O) : (okR (eval tab (run tab 7) eG (l4 2)) (hp2 2 x y) 47, (hp3 2 x y)[2]?, (hp3 2 x y)[4]?, aS 2 (hp3 2 x y)) = (true, some (.tup (il (cI men))), some y, aR 2 (hp3 2 x y)):= by kernel_rfl
theorem stat_2 (x y : O) : Stat (hp3 2 x y) (siK 2 (hp3 2 x y)):= oY 2 _ (by decide) (by decide) (by decide) (by decide) (by decide) (by decide) (by decide) (Prod.mk.inj (Prod.mk.inj (Prod.mk.inj (r3_2 x y)).2).2).2
theorem r1_3 (x y : O) : okR (eval tab (run tab 7) eF (l2 3)) (hpB x y) 41 = true:= by kernel_rfl
theorem r2_3 (x y : O) : okR (eval tab (run tab 7) e9 (l3 3)) (hp1 3 x y) 46 = true:= by kernel_rfl
theorem r3_3 (x y : O) : (okR (eval tab (run tab 7) eG (l4 3)) (hp2 3 x y) 47, (hp3 3 x y)[2]?, (hp3 3 x y)[4]?, aS 3 (hp3 3 x y)) = (true, some (.tup (il (cI men))), some y, aR 3 (hp3 3 x y)):= by kernel_rfl
theorem stat_3 (x y : O) : Stat (hp3 3 x y) (siK 3 (hp3 3 x y)):= oY 3 _ (by decide) (by decide) (by decide) (by decide) (by decide) (by decide) (by decide) (Prod.mk.inj (Prod.mk.inj (Prod.mk.inj (r3_3 x y)).2).2).2
set_option maxHeartbeats 4000000
noncomputable def qE (ck : List Nat) (s : Nat) : List Nat:= ck.take s ++ zeros (ck.length - s)
theorem mH {ck : List Nat} {s : Nat} (hs : s <= ck.length) : (qE ck s).length = ck.length:= by simp [qE, zeros]; exact at15 hs
theorem aj (ck : List Nat) : qE ck 0 = zeros ck.length:= by simp [qE]
theorem jb (ck : List Nat) : qE ck ck.length = ck:= by simp [qE, zeros]
theorem kr {a b : List Nat} (i : Nat) (h : a.length <= i) : gd (a ++ b) i = gd b (i - a.length):= by
 unfold gd; simp only [List.getD_eq_getElem?_getD, List.getElem?_append_right h]
theorem bF {ck : List Nat} {s : Nat} (hs : s < ck.length) : gd (qE ck s) s = 0:= by
 unfold qE
 rw [kr _ (by simp; exact ar70), qT]
theorem lY {ck : List Nat} {s : Nat} (hs : s < ck.length) : qE ck (s + 1) = (qE ck s).set s (gd ck s):= by
 unfold qE zeros
 rw [List.take_add_one, xN hs, show ck.length - s = (ck.length - (s + 1)) + 1 by exact ar75 hs, List.replicate_succ]
 rw [List.set_append_right _ _ (by simp; exact ar70)]
 simp [Nat.min_eq_left (Nat.le_of_lt hs)]
theorem aV (k : Nat) (h : Hp) : (siK k h).fg = shF k:= rfl
theorem aU (k : Nat) (h : Hp) : (siK k h).rg = shR k:= rfl
theorem dH (k : Nat) (h : Hp) : (siK k h).dv = shD k:= rfl
theorem aT (k : Nat) (h : Hp) : (siK k h).wg = shW k:= rfl
theorem siK_g (k : Nat) (h : Hp) : (siK k h).g = 47:= rfl
theorem siK_z (k : Nat) (h : Hp) : (siK k h).z = 46:= rfl
noncomputable def Fix (k : Nat) (x y : O) : Prop:= ∃ h1 h2 h3 S, Stat h3 S /\ h3[2]? = some (.tup (il (cI men))) /\ h3[4]? = some y /\ S.fg = shF k /\ S.rg = shR k /\ S.dv = shD k /\ S.wg = shW k /\ S.g = 47 /\ S.z = 46 /\
 (∀ (Q : V -> Hp -> Prop) X, Q (.ref 41) h1 -> wp (eval tab (run tab 7) eF (l2 k)) (hpB x y) Q X) /\ (∀ (Q : V -> Hp -> Prop) X, Q (.ref 46) h2 -> wp (eval tab (run tab 7) e9 (l3 k)) h1 Q X) /\ (∀ (Q : V -> Hp -> Prop) X, Q (.ref 47) h3 -> wp (eval tab (run tab 7) eG (l4 k)) h2 Q X)
theorem hP (k : Nat) (x y : O) (a1 : okR (eval tab (run tab 7) eF (l2 k)) (hpB x y) 41 = true) (a2 : okR (eval tab (run tab 7) e9 (l3 k)) (hp1 k x y) 46 = true)
  (a3 : okR (eval tab (run tab 7) eG (l4 k)) (hp2 k x y) 47 = true /\ (hp3 k x y)[2]? = some (.tup (il (cI men))) /\ (hp3 k x y)[4]? = some y) (hS : Stat (hp3 k x y) (siK k (hp3 k x y))) : Fix k x y :=
 ⟨hp1 k x y, hp2 k x y, hp3 k x y, siK k (hp3 k x y), hS, a3.2.1, a3.2.2, aV _ _, aU _ _, dH _ _, aT _ _, siK_g _ _, siK_z _ _, fun _ _ q => dj a1 q, fun _ _ q => dj a2 q, fun _ _ q => dj a3.1 q⟩
theorem cY {α β γ δ : Type} {p p' : α} {q q' : β} {r r' : γ} {s s' : δ} (e : (p, q, r, s) = (p', q', r', s')) : p = p' /\ q = q' /\ r = r':= by
 refine oA (fun e1 e => ?_) (Prod.mk.inj e)
 refine oA (fun e2 e => ?_) (Prod.mk.inj e)
 exact ⟨e1, e2, (Prod.mk.inj e).1⟩
theorem fix_0 (x y : O) : Fix 0 x y:= hP 0 x y (r1_0 x y) (r2_0 x y) (cY (r3_0 x y)) (stat_0 x y)
theorem fix_1 (x y : O) : Fix 1 x y:= hP 1 x y (r1_1 x y) (r2_1 x y) (cY (r3_1 x y)) (stat_1 x y)
theorem fix_2 (x y : O) : Fix 2 x y:= hP 2 x y (r1_2 x y) (r2_2 x y) (cY (r3_2 x y)) (stat_2 x y)
theorem fix_3 (x y : O) : Fix 3 x y:= hP 3 x y (r1_3 x y) (r2_3 x y) (cY (r3_3 x y)) (stat_3 x y)
theorem qz (k : Nat) (hk : k < 4) (x y : O) : Fix k x y:= match k, hk with
 | 0, _ => fix_0 x y
 | 1, _ => fix_1 x y
 | 2, _ => fix_2 x y
 | 3, _ => fix_3 x y
section
variable {n : Nat} {h : Hp} {X : Hp -> Prop} {A : PA} {g z : Nat} {v : PV} {call : Call}
theorem dQ {h0 : Hp} {S : SI} (hS : Stat h0 S) (hx : Ext h0 h) {g z : Nat} (eg : S.g = g) (ez : S.z = z) {Q : V -> Hp -> Prop} (q : ∀ h' A, Ext h h' -> A.Ge h.length -> PosAt h' A S.g S.z (pv0 (zeros (S.fg * S.rg))) -> Q (.ref A.p) h') :
  wp (run tab (n + 1) 7 [.ref h.length, .ref g, .ref z]) (h ++ [.ins 20 []]) (fD Q (.ref h.length)) X:= by
 subst eg ez
 exact sQ hS hx q
theorem gl {x : Nat} {e : ME} {r : MS} {l : Loc} {Q : Fl × Loc -> Hp -> Prop} (q : wp (eval tab call e l) h (fun v h1 => wp (exec tab call r (put x v l)) h1 Q X) X) : wp (exec tab call (.seq (.assign x e) r) l) h Q X:= by
 refine w_b (Q:= kSeq tab call r X Q) (w_b q fun v h1 z => yQ (yI z)) fun p h1 z => ?_
 obtain ⟨f, l1⟩:= p
 cases f with
 | next => exact yT z
 | cont => exact yQ z
 | ret v => exact yQ z
theorem e_new1 {c : Nat} {a r : ME} {l : Loc} {K : V -> Hp -> Prop} (q : wp (eval tab call a l) h (fun v h1 => wpEs tab call r l X (kCons (pNew tab call c X K) v) h1) X) : wp (eval tab call (.new c (.cons a r)) l) h K X :=
 ky (w_b q fun v h1 z => w_b ((cy r).2.1 _ _ _ _ z) fun vs h2 y => yQ y)
theorem pre_w (k : Nat) (hk : k < 4) (x y : O) {r : MS} {Q : Fl × Loc -> Hp -> Prop}
  (q : ∀ h0 h' S A l, Stat h0 S -> h0[2]? = some (.tup (il (cI men))) -> h0[4]? = some y -> Ext h0 h' -> A.Ge h0.length -> PosAt h' A S.g S.z (pv0 (zeros (S.fg * S.rg))) ->
   get 22 l = some (.int S.fg) -> get 23 l = some (.int S.rg) -> get 128 l = some (.bool S.dv) -> get 129 l = some (.bool S.wg) -> get 19 l = some (.int (S.fg * S.rg : Nat)) -> get 117 l = some (.ref 4) -> get 47 l = some (.ref A.p) -> wp (exec tab (run tab 7) r l) h' Q X) :
  wp (exec tab (run tab 7) (.seq (.assign 19 (.bin .mul (.loc 22) (.loc 23))) (.seq (.assign 112 (.bin .mul (.int 15) (.loc 19))) (.seq (.assign 159 eF) (.seq (.assign 9 e9) (.seq (.assign 47 (.new 20 (.cons eG (.cons (.loc 9) .nil)))) r))))) (l0 k)) (hpB x y) Q X:= by
 refine fl (qz k hk x y) <| vS fun h1 h2 h3 S hS t2 => dO fun t4 f1 f2 f3 f4 f5 f6 w1 w2 w3 => ?_
 have s1 : small (shF k : Int) = true:= by rw [<- f1]; have:= hS.f8; exact zM (by exact uK rfl) (by exact yP this rfl)
 cbv; refine xF (.inl s1) ?_
 cbv; refine xF (.inl rfl) ?_
 refine yI ?_
 refine gl (w1 _ _ ?_)
 refine gl (w2 _ _ ?_)
 refine gl (e_new1 (w3 _ _ ?_))
 cbv; refine dQ hS (Ext.refl _) f5 f6 fun h' A k1 ge x1 => ?_
 refine q _ _ _ A _ hS t2 t4 k1 ge x1 ?_ ?_ ?_ ?_ ?_ rfl rfl
 ·
  rw [f1]; rfl
 ·
  rw [f2]; rfl
 ·
  rw [f3]; rfl
 ·
  rw [f4]; rfl
 ·
  rw [f1, f2, Int.natCast_mul]; rfl
end
set_option maxHeartbeats 4000000
theorem ak {ck : List Nat} {s : Nat} (hs : s < ck.length) (z : gd ck s = 0) : qE ck (s + 1) = qE ck s:= by
 rw [lY hs, z]
 have e : (qE ck s)[s]? = some 0:= by
  have:= xN (ck:= qE ck s) (s:= s) (by rw [mH (by exact cP hs)]; exact hs)
  rw [this, bF hs]
 refine List.ext_getElem? fun i => ?_
 rw [List.getElem?_set]
 split
 ·
  rename_i q; subst q
  rw [e, if_pos (List.getElem?_eq_some_iff.mp e).1]
 ·
  rfl
section
variable {h : Hp} {X : Hp -> Prop} {A : PA} {g z : Nat} {v : PV}
theorem law_w (ns : List Int) (hn : ns.length <= 63) : wp (run tab 8 157 [.ref 3]) (uH ns) (fun v _ => v = .bool true) X:= by
 refine zV (fn:= fn_law) rfl rfl ?_
 cbv; refine gH (a:= 0) (b:= 24) (.inr (show (uH ns)[3]? = _ from rfl)) (by simp; exact yB hn rfl) rfl rfl ?_
 have ey : ((ns.map V.int).take 24).drop 0 = il (ns.take 24):= by simp [il]
 rw [ey]
 have hn' : (ns.take 24).length <= 63:= by simp; exact ar72 hn
 generalize ns.take 24 = ms at hn' ⊢
 clear ey
 cbv; refine zV (fn:= fn_law_shapes) rfl rfl ?_
 cbv; refine zG rfl ?_
 cbv; refine zG rfl ?_
 cbv; refine zG rfl ?_
 cbv; refine zG rfl ?_
 cbv; refine zG rfl ?_
 cbv; try refine yI ?_
 show wp _ (hpB (.fro (ns.map .int)) (.lst (il ms))) _ _
 generalize O.fro (ns.map .int) = x0
 cbv; refine jG (k:= 0) (show (hpB x0 (.lst (il ms)))[4]? = some (.lst (il ms)) from rfl) hn' (by decide) ?_
 cbv; refine zW (by decide) ?_
 obtain ⟨k, ek, hk⟩ : ∃ k : Nat, ms.getD 0 0 % 4 = (k : Int) /\ k < 4:= ⟨(ms.getD 0 0 % 4).toNat, by exact at02 rfl, by exact at01 rfl⟩
 rw [ek]
 cbv; refine zF (.inl (show (hpB x0 (.lst (il ms)))[9]? = some (.lst [.ref 5, .ref 6, .ref 7, .ref 8]) from rfl)) (by exact zK) (by exact xJ hk rfl) (v:= .ref (5 + k)) (by rw [toN]; match k, hk with
  | 0, _ => rfl
  | 1, _ => rfl
  | 2, _ => rfl
  | 3, _ => rfl) ?_
 refine ⟨shV k, by match k, hk with
  | 0, _ => rfl
  | 1, _ => rfl
  | 2, _ => rfl
  | 3, _ => rfl, rfl, ?_⟩
 refine yI ?_
 refine pre_w k hk x0 (.lst (il ms)) fun h0 h1 S A l hS hall hsc hx ge x g22 g23 g128 g129 g19 g117 g47 => ?_
 clear ek hk
 have sz:= hS.sz
 have f2:= hS.f2
 have f8:= hS.f8
 have r3:= hS.r3
 have N0 : 0 < S.fg * S.rg:= Nat.mul_pos (by exact yY f2 rfl) (by exact yY r3 rfl)
 have zl : (zeros (S.fg * S.rg)).length = S.fg * S.rg:= by simp [zeros]
 cbv; refine zG rfl ?_
 have nn:= zC (h:= h1) (o:= O.lst [V.int 0])
 have k2:= Ext.app h1 [O.lst [V.int 0]]
 generalize h1 ++ [O.lst [V.int 0]] = h2 at nn k2 ⊢
 cbv; refine sK nn (by exact zK) (by exact sx sz rfl) (by simp) (by rw [toN, uD]; simp [cI]; exact yB sz rfl) ?_
 rw [toN, uD]
 cbv; show wp _ (h2 ++ [O.lst (il (cI (zeros (S.fg * S.rg))))]) _ _
 have b3:= zC (h:= h2) (o:= O.lst (il (cI (zeros (S.fg * S.rg)))))
 have k3:= k2.app' [O.lst (il (cI (zeros (S.fg * S.rg))))]
 generalize h2 ++ [O.lst (il (cI (zeros (S.fg * S.rg))))] = h3 at b3 k3 ⊢
 cbv; refine tR (x.ext k3) b3 (by exact jO zl sz) (Val.zeros _) (by exact yY f2 rfl) f8 fun h4 k4 => ?_
 have k14:= k3.trans k4
 cbv; try refine yV rfl ?_
 have x4:= x.ext k14
 have hx4:= hx.trans k14
 have ge4:= ge
 clear k2 k3 k4 k14 nn b3 x hx
 cbv; refine jG (k:= 2) (hx4 _ _ hsc) hn' (by decide) ?_
 cbv; refine zW (by decide) ?_
 obtain ⟨w, ew, hw⟩ : ∃ w : Nat, ms.getD 2 0 % 2 = (w : Int) /\ w < 2:= ⟨(ms.getD 2 0 % 2).toNat, by exact at02 rfl, by exact at01 rfl⟩
 rw [ew]
 cbv; refine jG (k:= 1) (hx4 _ _ hsc) hn' (by decide) ?_
 cbv; refine fR hS hw fun h5 c C => ?_
 revert C; refine qM fun k5 hc ck e5 hv hl => ?_
 have x5:= x4.ext k5
 have hx5:= hx4.trans k5
 have hcA : ¬ A.Has c:= by
  have a1:= zJ x4.pos
  have a2:= zJ x4.board
  have a3:= zJ x4.kinds
  have a4:= zJ x4.sides
  refine oEA (fun hl0 q1 _ => ?_) x4.hist
  have a5:= zJ q1
  rintro (q | q | q | q | q) <;> lia
 have hc0 : h0.length <= c:= Nat.le_trans hx4.len hc
 clear k5
 try refine yI ?_
 refine yD (fun l h' => (get 22 l = some (.int S.fg) /\ get 23 l = some (.int S.rg) /\ get 128 l = some (.bool S.dv) /\ get 129 l = some (.bool S.wg) /\ get 117 l = some (.ref 4) /\ get 47 l = some (.ref A.p) /\ get 120 l = some (.ref c) /\ get 122 l = some (.int w)) /\ Keep A h5 h' /\ PosAt h' A S.g S.z (pv0 ck)) ?_ fun l6 h6 => oAA <| wF fun g22 g23 g128 g129 g117 g47 g120 g122 k6 x6 => ?_
 ·
  cbv; refine xS (zM (by exact uK rfl) (by exact yP sz rfl)) ?_
  cbv; refine jR zC (by exact jH sz rfl) ?_
  have k55:= Ext.app h5 [O.rng 0 ((S.fg * S.rg : Nat) : Int) 1]
  cbv; refine xK (h := _) (l := _) _ (fun i l h' => (get 22 l = some (.int S.fg) /\ get 23 l = some (.int S.rg) /\ get 128 l = some (.bool S.dv) /\ get 129 l = some (.bool S.wg) /\ get 117 l = some (.ref 4) /\ get 47 l = some (.ref A.p) /\ get 120 l = some (.ref c) /\ get 122 l = some (.int w)) /\ Keep A h5 h' /\ PosAt h' A S.g S.z (pv0 (qE ck i))) (by simp; exact jH sz rfl) (fun _ _ _ _ => rfl) (fun i l h' y hv1 I => ?_) (fun l h' I => ?_) ⟨⟨by walk_at "lc", by walk_at "lc", by walk_at "lc", by walk_at "lc", by walk_at "lc", by walk_at "lc", by walk_at "lc", by walk_at "lc"⟩, Keep.of_ext k55, by rw [aj, hl]; exact x5.ext k55⟩
  ·
   obtain ⟨hi, ey⟩ : i < S.fg * S.rg /\ y = .int (i : Nat):= by
    have hl:= (List.getElem?_eq_some_iff.mp hv1).1
    rw [List.length_map, List.length_range] at hl
    rw [List.getElem?_map, List.getElem?_range hl] at hv1
    exact ⟨hl, (Option.some.inj hv1).symm⟩
   subst ey
   revert I; refine oAA <| wF fun g22 g23 g128 g129 g117 g47 g120 g122 k6 x6 => ?_
   have e6:= k6.1 _ _ e5 hcA
   have fin : ∀ {l h'}, (get 22 l = some (.int S.fg) /\ get 23 l = some (.int S.rg) /\ get 128 l = some (.bool S.dv) /\ get 129 l = some (.bool S.wg) /\ get 117 l = some (.ref 4) /\ get 47 l = some (.ref A.p) /\ get 120 l = some (.ref c) /\ get 122 l = some (.int w)) -> Keep A h5 h' -> PosAt h' A S.g S.z (pv0 (qE ck (i + 1))) -> (get 22 l = some (.int S.fg) /\ get 23 l = some (.int S.rg) /\ get 128 l = some (.bool S.dv) /\ get 129 l = some (.bool S.wg) /\ get 117 l = some (.ref 4) /\ get 47 l = some (.ref A.p) /\ get 120 l = some (.ref c) /\ get 122 l = some (.int w)) /\ Keep A h5 h' /\ PosAt h' A S.g S.z (pv0 (qE ck (i + 1))):= fun a b c => ⟨a, b, c⟩
   cbv; refine zF (.inl e6) (by exact zK) (by exact xJ (yH hi sz) rfl) (gN (by exact uN hl hi)) ?_
   cbv; refine zB (fun d => ?_) fun d => ?_
   ·
    cbv; refine zF (.inl e6) (by exact zK) (by exact xJ (yH hi sz) rfl) (gN (by exact uN hl hi)) ?_
    cbv; refine qK hS (k6.ext hx5 ge) ge (by rw [mH (by exact cP (uN hl hi)), hl]) x6 (by rw [mH (by exact cP (uN hl hi)), hl]; exact hi) (bF (by exact uN hl hi)) (hv.gd _ (by exact tJ d)) fun h7 k7 x7 => ?_
    cbv; exact fin ⟨by walk_at "lc", by walk_at "lc", by walk_at "lc", by walk_at "lc", by walk_at "lc", by walk_at "lc", by walk_at "lc", by walk_at "lc"⟩ (k6.trans k7) (by rw [lY (by exact uN hl hi)]; exact x7)
   ·
    cbv; exact fin ⟨by walk_at "lc", by walk_at "lc", by walk_at "lc", by walk_at "lc", by walk_at "lc", by walk_at "lc", by walk_at "lc", by walk_at "lc"⟩ k6 (by rw [ak (by exact uN hl hi) (by exact qW d)]; exact x6)
  ·
   revert I; refine oAA fun gs k6 x6 => ?_
   rw [List.length_map, List.length_range, <- hl, jb] at x6
   cbv; exact ⟨gs, k6, x6⟩
 have e6:= k6.1 _ _ e5 hcA
 have hx6:= k6.ext hx5 ge
 cbv; refine tR x6 e6 (by exact jO hl sz) hv (by exact yY f2 rfl) f8 fun h7 k7 => ?_
 iterate 5 walk_at "st"
 have x7:= x6.ext k7
 have e7:= k7 _ _ e6
 have hx7:= hx6.trans k7
 have lc:= zJ e7
 have lA : ∀ {m : Nat}, h7.length <= m -> ¬ A.Has m:= fun hm => by
  have a1:= zJ x7.pos
  have a2:= zJ x7.board
  have a3:= zJ x7.kinds
  have a4:= zJ x7.sides
  refine oEA (fun hl0 q1 _ => ?_) x7.hist
  have a5:= zJ q1
  rintro (q | q | q | q | q) <;> lia
 clear x6 e6 k6 hx6 k7 x5 e5 hx5 x4 hx4
 try refine yI ?_
 refine yD (fun l h' => (get 22 l = some (.int S.fg) /\ get 23 l = some (.int S.rg) /\ get 128 l = some (.bool S.dv) /\ get 129 l = some (.bool S.wg) /\ get 117 l = some (.ref 4) /\ get 47 l = some (.ref A.p) /\ get 122 l = some (.int w)) /\ Ext h0 h' /\ ∃ cells', PosAt h' A S.g S.z (pv0 cells') /\ cells'.length = S.fg * S.rg /\ Val cells') ?_ fun l8 h8 => qM <| bP fun g22 g23 g128 g129 g117 g47 g122 hx8 cells' x8 hl' hv' => ?_
 ·
  cbv; refine gH (a:= 8) (b:= 16) (.inl (hx7 _ _ hsc)) (by simp; exact yB hn' rfl) rfl rfl ?_
  have es : ((il ms).take 16).drop 8 = il ((ms.take 16).drop 8):= by simp [il]
  rw [es]
  have ht : ((ms.take 16).drop 8).length <= 63:= by simp; exact yB ar70 rfl
  generalize (ms.take 16).drop 8 = ts at ht ⊢
  have k8:= Ext.app h7 [O.lst (il ts)]
  have e8:= zC (h:= h7) (o:= O.lst (il ts))
  have sA:= lA (Nat.le_refl _)
  have sc : h7.length ≠ c:= qX lc
  generalize h7.length = sl at e8 sA sc
  cbv; refine pI e8 ?_
  cbv; refine xK (h := _) (l := _) (il ts) (fun i l h' => (get 22 l = some (.int S.fg) /\ get 23 l = some (.int S.rg) /\ get 128 l = some (.bool S.dv) /\ get 129 l = some (.bool S.wg) /\ get 117 l = some (.ref 4) /\ get 47 l = some (.ref A.p) /\ get 122 l = some (.int w)) /\ get 120 l = some (.ref c) /\ KeepC A c (h7 ++ [O.lst (il ts)]) h' /\ ∃ cells', PosAt h' A S.g S.z (pv0 cells') /\ h'[c]? = some (.lst (il (cI cells'))) /\ cells'.length = S.fg * S.rg /\ Val cells') (by simp [il]; exact jH ht rfl) (fun i l h' I => by simp [jV, zO, I.2.2.1.1 _ _ e8 sA sc]) (fun i l h' y hv1 I => ?_) (fun l h' I => ?_) ⟨⟨by walk_at "lc", by walk_at "lc", by walk_at "lc", by walk_at "lc", by walk_at "lc", by walk_at "lc", by walk_at "lc"⟩, by walk_at "lc", KeepC.refl _ _ _, ck, x7.ext k8, k8 _ _ e7, hl, hv⟩
  ·
   revert I; refine bO <| bP fun g22 g23 g128 g129 g117 g47 g122 g120 k9 cs x9 e9 => oA fun hl9 hv9 => ?_
   obtain ⟨m, ey⟩ : ∃ m : Int, y = .int m:= by
    have hl:= (List.getElem?_eq_some_iff.mp hv1).1
    unfold il at hv1 hl
    rw [List.getElem?_map] at hv1
    cases q : ts[i]? with
    | none => rw [q] at hv1; contradiction
    | some m => rw [q] at hv1; exact ⟨m, (Option.some.inj hv1).symm⟩
   subst ey
   have hx9:= k9.ext (hx7.trans k8) ge hc0
   cbv; refine iZ hS hall hx9 ge hc0 hcA hl9 hv9 x9 e9 fun h10 cs2 k10 x10 e10 hl10 hv10 => ?_
   cbv; refine tR x10 e10 (by exact jO hl10 sz) hv10 (by exact yY f2 rfl) f8 fun h11 k11 => ?_
   cbv; try refine yV rfl ?_
   cbv; exact ⟨⟨by walk_at "lc", by walk_at "lc", by walk_at "lc", by walk_at "lc", by walk_at "lc", by walk_at "lc", by walk_at "lc"⟩, by walk_at "lc", (k9.trans k10).trans (KeepC.of_ext k11), cs2, x10.ext k11, k11 _ _ e10, hl10, hv10⟩
  ·
   revert I; refine bO fun gs _ k9 cs x9 _ => oA fun hl9 hv9 => ?_
   cbv; exact ⟨gs, k9.ext (hx7.trans k8) ge hc0, cs, x9, hl9, hv9⟩
 clear x7 e7 hx7 lA lc hv hl hcA hc hc0
 cbv; refine iX hS hx8 ge x8 hsc hn' hl' hv' hw fun h9 v k9 x9 R => ?_
 have hx9:= k9.ext hx8 ge
 cbv; refine jG (k:= 16) (hx9 _ _ hsc) hn' (by decide) ?_
 cbv; refine zW (by decide) ?_
 obtain ⟨j, ej, hj⟩ : ∃ j : Nat, ms.getD 16 0 % 11 = (j : Int) /\ j < 11:= ⟨(ms.getD 16 0 % 11).toNat, by exact at02 rfl, by exact at01 rfl⟩
 rw [ej]
 cbv; refine iY hS hx9 x9 R hj fun h10 k10 => ?_
 cbv; try refine yV rfl ?_
 have x10:= x9.ext k10
 have hx10:= hx9.trans k10
 cbv; refine fS hS hall hx10 x10 R (fun h11 cs w' k11 G => ?_) fun h11 k11 no => ?_
 ·
  cbv; refine uX hS (hx10.trans k11) (x10.ext k11) R (fun h12 _ _ k12 _ => ?_) fun h12 k12 no => absurd G (no _ _)
  cbv; try refine yV rfl ?_
  cbv; try refine vZ (fun c => by cases c) fun _ => ?_
  cbv; refine fQ hS ((hx10.trans k11).trans k12) ge ((x10.ext k11).ext k12) R G fun _ => ?_
  cbv; rfl
 ·
  cbv; refine uX hS (hx10.trans k11) (x10.ext k11) R (fun h12 _ _ k12 G => absurd G (no _ _)) fun h12 k12 _ => ?_
  cbv; try refine yV rfl ?_
  cbv; try refine vZ (fun _ => ?_) fun c => by cases c
  cbv; rfl
end
theorem ax (ns : List Int) (h : ns.length <= 63) : ∃ H, run tab 8 157 [.ref 3] (uH ns) = .ok (.bool true) H:= by
 refine qd (fun a h' e t03 => ?_) (of_w (law_w ns h)); obtain rfl:= t03
 exact ⟨h', e⟩
end Mine.Internal
end
end
section
open PySem PySem.W PyProof.Rows PySem.Calls
namespace Mine.Internal
noncomputable def wN (h : Heap) (sc : Addr) : Base:= { hp:= h, cls:= fun c => xI c caT, ad:= tuT.map (fun a => (a, a)) ++ [(sc, sc)], bad:= cb, fn:= fun f => xI f faT }
structure FragOk (K : Frag) : Prop where
 fns : tab.fns.all (fun p => match xI p.1 faT with | some a => qy K a p.2 | none => false) = true
 glb : tab.glb.all (fun p => km K p.1 p.2) = true
 fng : faT.all (fun p => mS p.1 || jS (nsIn K mainGlobals (nm p.1)) p.2) = true
 clg : caT.all (fun p => jS (nsIn K mainGlobals (nm p.1)) p.2) = true
 blt : [Blt.len, .list, .range, .sum, .max].all (fun k => xR (nsIn K mainGlobals (uV k))) = true
 bdg : jS (nsIn K mainGlobals vU) cb = true
 ceg : jS (nsIn K mainGlobals ("ChessError" : Str)) 52 = true
 exg : xR (nsIn K mainGlobals ("Exception" : Str)) = true
 cls : tab.inits.all (fun p => match xI p.1 caT, xI p.2 faT with | some C, some f => aH K C f | _, _ => false) = true
 bad : dZ K cb 52 69 = true
 cee : cA K 52 = true
 in1 : sV K 69 ["self", "text", "square"] "ChessError" "square" "square" = true
 in2 : sV K 49 ["self", "text"] "Exception" "text" "text" = true
 rds : readsIn K 52 (.type "type") = true
 spc : specialIn K (.ref 52) "__getattribute__" = some (some (.builtin "type.__getattribute__"))
 fnd : findCls K (.ref 52) (.type "type") "__init__" = some (.val (.ref 49))
 tup : ((uH []).zip tuT).all (fun p => fj K p.2 p.1) = true
end Mine.Internal
end
section
open PySem PySem.W PyProof.Rows
namespace Mine.Internal
set_option maxRecDepth 1000000
set_option maxHeartbeats 8000000
theorem aB {tb : String -> Option Builtin} {p : Program} {w : World} {n₀ : Nat} {ann : Option Value} : ∀ {n : Nat} {s s' : SharedT} {t : Thread}, goT (stepT (denote tb) p w) (stepOk n₀ ann) n s t = some s' -> topRun tb p w n₀ ann n s.abs t = some s'.abs
 | 0, _, _, _, h => by contradiction
 | n + 1, s, s', t, h => by
  unfold goT at h
  unfold topRun
  cases ht : through t with
  | true => rw [ht] at h; obtain rfl:= si h; rfl
  | false =>
   rw [ht] at h
   cases hk : stepOk n₀ ann t with
   | false => rw [hk] at h; contradiction
   | true =>
    rw [hk] at h
    cases hs : stepT (denote tb) p w s t with
    | none => rw [hs] at h; contradiction
    | some r => obtain ⟨s₂, t₂⟩:= r; rw [hs] at h; rw [stepT_spec hs]; exact aB h
theorem iN (h : Heap) : ∀ as : List Nat, (dL as h).In h
 | [], _, _, e => by contradiction
 | a :: as, b, o, e => by
  unfold dL at e
  rw [List.filterMap_cons] at e
  cases q : h.get? a with
  | none => rw [q] at e; exact iN h as b o e
  | some x =>
   rw [q] at e
   simp only [Option.map_some, List.lookup] at e
   split at e
   ·
    rename_i z; obtain rfl:= si e; rw [beq_iff_eq.mp z]; exact q
   ·
    exact iN h as b o e
theorem fnsJ {K : Frag} {l : List (Nat × Fn)} (n : Nat) (a : eC K (l.take n) = true) (b : eC K (l.drop n) = true) : eC K l = true:= by
 unfold eC at a b ⊢
 rw [<- List.take_append_drop n l, List.all_append, a, b]; rfl
theorem ku {K : Frag} (e1 : eC K tab.fns = true) (e : kv K = true) (spc : specialIn K (.ref 52) "__getattribute__" = some (some (.builtin "type.__getattribute__"))) (fnd : findCls K (.ref 52) (.type "type") "__init__" = some (.val (.ref 49))) : FragOk K := by
 unfold kv at e
 unfold eC at e1
 refine oA (fun e2 e => ?_) (Bool.and_eq_true_iff.mp e)
 refine oA (fun e3 e => ?_) (Bool.and_eq_true_iff.mp e)
 refine oA (fun e4 e => ?_) (Bool.and_eq_true_iff.mp e)
 refine oA (fun e5 e => ?_) (Bool.and_eq_true_iff.mp e)
 refine oA (fun e6 e => ?_) (Bool.and_eq_true_iff.mp e)
 refine oA (fun e7 e => ?_) (Bool.and_eq_true_iff.mp e)
 refine oA (fun e8 e => ?_) (Bool.and_eq_true_iff.mp e)
 refine oA (fun e9 e => ?_) (Bool.and_eq_true_iff.mp e)
 refine oA (fun e10 e => ?_) (Bool.and_eq_true_iff.mp e)
 refine oA (fun e11 e => ?_) (Bool.and_eq_true_iff.mp e)
 refine oA (fun e12 e => ?_) (Bool.and_eq_true_iff.mp e)
 refine oA (fun e13 e => ?_) (Bool.and_eq_true_iff.mp e)
 refine oA (fun e14 e => ?_) (Bool.and_eq_true_iff.mp e)
 exact ⟨e1, e2, e3, e4, e5, e6, e7, e8, e9, e10, e11, e12, e13, e14, spc, fnd, e⟩
noncomputable def hook : Hook where
 α:= Bool × Bool × Bool × Option (Option Value) × Option CFound
 obs:= qb
 val _ := (true, true, true, some (some (.builtin "type.__getattribute__")), some (.val (.ref 49)))
 says _ h:= ∃ K : Frag, K.In h /\ FragOk K
 of _ s e:= ⟨_, iN _ kS, ku (fnsJ 28 (congrArg (fun x => x.1) e) (congrArg (fun x => x.2.1) e)) (congrArg (fun x => x.2.2.1) e) (congrArg (fun x => x.2.2.2.1) e) (congrArg (fun x => x.2.2.2.2) e)⟩
 keeps _ _ _:= oEA fun K x f k => ⟨K, x.keeps k, f⟩
theorem bt (P : Params) : absHeap (dD (boot_heap P).objs.toList) 11 (boot_heap P).life = boot_heap P:= by kernel_rfl
theorem gY {p : Program} {w : World} {N n : Nat} {hb : Heap} {dr : Drawn} {tk : Nat} {T : BT} {life : Life} {α β : Type} {S : Shared -> α} {O : Shared -> β} {g : α} {v : β}
  (hh : (fencedOpening treeTable p w N).map (fun s => (s.heap, s.gens, s.drawn, s.toks)) = some (hb, Array.mk [], dr, tk)) (fine : (hb.isNs mainGlobals && (Array.mk ([] : List GenState)).size == 0) = true) (sz : hb.objs.size = n) (eT : absHeap T n life = hb)
  (ran : ∀ os, (goT (stepT (denote treeTable) p w) (stepOk n (hb.nsMap mainGlobals "__annotations__")) N ⟨T, n, life, Array.mk [], dr, tk, os⟩ (topStub p)).map (fun s =>
   (staticsOk (importedModules p.main.body) hb s.abs.heap && namesBound p s.abs.heap && gensDone s.abs && laidKept hb s.abs.heap, S s.abs, O s.abs)) = some (true, g, v)) :
  (openEnds treeTable p w N).map (fun s => (S s, O s)) = some (g, v):= by
 refine oEA (fun t00 h0 e0 => ?_) (Option.map_eq_some_iff.mp hh); obtain ⟨hp, gens, drawn, toks, os⟩:= t00
 cases e0
 refine oEA (fun sT h1 e1 => ?_) (Option.map_eq_some_iff.mp (ran os))
 have h2:= aB h1
 have e2 : (SharedT.mk T n life (Array.mk []) drawn toks os).abs = ⟨hp, Array.mk [], drawn, toks, os⟩:= congrArg (fun h => (⟨h, Array.mk [], drawn, toks, os⟩ : Shared)) eT
 rw [e2] at h2
 refine oA (fun a1 a2 => ?_) (Prod.mk.inj e1)
 have h3 : topFrom treeTable p w N ⟨hp, Array.mk [], drawn, toks, os⟩ = some sT.abs:= by
  unfold topFrom
  dsimp only
  rw [fine, sz, h2]
  dsimp only [Option.bind_some]
  rw [a1]
 unfold openEnds
 rw [h0]
 dsimp only [Option.bind_some]
 rw [h3]
 exact congrArg some a2
theorem gw (w : World) (os : OsState) : (gu w os).map (fun s => (stB w s, twS s.abs, qb s.abs)) = some (true, openGood viewQ [], true, true, true, some (some (.builtin "type.__getattribute__")), some (.val (.ref 49))) := by
 have a:= ranA w os
 have b:= ranB w os
 have c:= ranC w os
 generalize gu w os = x at a b c ⊢
 cases x with
 | none => contradiction
 | some s =>
  simp only [Option.map_some] at a b c ⊢
  generalize stB w s = p at a b c ⊢
  generalize twS s.abs = t at a b c ⊢
  generalize qb s.abs = o at a b c ⊢
  have a:= si a
  exact congrArg some (Prod.ext (congrArg (fun x => x.1) a) (Prod.ext (Prod.ext (congrArg (fun x => x.2.1) a) (Prod.ext (congrArg (fun x => x.2.2.1) a) (Prod.ext (congrArg (fun x => x.2.2.2) a) (si b)))) (si c)))
theorem bz (P : Params) : ((boot_heap P).isNs mainGlobals && (Array.mk ([] : List GenState)).size == 0) = true:= by kernel_rfl
theorem ran (w : World) (os : OsState) : (goT (stepT (denote treeTable) pw w) (stepOk 11 ((boot_heap w.params).nsMap mainGlobals "__annotations__")) 6160 ⟨dD (boot_heap w.params).objs.toList, 11, (boot_heap w.params).life, Array.mk [], boot_drawn, boot_toks, os⟩ (topStub pw)).map (fun s =>
  (staticsOk (importedModules pw.main.body) (boot_heap w.params) s.abs.heap && namesBound pw s.abs.heap && gensDone s.abs && laidKept (boot_heap w.params) s.abs.heap,
   openSeen viewQ [] (importedModules pw.main.body) (fun s => xlAt viewQ [] s && recOk (RowW.records PySem.Challenge.rw_nt0444_01.row.toRowW) s) true s.abs, hook.obs s.abs)) = some (true, openGood viewQ [], hook.val w):= by
 rw [Fast.te10156331382660048174, Fast.te11892475500146522536, Fast.te14364793385576792824, Fast.te6613529449190102663, Fast.te4187177175401517315]
 exact gw w os
theorem bx (w : World) : (fencedOpening treeTable pw w 6160).map (fun s => (s.heap, s.gens, s.drawn, s.toks)) = some (boot_heap w.params, Array.mk [], boot_drawn, boot_toks):= boot_open (p:= pw) (N:= 6160) rfl rfl (fun s => rfl) w
theorem bw (P : Params) : (boot_heap P).objs.size = 11:= rfl
theorem left : LeftO pw viewQ [] (fun s => xlAt viewQ [] s && recOk (RowW.records PySem.Challenge.rw_nt0444_01.row.toRowW) s) hook.obs hook.val 6160:= fun w => gY (bx w) (bz _) (bw _) (bt _) (ran w)
theorem said : PySem.Challenge.rw_nt0444_01.wellSaid = true:= by rw [Fast.te9446332074065402090]; exact aY
end Mine.Internal
end
section
open PySem PySem.W PyProof.Rows PySem.Calls
namespace Mine.Internal
theorem jD {K : Frag} {h : Heap} {N : Addr} {mg : Str -> Option Value} {n : Str} {v : Value} (X : K.In h) (G : h.Ns N mg) (e : nsIn K N n = some (some v)) : mg n = some v:= by
 revert G; refine xZ fun o es ep ho hd _ hf => ?_
 unfold nsIn at e
 split at e
 ·
  rename_i c d es' n' sl q
  have:= X _ _ q
  obtain rfl:= s2 ho this
  cases hd
  split at e
  ·
   rename_i en he
   cases e
   rw [<- hf]
   unfold nsFind findBy
   rw [<- Array.find?_toList, he]
   rfl
  ·
   split at e <;> cases e
 ·
  contradiction
theorem jU {x : Option (Option Value)} {a : Addr} (h : jS x a = true) : x = some (some (.ref a)):= by
 unfold jS at h
 split at h
 ·
  rw [Nat.eq_of_beq_eq_true h]
 ·
  contradiction
theorem xC {x : Option (Option Value)} (h : xR x = true) : x = some none:= by
 unfold xR at h
 split at h
 ·
  rfl
 ·
  contradiction
theorem wK {α : Type} {x : Nat} {v : α} : ∀ {l : List (Nat × α)}, xI x l = some v -> (x, v) ∈ l
 | [], h => by contradiction
 | (y, w) :: r, h => by
  unfold xI at h
  cases q : Nat.beq y x with
  | true =>
   rw [q] at h
   simp only [cond_true] at h
   obtain rfl:= si h
   rw [Nat.eq_of_beq_eq_true q]
   exact .head _
  | false =>
   rw [q] at h
   simp only [cond_false] at h
   exact .tail _ (wK h)
theorem aC {x : Nat} {v : V} : ∀ {l : Loc}, get x l = some v -> (x, v) ∈ l
 | [], h => by contradiction
 | (y, w) :: r, h => by
  unfold get at h
  cases q : Nat.beq y x with
  | true =>
   rw [q] at h
   simp only [cond_true] at h
   obtain rfl:= si h
   rw [Nat.eq_of_beq_eq_true q]
   exact .head _
  | false =>
   rw [q] at h
   simp only [cond_false] at h
   exact .tail _ (aC h)
theorem ed {h : Heap} {sa : Addr} {x : V} {v : Value} (e : vOk x v = true) : RV (wN h sa).ad x v:= by
 unfold vOk at e
 split at e
 ·
  exact ⟨_, by rw [dTr e]⟩
 ·
  rename_i n a
  split at e
  ·
   rename_i b hb
   refine ⟨(b, b), ?_, by rw [Nat.eq_of_beq_eq_true e]⟩
   show (tuT.map (fun a => (a, a)) ++ [(sa, sa)])[n]? = _
   rw [List.getElem?_append_left (by rw [List.length_map]; exact (List.getElem?_eq_some_iff.mp hb).1), List.getElem?_map, hb]; rfl
  ·
   contradiction
 ·
  contradiction
theorem cV {h : Heap} {sa : Addr} : ∀ {xs : List V} {vs : List Value}, nz xs vs = true -> RVs (wN h sa).ad xs vs
 | [], [], _ => trivial
 | x :: xs, v :: vs, e => by
  unfold nz at e
  rw [Bool.and_eq_true] at e
  exact ⟨ed e.1, cV e.2⟩
 | [], _ :: _, e => by contradiction
 | _ :: _, [], e => by contradiction
section
variable {K : Frag} {h : Heap} {mg mb : Str -> Option Value} {sa : Addr}
theorem fn_is {a : Addr} {fn : Fn} {f : Nat} (X : K.In h) (nl : h.NoLimit) (e : qy K a fn = true) (hf : xI f faT = some a) : DefOk (wN h sa) f fn:= by
 unfold qy at e
 generalize ho : K.lookup a = oo at e
 revert ho
 apply jj (e:= oo) e
 intro dc fd sl e ho
 refine oEA (fun body hb e1 => ?_) (dw (bL (bL (bL (bL (bL (bL e)))))))
 exact ⟨a, _, fd, body, hf, X _ _ ho, rfl, rfl, nl, codeRec_of X (bR (bL e)), hb, List.isEmpty_iff.mp (bR (bL (bL (bL (bL (bL e)))))), dTr (bR (bL (bL (bL (bL e))))), dTr (bR (bL (bL (bL e)))), dTr (bR (bL (bL e))), e1, dTr (bR e)⟩
theorem bZ {a : Addr} {names : List Str} {cn an vn : Str} (X : K.In h) (nl : h.NoLimit) (e : sV K a names cn an vn = true) : InitOk (wN h sa) a names cn an vn:= by
 unfold sV at e
 generalize ho : K.lookup a = oo at e
 revert ho
 apply jj (e:= oo) e
 intro dc fd sl e ho
 refine oEA (fun body hb e1 => ?_) (dw (bL (bL (bL (bL (bL e))))))
 exact ⟨_, fd, body, X _ _ ho, rfl, rfl, nl, codeRec_of X (bR e), hb, List.isEmpty_iff.mp (bR (bL (bL (bL (bL e))))), dTr (bR (bL (bL (bL e)))), dTr (bR (bL (bL e))), dTr (bR (bL e)), e1⟩
theorem cls_is {C fI : Addr} (X : K.In h) (e : aH K C fI = true) (hf : ∃ oI, h.get? fI = some oI /\ oI.cls = .type "function") : ClassOk (wN h sa) C fI := by
 unfold aH at e
 generalize ho : K.lookup C = oo at e
 revert ho
 apply iP (e:= oo) e
 intro dd cd sl e ho
 revert ho
 apply dG (e:= sl) e
 intro k0 k1 k2 k3 n k5 e ho
 obtain ⟨nm', bs, mro, ns, qn, hd, sn, sub, ab, col, del⟩:= cd
 have e1 : mro = _:= dTr (bL (bL (bL (bL (bL (bL (bL (bL (bL e)))))))))
 have e2:= dTr (bR (bL (bL (bL (bL (bL (bL (bL (bL e)))))))))
 have e3 : hd = true:= bR (bL (bL (bL (bL (bL (bL (bL e)))))))
 have e4 : ab = false:= bN (bR (bL (bL (bL (bL (bL (bL e)))))))
 have e5 : del = false:= bN (bR (bL (bL (bL (bL (bL e))))))
 subst e1 e2 e3 e4 e5
 have N:= Heap.Ns.of_isNs (isNs_of_in X (bR (bL (bL (bL (bL e))))))
 exact ⟨nm', qn, ns, bs, sn, sub, col, dd, k0, k1, k2, k3, k5, _, X _ _ ho, N, ns_none_of X N (xC (bR (bL (bL (bL e))))), ns_none_of X N (xC (bR (bL (bL e)))), fun a ha => ns_none_of X N (xC (List.all_eq_true.mp (bR (bL e)) a ha)), jD X N (jU (bR e)), hf⟩
structure Fine (B : Base) : Prop where
 G : GlobOk tab B
 X : qA B
 O : BadOk B
 M : BadMk B
 D : ∀ f fn, xI f tab.fns = some fn -> DefOk B f fn
 N : ∀ c f, xI c tab.inits = some f -> NewFn B c f /\ (xI f tab.fns).isSome = true
theorem kj : tab.inits.all (fun p => (xI p.2 tab.fns).isSome) = true:= by rfl
theorem br : caT.all (fun p => (xI p.1 tab.inits).isSome) = true:= by rfl
theorem rc : faT.all (fun p => (xI p.1 tab.fns).isSome) = true:= by rfl
theorem fine (X : K.In h) (F : FragOk K) (g : h.Ns mainGlobals mg) (b : h.Ns builtinsNs mb) (bv : ∀ x : Str, x ≠ "__name__" -> mb x = bootBuiltins x) (nl : h.NoLimit) : Fine (wN h sa) := by
 have D : ∀ f fn, xI f tab.fns = some fn -> DefOk (wN h sa) f fn:= fun f fn e => by
  have z:= List.all_eq_true.mp F.fns _ (wK e)
  dsimp only at z
  split at z
  ·
   rename_i a ha; exact fn_is X nl z ha
  ·
   contradiction
 have isF : ∀ f a, xI f faT = some a -> ∃ o, h.get? a = some o /\ o.cls = .type "function" := fun f a e => by
  have z:= List.all_eq_true.mp rc _ (wK e)
  refine oE (fun fn hfn => ?_) (Option.isSome_iff_exists.mp z)
  refine fl ((D f fn hfn).it) <| vS fun a' o fd body d1 d2 => oA fun d3 _ => ?_
  have : xI f faT = some a':= d1
  obtain rfl:= s2 e this
  exact ⟨o, d2, d3⟩
 have C : ∀ c f, xI c tab.inits = some f -> ∃ C a, xI c caT = some C /\ xI f faT = some a /\ ClassOk (wN h sa) C a:= fun c f e => by
  have z:= List.all_eq_true.mp F.cls _ (wK e)
  dsimp only at z
  split at z
  ·
   rename_i C a h1 h2; exact ⟨C, a, h1, h2, cls_is X z (isF f a h2)⟩
  ·
   contradiction
 have bad:= F.bad
 have cee:= F.cee
 unfold dZ at bad
 unfold cA at cee
 generalize ho : K.lookup cb = oo at bad
 generalize ho' : K.lookup 52 = oo' at cee
 revert ho
 apply iP (e:= oo) bad
 intro dd cd sl bad ho
 revert ho
 apply dG (e:= sl) bad
 intro k0 k1 k2 k3 n k5 bad ho
 obtain ⟨nm', bs, mro, ns, qn, hd, sn, sub, ab, col, del⟩:= cd
 have e1 : mro = _:= dTr (bL (bL (bL (bL (bL (bL (bL (bL bad))))))))
 have e3:= dTr (bR (bL (bL (bL (bL (bL (bL (bL bad))))))))
 have e4 : hd = true:= bR (bL (bL (bL (bL (bL (bL bad))))))
 have e5 : del = false:= bN (bR (bL (bL (bL (bL (bL bad))))))
 subst e1 e3 e4 e5
 have N:= Heap.Ns.of_isNs (isNs_of_in X (bR (bL (bL (bL (bL bad))))))
 revert ho'
 apply iP (e:= oo') cee
 intro dd' cd' sl' cee ho'
 revert ho'
 apply dG (e:= sl') cee
 intro j0 j1 j2 j3 n' j5 cee ho'
 obtain ⟨nm2, bs2, mro2, ns2, qn2, hd2, sn2, sub2, ab2, col2, del2⟩:= cd'
 have f1 : mro2 = _:= dTr (bL (bL (bL (bL (bL cee)))))
 have f2 : del2 = false:= bN (bR (bL (bL (bL (bL cee)))))
 subst f1 f2
 have N2:= Heap.Ns.of_isNs (isNs_of_in X (bR (bL (bL (bL cee)))))
 have bvs : ∀ k : Blt, bootBuiltins (uV k) = some (cJ k):= fun k => by cases k <;> rfl
 have nn : ∀ k : Blt, uV k ≠ ("__name__" : Str) := fun k => by cases k <;> decide
 refine ⟨⟨mg, mb, g, b, fun x v e => ?_, fun f a e hi => ?_, fun c C e => ?_, fun k => ⟨ns_none_of X g (xC (List.all_eq_true.mp F.blt k (by cases k <;> simp))), (bv _ (nn k)).trans (bvs k)⟩, jD X g (jU F.bdg)⟩, fun c C' e => ?_,
  ⟨_, _, _, _, _, _, _, _, _, _, _, _, _, _, _, _, _, X _ _ ho, by decide +kernel⟩,
  ⟨⟨⟨_, _, _, _, true, _, _, _, _, _, _, _, _, _, _, ""⟩, ⟨_, _, _, _, _, _, _, _, _, _, _, _, _, _, _, _⟩, _, _, _, K, _, _, mg, mb⟩, ⟨X _ _ ho, N, X _ _ ho', N2⟩, jD X N (jU (bR bad)), ns_none_of X N (xC (bR (bL (bL (bL bad))))), ns_none_of X N2 (xC (bR (bL (bL cee)))), ns_none_of X N (xC (bR (bL (bL bad)))), ns_none_of X N (xC (bR (bL bad))),
   ns_none_of X N2 (xC (bR (bL cee))), ns_none_of X N2 (xC (bR cee)), bZ X nl F.in1, bZ X nl F.in2, X, F.rds, F.spc, F.fnd, g, b, jD X g (jU F.ceg), ns_none_of X g (xC F.exg), (bv _ (by decide)).trans (by rfl)⟩, D, fun c f e => ?_⟩
 ·
  have z:= List.all_eq_true.mp F.glb _ (aC e)
  unfold km at z
  dsimp only at z
  split at z
  ·
   rename_i u hu; exact ⟨u, jD X g hu, ed z⟩
  ·
   contradiction
 ·
  have z:= List.all_eq_true.mp F.fng _ (wK e)
  dsimp only at z
  rw [hi, Bool.false_or] at z
  exact jD X g (jU z)
 ·
  exact jD X g (jU (List.all_eq_true.mp F.clg _ (wK e)))
 ·
  have z:= List.all_eq_true.mp br _ (wK e)
  refine oE (fun f hf => ?_) (Option.isSome_iff_exists.mp z)
  refine wQ (fun C2 a g1 g2 g3 => ?_) (C c f hf)
  have e : xI c caT = some C':= e
  obtain rfl:= s2 e g1
  exact ⟨a, g3⟩
 ·
  refine wQ (fun C2 a g1 g2 g3 => ?_) (C c f e)
  exact ⟨⟨C2, a, g1, g2, g3⟩, List.all_eq_true.mp kj _ (wK e)⟩
end
theorem gV {ρ : Adr} : ∀ {vs : List Value} {ns : List Int}, IntsAre vs ns -> RVs ρ (ns.map .int) vs
 | _, _, .nil => trivial
 | _, _, .cons n t h => ⟨⟨t, rfl⟩, gV h⟩
theorem bp : AOk callerA [] 8:= by
 refine ⟨rfl, by decide +kernel, by decide +kernel, [], rfl, fun x hx => by cases hx⟩
theorem fz {K : Frag} {h : Heap} {sa : Addr} {vs : List Value} {ns : List Int} (X : K.In h) (F : FragOk K) (hl : h.IsList sa vs.toArray) (hi : IntsAre vs ns) :
  St (wN h sa) [] (wN h sa).ad (uH ns) h:= by
 have tup:= F.tup
 have hn : ∀ (n : Nat) (o : O), (uH ns)[n]? = some o -> jQ o = false:= by
  intro n o e
  have : ∀ o ∈ uH ns, jQ o = false:= by
   intro o ho
   simp only [uH, List.mem_cons, List.not_mem_nil, or_false] at ho
   rcases ho with rfl | rfl | rfl | rfl <;> rfl
  exact this o (List.mem_of_getElem? e)
 have nf : ∀ b, ¬ zR (wN h sa).ad (uH ns) b:= by
  refine fun b => xZ fun n p o _ ho hm _ => ?_
  rw [hn n o ho] at hm; cases hm
 refine ⟨fun _ _ e => e, rfl, ?_, ?_, fun b hb => (nf b hb).elim, (fun n p o _ _ _ q => nf _ q), (fun L hL => by cases hL), fun n p e => e⟩
 ·
  intro n p o hp ho
  have e0 : uH ns = (uH []).take 3 ++ [.fro (ns.map .int)]:= rfl
  have key : ∀ (a : Addr) (o : O), fj K a o = true -> ∀ q : Addr × Addr, q.1 = a -> RO (wN h sa) (wN h sa).ad q h o:= by
   intro a o e q hq
   refine oEA (fun xs t01 e' => ?_) (qc e); obtain rfl:= t01
   clear e
   generalize hk : K.lookup a = oo at e'
   revert hk
   apply mK (e:= oo) e'
   intro ob e hk
   obtain ⟨c, dc, d, sl⟩:= ob
   obtain rfl : c = .type "tuple" := dTr (bL e)
   revert hk
   apply rj (e:= d) (bR e)
   intro vs' n' e hk
   exact ⟨vs'.toList, ⟨_, by rw [hq]; exact X _ _ hk, rfl, n', rfl⟩, cV e⟩
  simp only [uH, tuT, List.zip_cons_cons, List.zip_nil_left, List.zip_nil_right, List.all_cons, List.all_nil, Bool.and_true, Bool.and_eq_true] at tup
  revert tup; refine oAA fun t1 t2 t3 => ?_
  match n, hp, ho with
  | 0, hp, ho => cases hp; cases ho; exact key _ _ t1 _ rfl
  | 1, hp, ho => cases hp; cases ho; exact key _ _ t2 _ rfl
  | 2, hp, ho => cases hp; cases ho; exact key _ _ t3 _ rfl
  | 3, hp, ho => cases hp; cases ho; exact ⟨vs, hl, gV hi⟩
  | n + 4, hp, ho => cases hp
 ·
  intro n m p q o o' _ _ ho _ hm _ _
  rw [hn n o ho] at hm; cases hm
theorem qq (ns : List Int) (h : ns.length <= 63) : ∃ H, run tab 8 157 [.ref 3] (uH ns) = .ok (.bool true) H:= ax ns h
theorem law_call {prog : Program} {w : World} {K : Frag} {s : Shared} {mg mb : Str -> Option Value} {sa fa : Addr} {vs : List Value} {ns : List Int} (X : K.In s.heap) (F : FragOk K) (g : s.heap.Ns mainGlobals mg) (b : s.heap.Ns builtinsNs mb) (bv : ∀ x : Str, x ≠ "__name__" -> mb x = bootBuiltins x)
  (nl : s.heap.NoLimit) (hfa : mg ("law" : Str) = some (.ref fa)) (hl : s.heap.IsList sa vs.toArray) (hi : IntsAre vs ns) (hn : ns.length <= 63) {E : Value -> Shared -> Prop} :
  wpAny (model prog w) callerA (PySem.call (.ref fa) [.ref sa]) (fun v s' => v = .bool true /\ (∀ b o, s.heap.get? b = some o -> s'.heap.get? b = some o) /\ s'.gens = s.gens /\ s'.os = s.os) E s:= by
 have fi:= fine (sa:= sa) X F g b bv nl
 have R : ∀ A fr, AOk A fr 0 -> sH prog w (wN s.heap sa) A fr:= fun A fr hA => gx hA fi.M
 refine xG (fun a d1 _ d3 => ?_) (fn_ok (prog:= prog) (w:= w) fi.X fi.G fi.O R fi.D fi.N 8 callerA [] 0 bp 157 (by rfl))
 have ha : fa = a:= by
  have z:= List.all_eq_true.mp F.fng _ (wK (show xI 157 faT = some a from d1))
  have z2 : mS 157 = false:= by rfl
  dsimp only at z
  rw [z2, Bool.false_or] at z
  have:= jD X g (jU z)
  have e : nm 157 = ("law" : Str) := by decide +kernel
  rw [e, hfa] at this
  cases this; rfl
 subst ha
 have st:= fz X F hl hi
 have z:= d3 [.ref 3] [.ref sa] s _ _ st ⟨⟨(sa, sa), rfl, rfl⟩, trivial⟩
 refine oE (fun H hr => ?_) (qq ns hn)
 unfold Does at z
 rw [hr] at z
 refine wpAny_mono z (fun v s' q => ?_) fun _ _ q => q.elim
 revert q; refine oEA fun ρ t r => ?_
 exact ⟨r, fun b o e => (t.keep b o e (xZ fun n p o' hp ho hm _ => by
  have:= List.mem_of_getElem? ho
  simp only [uH, List.mem_cons, List.not_mem_nil, or_false] at this
  rcases this with rfl | rfl | rfl | rfl <;> cases hm) id).1 (by simp), t.gens, t.os⟩
end Mine.Internal
end
set_option maxHeartbeats 8000000
theorem PySem.Challenge.cw_nt0444_01_holds : PySem.Challenge.rw_nt0444_01.Holds := by
 w_on
 refine holds_law Mine.Internal.said fun s => ?_
 refine holds_open (q:= Mine.Internal.viewQ) (loose:= []) (Xt:= fun s => xlAt Mine.Internal.viewQ [] s && recOk (RowW.records PySem.Challenge.rw_nt0444_01.row.toRowW) s) (XP:= XL Mine.Internal.viewQ []) (Yf:= Hook.obs Mine.Internal.hook) (Ya:= Hook.val Mine.Internal.hook) (YP:= Hook.says Mine.Internal.hook) (N:= 6160) Mine.Internal.left (Hook.of Mine.Internal.hook) (Hook.keeps Mine.Internal.hook) (fun s e => xl_of s (Bool.and_eq_true_iff.mp e).1) XL.keeps (by rfl) (by rfl) (by rfl) (fun s e => recFacts_of (Bool.and_eq_true_iff.mp e).2) (by rfl) s (by decide +kernel) ⟨rfl, rfl, rfl, rfl, rfl, by decide +kernel⟩ ?hw ?hc
 case hw => w_witness2
 case hc =>
  intro w s₀ s₁ mg mb G Y fa o pm cd doc dV kV ho hd hcd hD hmg hg args vals as hpre hlay hrd hwl hlo
  obtain ⟨K, KX, KF⟩:= Y
  have T:= G.T
  have hmg' : mg ("law" : Str) = some (.ref fa) := hmg
  clear ho hd hcd hD hmg
  wrow_args hpre hlay hrd hwl hlo
  rename_i ns hs hlay0 hL1 hr1 hl2 as1 as2 sa vs as3 hL ra w1 r0 hI hr hc _
  refine wpAny_mono (Mine.Internal.law_call KX KF T.g T.b T.builtins T.nolimit hmg' hL hI (by omega)) (fun v s' q => GoodW.toG ?_) (fun _ _ z => z)
  obtain ⟨rfl, k, g, o⟩:= q
  refine ⟨.inl ⟨.bool true, .bool true, [], rfl, ?_, .bool true, ?_, ?_⟩, k, o, g.trans hg⟩
  ·
   exact raisesW_false (by wrow_none_raised)
  ·
   wrow_post
  ·
   intro _; exact ⟨List.nodup_nil, fun a h => by cases h⟩
