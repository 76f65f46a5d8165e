import PyProof.Rows.All
import Wide.All
import OpenK.AllK
import Wide.FinOn
import PySem.Challenge.RW_xm0262_01
open PySem PySem.W PyProof.Rows
set_option Elab.async false
set_option genCtorIdx false
set_option backward.match.sparseCases false
set_option tactic.hygienic false
set_option maxRecDepth 100000
set_option maxHeartbeats 8000000
set_option linter.unusedSimpArgs false
set_option linter.unusedVariables false
set_option genSizeOf false
set_option genInjectivity false
namespace Mine
open PySem
theorem zv {A0 : Sort _} {A1 : Sort _} {A2 : Sort _} {A3 : Sort _} {p0 p1 : A0 → A1 → A2 → A3 → Prop} {P : Prop} (h : ∃ a0 a1 a2 a3, p0 a0 a1 a2 a3 ∧ p1 a0 a1 a2 a3) (f : ∀ a0 a1 a2 a3, p0 a0 a1 a2 a3 → p1 a0 a1 a2 a3 → P) : P := h.elim fun a0 g0 => g0.elim fun a1 g1 => g1.elim fun a2 g2 => g2.elim fun a3 g3 => f a0 a1 a2 a3 g3.1 g3.2
theorem zu {A0 : Sort _} {A1 : Sort _} {A2 : Sort _} {A3 : Sort _} {A4 : Sort _} {p0 : A0 → A1 → A2 → A3 → A4 → Prop} {P : Prop} (h : ∃ a0 a1 a2 a3 a4, p0 a0 a1 a2 a3 a4) (f : ∀ a0 a1 a2 a3 a4, p0 a0 a1 a2 a3 a4 → P) : P := h.elim fun a0 g0 => g0.elim fun a1 g1 => g1.elim fun a2 g2 => g2.elim fun a3 g3 => g3.elim fun a4 g4 => f a0 a1 a2 a3 a4 g4
theorem zr {A0 : Sort _} {A1 : Sort _} {A2 : Sort _} {A3 : Sort _} {A4 : Sort _} {A5 : Sort _} {A6 : Sort _} {p0 : A0 → A1 → A2 → A3 → A4 → A5 → A6 → Prop} {P : Prop} (h : ∃ a0 a1 a2 a3 a4 a5 a6, p0 a0 a1 a2 a3 a4 a5 a6) (f : ∀ a0 a1 a2 a3 a4 a5 a6, p0 a0 a1 a2 a3 a4 a5 a6 → P) : P := h.elim fun a0 g0 => g0.elim fun a1 g1 => g1.elim fun a2 g2 => g2.elim fun a3 g3 => g3.elim fun a4 g4 => g4.elim fun a5 g5 => g5.elim fun a6 g6 => f a0 a1 a2 a3 a4 a5 a6 g6
theorem ei2 {A0 : Sort _} {A1 : Sort _} {p : A0 → A1 → Prop} {a0 : A0} {a1 : A1} (h : p a0 a1) : ∃ a0 a1, p a0 a1 := ⟨a0, a1, h⟩
theorem ei3 {A0 : Sort _} {A1 : Sort _} {A2 : Sort _} {p : A0 → A1 → A2 → Prop} {a0 : A0} {a1 : A1} {a2 : A2} (h : p a0 a1 a2) : ∃ a0 a1 a2, p a0 a1 a2 := ⟨a0, a1, a2, h⟩
theorem ei4 {A0 : Sort _} {A1 : Sort _} {A2 : Sort _} {A3 : Sort _} {p : A0 → A1 → A2 → A3 → Prop} {a0 : A0} {a1 : A1} {a2 : A2} {a3 : A3} (h : p a0 a1 a2 a3) : ∃ a0 a1 a2 a3, p a0 a1 a2 a3 := ⟨a0, a1, a2, a3, h⟩
theorem ei5 {A0 : Sort _} {A1 : Sort _} {A2 : Sort _} {A3 : Sort _} {A4 : Sort _} {p : A0 → A1 → A2 → A3 → A4 → Prop} {a0 : A0} {a1 : A1} {a2 : A2} {a3 : A3} {a4 : A4} (h : p a0 a1 a2 a3 a4) : ∃ a0 a1 a2 a3 a4, p a0 a1 a2 a3 a4 := ⟨a0, a1, a2, a3, a4, h⟩
theorem ei6 {A0 : Sort _} {A1 : Sort _} {A2 : Sort _} {A3 : Sort _} {A4 : Sort _} {A5 : Sort _} {p : A0 → A1 → A2 → A3 → A4 → A5 → Prop} {a0 : A0} {a1 : A1} {a2 : A2} {a3 : A3} {a4 : A4} {a5 : A5} (h : p a0 a1 a2 a3 a4 a5) : ∃ a0 a1 a2 a3 a4 a5, p a0 a1 a2 a3 a4 a5 := ⟨a0, a1, a2, a3, a4, a5, h⟩
theorem ei7 {A0 : Sort _} {A1 : Sort _} {A2 : Sort _} {A3 : Sort _} {A4 : Sort _} {A5 : Sort _} {A6 : Sort _} {p : A0 → A1 → A2 → A3 → A4 → A5 → A6 → Prop} {a0 : A0} {a1 : A1} {a2 : A2} {a3 : A3} {a4 : A4} {a5 : A5} {a6 : A6} (h : p a0 a1 a2 a3 a4 a5 a6) : ∃ a0 a1 a2 a3 a4 a5 a6, p a0 a1 a2 a3 a4 a5 a6 := ⟨a0, a1, a2, a3, a4, a5, a6, h⟩
theorem nle {x b c : Nat} (h : x ≤ b) (d : b ≤ c) : x ≤ c := Nat.le_trans h d
theorem nlt {x b c : Nat} (h : x ≤ b) (d : b < c) : x < c := Nat.lt_of_le_of_lt h d
theorem nlw {x b c : Nat} (h : x < b) (d : b ≤ c) : x ≤ c := Nat.le_trans (Nat.le_of_lt h) d
theorem ile {x b c : Int} (h : x ≤ b) (d : b ≤ c) : x ≤ c := Int.le_trans h d
theorem ilt {x b c : Int} (h : x ≤ b) (d : b < c) : x < c := Int.lt_of_le_of_lt h d
theorem ilw {x b c : Int} (h : x < b) (d : b ≤ c) : x ≤ c := Int.le_trans (Int.le_of_lt h) d
theorem ige {x a b : Int} (h : b ≤ x) (d : a ≤ b) : a ≤ x := Int.le_trans d h
theorem icl {n b : Nat} {c : Int} (h : n ≤ b) (d : (b : Int) ≤ c) : (n : Int) ≤ c := Int.le_trans (Int.ofNat_le.mpr h) d
theorem icp {n : Nat} (h : 0 < n) : 0 < (n : Int) := Int.natCast_pos.mpr h
theorem ine {x : Int} (h : 0 < x) : x ≠ 0 := Int.ne_of_gt h
theorem qY {n : Nat} (h : 0 < n) : (n : Int) ≠ 0 := Int.ne_of_gt (Int.natCast_pos.mpr h)
theorem nS {α : Type _} {a : α} {P : Prop} (h : none = some a) : P := nomatch h
theorem sN {α : Type _} {a : α} {P : Prop} (h : some a = none) : P := nomatch h
theorem fT {P : Prop} (h : false = true) : P := nomatch h
theorem tF {P : Prop} (h : true = false) : P := nomatch h
theorem cJ {α : Type} {p : Prop} [Decidable p] {a b : α} (e : (if p then some a else none) = some b) : p ∧ a = b := by
  by_cases h : p
  · rw [if_pos h] at e; exact ⟨h, Option.some.inj e⟩
  · rw [if_neg h] at e; exact nS e
theorem j2 {α : Type} {p : Prop} [Decidable p] {a : Option α} {b : α} (e : (if p then a else none) = some b) : p ∧ a = some b := by
  by_cases h : p
  · rw [if_pos h] at e; exact ⟨h, e⟩
  · rw [if_neg h] at e; exact nS e
theorem lr {p0 p1 p2 : Prop} {P : Prop} (h : p0 ∧ p1 ∧ p2) (f : p0 → p1 → p2 → P) : P := f h.1 h.2.1 h.2.2
theorem wC {p0 p1 p2 p3 : Prop} {P : Prop} (h : p0 ∧ p1 ∧ p2 ∧ p3) (f : p0 → p1 → p2 → p3 → P) : P := f h.1 h.2.1 h.2.2.1 h.2.2.2
theorem ob0_5 {p0 p1 p2 p3 p4 : Prop} {P : Prop} (h : p0 ∧ p1 ∧ p2 ∧ p3 ∧ p4) (f : p0 → p1 → p2 → p3 → p4 → P) : P := f h.1 h.2.1 h.2.2.1 h.2.2.2.1 h.2.2.2.2
theorem ob0_6 {p0 p1 p2 p3 p4 p5 : Prop} {P : Prop} (h : p0 ∧ p1 ∧ p2 ∧ p3 ∧ p4 ∧ p5) (f : p0 → p1 → p2 → p3 → p4 → p5 → P) : P := f h.1 h.2.1 h.2.2.1 h.2.2.2.1 h.2.2.2.2.1 h.2.2.2.2.2
theorem ob0_13 {p0 p1 p2 p3 p4 p5 p6 p7 p8 p9 p10 p11 p12 : Prop} {P : Prop} (h : p0 ∧ p1 ∧ p2 ∧ p3 ∧ p4 ∧ p5 ∧ p6 ∧ p7 ∧ p8 ∧ p9 ∧ p10 ∧ p11 ∧ p12) (f : p0 → p1 → p2 → p3 → p4 → p5 → p6 → p7 → p8 → p9 → p10 → p11 → p12 → P) : P := f h.1 h.2.1 h.2.2.1 h.2.2.2.1 h.2.2.2.2.1 h.2.2.2.2.2.1 h.2.2.2.2.2.2.1 h.2.2.2.2.2.2.2.1 h.2.2.2.2.2.2.2.2.1 h.2.2.2.2.2.2.2.2.2.1 h.2.2.2.2.2.2.2.2.2.2.1 h.2.2.2.2.2.2.2.2.2.2.2.1 h.2.2.2.2.2.2.2.2.2.2.2.2
theorem aA {A0 : Sort _} {p0 p1 : A0 → Prop} {P : Prop} (h : ∃ a0, p0 a0 ∧ p1 a0) (f : ∀ a0, p0 a0 → p1 a0 → P) : P := h.elim fun a0 g0 => f a0 g0.1 g0.2
theorem cg {A0 : Sort _} {p0 p1 p2 : A0 → Prop} {P : Prop} (h : ∃ a0, p0 a0 ∧ p1 a0 ∧ p2 a0) (f : ∀ a0, p0 a0 → p1 a0 → p2 a0 → P) : P := h.elim fun a0 g0 => f a0 g0.1 g0.2.1 g0.2.2
theorem iK {A0 : Sort _} {p0 p1 p2 p3 : A0 → Prop} {P : Prop} (h : ∃ a0, p0 a0 ∧ p1 a0 ∧ p2 a0 ∧ p3 a0) (f : ∀ a0, p0 a0 → p1 a0 → p2 a0 → p3 a0 → P) : P := h.elim fun a0 g0 => f a0 g0.1 g0.2.1 g0.2.2.1 g0.2.2.2
theorem ob1_9 {A0 : Sort _} {p0 p1 p2 p3 p4 p5 p6 p7 p8 : A0 → Prop} {P : Prop} (h : ∃ a0, p0 a0 ∧ p1 a0 ∧ p2 a0 ∧ p3 a0 ∧ p4 a0 ∧ p5 a0 ∧ p6 a0 ∧ p7 a0 ∧ p8 a0) (f : ∀ a0, p0 a0 → p1 a0 → p2 a0 → p3 a0 → p4 a0 → p5 a0 → p6 a0 → p7 a0 → p8 a0 → P) : P := h.elim fun a0 g0 => f a0 g0.1 g0.2.1 g0.2.2.1 g0.2.2.2.1 g0.2.2.2.2.1 g0.2.2.2.2.2.1 g0.2.2.2.2.2.2.1 g0.2.2.2.2.2.2.2.1 g0.2.2.2.2.2.2.2.2
theorem cY {A0 : Sort _} {A1 : Sort _} {p0 : A0 → A1 → Prop} {P : Prop} (h : ∃ a0 a1, p0 a0 a1) (f : ∀ a0 a1, p0 a0 a1 → P) : P := h.elim fun a0 g0 => g0.elim fun a1 g1 => f a0 a1 g1
theorem bY {A0 : Sort _} {A1 : Sort _} {p0 p1 : A0 → A1 → Prop} {P : Prop} (h : ∃ a0 a1, p0 a0 a1 ∧ p1 a0 a1) (f : ∀ a0 a1, p0 a0 a1 → p1 a0 a1 → P) : P := h.elim fun a0 g0 => g0.elim fun a1 g1 => f a0 a1 g1.1 g1.2
theorem bm {A0 : Sort _} {A1 : Sort _} {p0 p1 p2 : A0 → A1 → Prop} {P : Prop} (h : ∃ a0 a1, p0 a0 a1 ∧ p1 a0 a1 ∧ p2 a0 a1) (f : ∀ a0 a1, p0 a0 a1 → p1 a0 a1 → p2 a0 a1 → P) : P := h.elim fun a0 g0 => g0.elim fun a1 g1 => f a0 a1 g1.1 g1.2.1 g1.2.2
theorem dw {A0 : Sort _} {A1 : Sort _} {p0 p1 p2 p3 : A0 → A1 → Prop} {P : Prop} (h : ∃ a0 a1, p0 a0 a1 ∧ p1 a0 a1 ∧ p2 a0 a1 ∧ p3 a0 a1) (f : ∀ a0 a1, p0 a0 a1 → p1 a0 a1 → p2 a0 a1 → p3 a0 a1 → P) : P := h.elim fun a0 g0 => g0.elim fun a1 g1 => f a0 a1 g1.1 g1.2.1 g1.2.2.1 g1.2.2.2
theorem cW {A0 : Sort _} {A1 : Sort _} {p0 p1 p2 p3 p4 : A0 → A1 → Prop} {P : Prop} (h : ∃ a0 a1, p0 a0 a1 ∧ p1 a0 a1 ∧ p2 a0 a1 ∧ p3 a0 a1 ∧ p4 a0 a1) (f : ∀ a0 a1, p0 a0 a1 → p1 a0 a1 → p2 a0 a1 → p3 a0 a1 → p4 a0 a1 → P) : P := h.elim fun a0 g0 => g0.elim fun a1 g1 => f a0 a1 g1.1 g1.2.1 g1.2.2.1 g1.2.2.2.1 g1.2.2.2.2
theorem ob2_6 {A0 : Sort _} {A1 : Sort _} {p0 p1 p2 p3 p4 p5 : A0 → A1 → Prop} {P : Prop} (h : ∃ a0 a1, p0 a0 a1 ∧ p1 a0 a1 ∧ p2 a0 a1 ∧ p3 a0 a1 ∧ p4 a0 a1 ∧ p5 a0 a1) (f : ∀ a0 a1, p0 a0 a1 → p1 a0 a1 → p2 a0 a1 → p3 a0 a1 → p4 a0 a1 → p5 a0 a1 → P) : P := h.elim fun a0 g0 => g0.elim fun a1 g1 => f a0 a1 g1.1 g1.2.1 g1.2.2.1 g1.2.2.2.1 g1.2.2.2.2.1 g1.2.2.2.2.2
theorem iJ {A0 : Sort _} {A1 : Sort _} {A2 : Sort _} {p0 : A0 → A1 → A2 → Prop} {P : Prop} (h : ∃ a0 a1 a2, p0 a0 a1 a2) (f : ∀ a0 a1 a2, p0 a0 a1 a2 → P) : P := h.elim fun a0 g0 => g0.elim fun a1 g1 => g1.elim fun a2 g2 => f a0 a1 a2 g2
theorem nv {A0 : Sort _} {A1 : Sort _} {A2 : Sort _} {p0 p1 : A0 → A1 → A2 → Prop} {P : Prop} (h : ∃ a0 a1 a2, p0 a0 a1 a2 ∧ p1 a0 a1 a2) (f : ∀ a0 a1 a2, p0 a0 a1 a2 → p1 a0 a1 a2 → P) : P := h.elim fun a0 g0 => g0.elim fun a1 g1 => g1.elim fun a2 g2 => f a0 a1 a2 g2.1 g2.2
theorem wA {A0 : Sort _} {A1 : Sort _} {A2 : Sort _} {p0 p1 p2 : A0 → A1 → A2 → Prop} {P : Prop} (h : ∃ a0 a1 a2, p0 a0 a1 a2 ∧ p1 a0 a1 a2 ∧ p2 a0 a1 a2) (f : ∀ a0 a1 a2, p0 a0 a1 a2 → p1 a0 a1 a2 → p2 a0 a1 a2 → P) : P := h.elim fun a0 g0 => g0.elim fun a1 g1 => g1.elim fun a2 g2 => f a0 a1 a2 g2.1 g2.2.1 g2.2.2
theorem kK {A0 : Sort _} {A1 : Sort _} {A2 : Sort _} {p0 p1 p2 p3 : A0 → A1 → A2 → Prop} {P : Prop} (h : ∃ a0 a1 a2, p0 a0 a1 a2 ∧ p1 a0 a1 a2 ∧ p2 a0 a1 a2 ∧ p3 a0 a1 a2) (f : ∀ a0 a1 a2, p0 a0 a1 a2 → p1 a0 a1 a2 → p2 a0 a1 a2 → p3 a0 a1 a2 → P) : P := h.elim fun a0 g0 => g0.elim fun a1 g1 => g1.elim fun a2 g2 => f a0 a1 a2 g2.1 g2.2.1 g2.2.2.1 g2.2.2.2
theorem v9 {A0 : Sort _} {A1 : Sort _} {A2 : Sort _} {p0 p1 p2 p3 p4 : A0 → A1 → A2 → Prop} {P : Prop} (h : ∃ a0 a1 a2, p0 a0 a1 a2 ∧ p1 a0 a1 a2 ∧ p2 a0 a1 a2 ∧ p3 a0 a1 a2 ∧ p4 a0 a1 a2) (f : ∀ a0 a1 a2, p0 a0 a1 a2 → p1 a0 a1 a2 → p2 a0 a1 a2 → p3 a0 a1 a2 → p4 a0 a1 a2 → P) : P := h.elim fun a0 g0 => g0.elim fun a1 g1 => g1.elim fun a2 g2 => f a0 a1 a2 g2.1 g2.2.1 g2.2.2.1 g2.2.2.2.1 g2.2.2.2.2
theorem zw {A0 : Sort _} {A1 : Sort _} {A2 : Sort _} {p0 p1 p2 p3 p4 p5 : A0 → A1 → A2 → Prop} {P : Prop} (h : ∃ a0 a1 a2, p0 a0 a1 a2 ∧ p1 a0 a1 a2 ∧ p2 a0 a1 a2 ∧ p3 a0 a1 a2 ∧ p4 a0 a1 a2 ∧ p5 a0 a1 a2) (f : ∀ a0 a1 a2, p0 a0 a1 a2 → p1 a0 a1 a2 → p2 a0 a1 a2 → p3 a0 a1 a2 → p4 a0 a1 a2 → p5 a0 a1 a2 → P) : P := h.elim fun a0 g0 => g0.elim fun a1 g1 => g1.elim fun a2 g2 => f a0 a1 a2 g2.1 g2.2.1 g2.2.2.1 g2.2.2.2.1 g2.2.2.2.2.1 g2.2.2.2.2.2
theorem ob3_8 {A0 : Sort _} {A1 : Sort _} {A2 : Sort _} {p0 p1 p2 p3 p4 p5 p6 p7 : A0 → A1 → A2 → Prop} {P : Prop} (h : ∃ a0 a1 a2, p0 a0 a1 a2 ∧ p1 a0 a1 a2 ∧ p2 a0 a1 a2 ∧ p3 a0 a1 a2 ∧ p4 a0 a1 a2 ∧ p5 a0 a1 a2 ∧ p6 a0 a1 a2 ∧ p7 a0 a1 a2) (f : ∀ a0 a1 a2, p0 a0 a1 a2 → p1 a0 a1 a2 → p2 a0 a1 a2 → p3 a0 a1 a2 → p4 a0 a1 a2 → p5 a0 a1 a2 → p6 a0 a1 a2 → p7 a0 a1 a2 → P) : P := h.elim fun a0 g0 => g0.elim fun a1 g1 => g1.elim fun a2 g2 => f a0 a1 a2 g2.1 g2.2.1 g2.2.2.1 g2.2.2.2.1 g2.2.2.2.2.1 g2.2.2.2.2.2.1 g2.2.2.2.2.2.2.1 g2.2.2.2.2.2.2.2
theorem iI {A0 : Sort _} {A1 : Sort _} {A2 : Sort _} {A3 : Sort _} {p0 : A0 → A1 → A2 → A3 → Prop} {P : Prop} (h : ∃ a0 a1 a2 a3, p0 a0 a1 a2 a3) (f : ∀ a0 a1 a2 a3, p0 a0 a1 a2 a3 → P) : P := h.elim fun a0 g0 => g0.elim fun a1 g1 => g1.elim fun a2 g2 => g2.elim fun a3 g3 => f a0 a1 a2 a3 g3
theorem ob5_3 {A0 : Sort _} {A1 : Sort _} {A2 : Sort _} {A3 : Sort _} {A4 : Sort _} {p0 p1 p2 : A0 → A1 → A2 → A3 → A4 → Prop} {P : Prop} (h : ∃ a0 a1 a2 a3 a4, p0 a0 a1 a2 a3 a4 ∧ p1 a0 a1 a2 a3 a4 ∧ p2 a0 a1 a2 a3 a4) (f : ∀ a0 a1 a2 a3 a4, p0 a0 a1 a2 a3 a4 → p1 a0 a1 a2 a3 a4 → p2 a0 a1 a2 a3 a4 → P) : P := h.elim fun a0 g0 => g0.elim fun a1 g1 => g1.elim fun a2 g2 => g2.elim fun a3 g3 => g3.elim fun a4 g4 => f a0 a1 a2 a3 a4 g4.1 g4.2.1 g4.2.2
theorem ob5_4 {A0 : Sort _} {A1 : Sort _} {A2 : Sort _} {A3 : Sort _} {A4 : Sort _} {p0 p1 p2 p3 : A0 → A1 → A2 → A3 → A4 → Prop} {P : Prop} (h : ∃ a0 a1 a2 a3 a4, p0 a0 a1 a2 a3 a4 ∧ p1 a0 a1 a2 a3 a4 ∧ p2 a0 a1 a2 a3 a4 ∧ p3 a0 a1 a2 a3 a4) (f : ∀ a0 a1 a2 a3 a4, p0 a0 a1 a2 a3 a4 → p1 a0 a1 a2 a3 a4 → p2 a0 a1 a2 a3 a4 → p3 a0 a1 a2 a3 a4 → P) : P := h.elim fun a0 g0 => g0.elim fun a1 g1 => g1.elim fun a2 g2 => g2.elim fun a3 g3 => g3.elim fun a4 g4 => f a0 a1 a2 a3 a4 g4.1 g4.2.1 g4.2.2.1 g4.2.2.2
theorem tI {A0 : Sort _} {A1 : Sort _} {A2 : Sort _} {A3 : Sort _} {A4 : Sort _} {p0 p1 p2 p3 p4 p5 p6 : A0 → A1 → A2 → A3 → A4 → Prop} {P : Prop} (h : ∃ a0 a1 a2 a3 a4, p0 a0 a1 a2 a3 a4 ∧ p1 a0 a1 a2 a3 a4 ∧ p2 a0 a1 a2 a3 a4 ∧ p3 a0 a1 a2 a3 a4 ∧ p4 a0 a1 a2 a3 a4 ∧ p5 a0 a1 a2 a3 a4 ∧ p6 a0 a1 a2 a3 a4) (f : ∀ a0 a1 a2 a3 a4, p0 a0 a1 a2 a3 a4 → p1 a0 a1 a2 a3 a4 → p2 a0 a1 a2 a3 a4 → p3 a0 a1 a2 a3 a4 → p4 a0 a1 a2 a3 a4 → p5 a0 a1 a2 a3 a4 → p6 a0 a1 a2 a3 a4 → P) : P := h.elim fun a0 g0 => g0.elim fun a1 g1 => g1.elim fun a2 g2 => g2.elim fun a3 g3 => g3.elim fun a4 g4 => f a0 a1 a2 a3 a4 g4.1 g4.2.1 g4.2.2.1 g4.2.2.2.1 g4.2.2.2.2.1 g4.2.2.2.2.2.1 g4.2.2.2.2.2.2
theorem zt {A0 : Sort _} {A1 : Sort _} {A2 : Sort _} {A3 : Sort _} {A4 : Sort _} {A5 : Sort _} {p0 : A0 → A1 → A2 → A3 → A4 → A5 → Prop} {P : Prop} (h : ∃ a0 a1 a2 a3 a4 a5, p0 a0 a1 a2 a3 a4 a5) (f : ∀ a0 a1 a2 a3 a4 a5, p0 a0 a1 a2 a3 a4 a5 → P) : P := h.elim fun a0 g0 => g0.elim fun a1 g1 => g1.elim fun a2 g2 => g2.elim fun a3 g3 => g3.elim fun a4 g4 => g4.elim fun a5 g5 => f a0 a1 a2 a3 a4 a5 g5
theorem v8 {A0 : Sort _} {A1 : Sort _} {A2 : Sort _} {A3 : Sort _} {A4 : Sort _} {A5 : Sort _} {p0 p1 p2 p3 p4 p5 : A0 → A1 → A2 → A3 → A4 → A5 → Prop} {P : Prop} (h : ∃ a0 a1 a2 a3 a4 a5, p0 a0 a1 a2 a3 a4 a5 ∧ p1 a0 a1 a2 a3 a4 a5 ∧ p2 a0 a1 a2 a3 a4 a5 ∧ p3 a0 a1 a2 a3 a4 a5 ∧ p4 a0 a1 a2 a3 a4 a5 ∧ p5 a0 a1 a2 a3 a4 a5) (f : ∀ a0 a1 a2 a3 a4 a5, p0 a0 a1 a2 a3 a4 a5 → p1 a0 a1 a2 a3 a4 a5 → p2 a0 a1 a2 a3 a4 a5 → p3 a0 a1 a2 a3 a4 a5 → p4 a0 a1 a2 a3 a4 a5 → p5 a0 a1 a2 a3 a4 a5 → P) : P := h.elim fun a0 g0 => g0.elim fun a1 g1 => g1.elim fun a2 g2 => g2.elim fun a3 g3 => g3.elim fun a4 g4 => g4.elim fun a5 g5 => f a0 a1 a2 a3 a4 a5 g5.1 g5.2.1 g5.2.2.1 g5.2.2.2.1 g5.2.2.2.2.1 g5.2.2.2.2.2
theorem wB {A0 : Sort _} {A1 : Sort _} {A2 : Sort _} {A3 : Sort _} {A4 : Sort _} {A5 : Sort _} {A6 : Sort _} {A7 : Sort _} {A8 : Sort _} {A9 : Sort _} {p0 p1 : A0 → A1 → A2 → A3 → A4 → A5 → A6 → A7 → A8 → A9 → Prop} {P : Prop} (h : ∃ a0 a1 a2 a3 a4 a5 a6 a7 a8 a9, p0 a0 a1 a2 a3 a4 a5 a6 a7 a8 a9 ∧ p1 a0 a1 a2 a3 a4 a5 a6 a7 a8 a9) (f : ∀ a0 a1 a2 a3 a4 a5 a6 a7 a8 a9, p0 a0 a1 a2 a3 a4 a5 a6 a7 a8 a9 → p1 a0 a1 a2 a3 a4 a5 a6 a7 a8 a9 → P) : P := h.elim fun a0 g0 => g0.elim fun a1 g1 => g1.elim fun a2 g2 => g2.elim fun a3 g3 => g3.elim fun a4 g4 => g4.elim fun a5 g5 => g5.elim fun a6 g6 => g6.elim fun a7 g7 => g7.elim fun a8 g8 => g8.elim fun a9 g9 => f a0 a1 a2 a3 a4 a5 a6 a7 a8 a9 g9.1 g9.2

noncomputable abbrev D := PyData

inductive EV where
  | val (d : D)
  | own (ds : List D)
set_option genCtorIdx true in
inductive LV where
  | val (d : D)
  | own (ds : List D)
  | dct (es : List (Nat × EV))

noncomputable abbrev Rho := Nat → Option LV
noncomputable abbrev cL := List (Str × NameKind)
noncomputable def upd (ρ : Rho) (i : Nat) (v : LV) : Rho := fun j => bif j == i then some v else ρ j
noncomputable def lk {α : Type} (i : Nat) : List (Nat × α) → Option α
  | [] => none
  | (j, v) :: r => bif i == j then some v else lk i r
noncomputable def st {α : Type} (i : Nat) (v : α) : List (Nat × α) → List (Nat × α)
  | [] => []
  | (j, u) :: r => bif i == j then (j, v) :: r else (j, u) :: st i v r
noncomputable def nth {α : Type} : List α → Nat → Option α
  | [], _ => none
  | a :: _, 0 => some a
  | _ :: r, n + 1 => nth r n

mutual
noncomputable def bf : D → Bool
  | .list _ => false
  | .dict _ => false
  | .tuple xs => flatAll xs
  | .none => true
  | .bool _ => true
  | .int _ => true
  | .str _ => true
noncomputable def flatAll : List D → Bool
  | [] => true
  | x :: xs => bf x && flatAll xs
end
theorem j6 (x xs) : flatAll (x :: xs) = (bf x && flatAll xs) := rfl

noncomputable def iO (d : D) : D := .dict [(.none, d)]

noncomputable def c7 : D → Option Bool
  | .bool b => some b
  | .int i => some (i != 0)
  | .list xs => some (!xs.isEmpty)
  | _ => none

noncomputable def aF : Nat := 1000000
noncomputable def aj : Int := 2 ^ 62

noncomputable def gT : D → D → Option D
  | .list xs, .int i => if 0 ≤ i ∧ i < aj then xs[i.toNat]? else none
  | .tuple xs, .int i => if 0 ≤ i ∧ i < aj then xs[i.toNat]? else none
  | _, _ => none

noncomputable def bz (n : Nat) (x : Int) : Nat := if x < 0 then (x + n).toNat else min x.toNat n
noncomputable def db {α : Type} (lo hi : Option Int) (xs : List α) : List α :=
  let a := match lo with | some x => bz xs.length x | none => 0
  let b := match hi with | some x => bz xs.length x | none => xs.length
  (xs.drop a).take (b - a)
noncomputable def ul (lo hi : Option Int) : D → Option D
  | .list xs => some (.list (db lo hi xs))
  | .tuple xs => (match lo, hi with
    | some a, none => if 1 ≤ a ∧ a ≤ xs.length then some (.tuple (xs.drop a.toNat)) else none
    | some a, some b => if 1 ≤ a ∧ a ≤ b ∧ b ≤ xs.length then some (.tuple ((xs.drop a.toNat).take (b - a).toNat)) else none
    | _, _ => none)
  | _ => none
noncomputable def yM : D → Option D
  | .list xs => some (.list xs.reverse)
  | _ => none

noncomputable def ba : D → Option (List D)
  | .list xs => some xs
  | .tuple xs => some xs
  | _ => none
noncomputable def lenD (d : D) : Option D := (ba d).map fun xs => .int xs.length
noncomputable def iN : List D → Option (List Int)
  | [] => some []
  | .int i :: r => (iN r).map (i :: ·)
  | _ :: _ => none

theorem yo (i r) : iN (.int i :: r) = (iN r).map (i :: ·) := rfl
noncomputable def ly (i j : Int) : Bool := decide (i.natAbs < 2 ^ 60) && decide (j.natAbs < 2 ^ 60)

noncomputable def xf : Operator → Int → Int → Option Int
  | .Add, i, j => some (i + j)
  | .Sub, i, j => some (i - j)
  | .Mult, i, j => if ly i j then some (i * j) else none
  | .FloorDiv, i, j => if j = 0 then none else some (i.fdiv j)
  | .Mod, i, j => if j = 0 then none else some (i.fmod j)
  | _, _, _ => none
noncomputable def joinD : Operator → List D → List D → Option D
  | .Add, xs, ys => if xs.length + ys.length ≤ aF then some (.list (xs ++ ys)) else none
  | _, _, _ => none
noncomputable def ux (op : Operator) : D → D → Option D
  | .int i, .int j => (xf op i j).map .int
  | .list xs, .list ys => joinD op xs ys
  | _, _ => none
noncomputable def yN (x : D) : D → Option D
  | .int k => if k ≤ 1000 ∧ -1000 ≤ k then some (.list (List.replicate k.toNat x)) else none
  | _ => none

noncomputable def zX : CmpOp → Int → Int → Option Bool
  | .Lt, i, j => some (decide (i < j))
  | .LtE, i, j => some (decide (i ≤ j))
  | .Gt, i, j => some (decide (i > j))
  | .GtE, i, j => some (decide (i ≥ j))
  | _, _, _ => none
noncomputable def qH (a b : D) : Bool := SeqAt.shaped a && SeqAt.shaped b
noncomputable def be (op : CmpOp) (a b : D) : Option Bool :=
  match op with
  | .Eq => if qH a b then some (a.eqv b) else none
  | .NotEq => if qH a b then some (!a.eqv b) else none
  | .In => if qH a b then (ba b).map fun xs => xs.any fun y => y.eqv a else none
  | .NotIn => if qH a b then (ba b).map fun xs => !(xs.any fun y => y.eqv a) else none
  | op => match a, b with
    | .int i, .int j => zX op i j
    | _, _ => none

noncomputable def aW : List Int → List Int → Bool
  | [], [] => false
  | [], _ :: _ => true
  | _ :: _, [] => false
  | a :: r, b :: t => if a = b then aW r t else decide (a < b)
theorem wK (r) : aW r [] = false := by cases r <;> rfl
theorem uV (b t) : aW [] (b :: t) = true := rfl
theorem ch (a r b t) : aW (a :: r) (b :: t) = if a = b then aW r t else decide (a < b) := rfl
noncomputable def ky (a : Int) : List Int → List Int
  | [] => [a]
  | b :: r => if a ≤ b then a :: b :: r else b :: ky a r
theorem insI_n (a) : ky a [] = [a] := rfl
theorem pB (a b r) : ky a (b :: r) = if a ≤ b then a :: b :: r else b :: ky a r := rfl
noncomputable def eZ (l : List Int) : List Int := l.foldr ky []
noncomputable def qW (a : List Int) : List (List Int) → List (List Int)
  | [] => [a]
  | b :: r => if aW b a then b :: qW a r else a :: b :: r
theorem sJ (a b r) : qW a (b :: r) = if aW b a then b :: qW a r else a :: b :: r := rfl
noncomputable def i9 (l : List (List Int)) : List (List Int) := l.foldr qW []
noncomputable def lg (k : Nat) : List D → Option (List (List Int))
  | [] => some []
  | .tuple xs :: r => match iN xs with
    | some is => if is.length = k then (lg k r).map (is :: ·) else none
    | none => none
  | _ :: _ => none
theorem rowsD_n (k) : lg k [] = some [] := rfl
theorem s5 (k xs r) : lg k (.tuple xs :: r) = match iN xs with
  | some is => if is.length = k then (lg k r).map (is :: ·) else none
  | none => none := rfl
noncomputable def dG (is : List Int) : D := .tuple (is.map .int)
noncomputable def gJ (lst : Bool) (xs : List D) : Option (List D) :=
  if xs.length ≤ 60 then
    match xs with
    | [] => some []
    | .int i :: r => if lst then (iN r).map fun is => (eZ (i :: is)).map .int else none
    | .tuple ys :: r => if 1 ≤ ys.length ∧ r.length ≤ 3 then (lg ys.length (.tuple ys :: r)).map fun rs => (i9 rs).map dG else none
    | _ :: _ => none
  else none

noncomputable def qL : Int → List Int → Int
  | a, [] => a
  | a, b :: r => qL (if b < a then b else a) r
theorem minL_c (a b r) : qL a (b :: r) = qL (if b < a then b else a) r := rfl
noncomputable def qN : Int → List Int → Int
  | a, [] => a
  | a, b :: r => qN (if b > a then b else a) r

theorem maxL_c (a b r) : qN a (b :: r) = qN (if b > a then b else a) r := rfl
set_option genCtorIdx true in
inductive Bi where
  | len | list | tuple | sorted | min | max | region
noncomputable def mW : List (Str × Bi) := [("len", .len), ("list", .list), ("tuple", .tuple), ("sorted", .sorted), ("min", .min), ("max", .max), ("RegionTable", .region)]
noncomputable def tK (f : Int → Int → Int) (fl : Int → List Int → Int) : List D → Option D
  | [a] => (match a with
    | .list xs => (iN xs).bind fun l => (match l with
      | i :: r => if r.length ≤ 60 then some (.int (fl i r)) else none
      | [] => none)
    | _ => none)
  | [a, b] => (match a with
    | .int i => (match b with
      | .int j => some (.int (f i j))
      | _ => none)
    | _ => none)
  | _ => none
noncomputable def rm (f : D → Option D) : List D → Option D
  | [d] => f d
  | _ => none
noncomputable def sr : D → Option D
  | .list xs => (gJ true xs).map .list
  | .tuple xs => (gJ false xs).map .list
  | _ => none
noncomputable def s8 : D → Option D
  | .list xs => some (iO (.list xs))
  | _ => none
noncomputable def xM (f : List D → D) (d : D) : Option D := (ba d).bind fun xs => if flatAll xs then some (f xs) else none
noncomputable def biD : Bi → List D → Option D
  | .len => rm lenD
  | .list => rm (xM .list)
  | .tuple => rm (xM .tuple)
  | .sorted => rm sr
  | .min => tK (fun i j => if j < i then j else i) qL
  | .max => tK (fun i j => if j > i then j else i) qN
  | .region => rm s8
noncomputable def pT : Bi → Bool
  | .region => false
  | _ => true

noncomputable def dZ (n : Nat) (a : Int) : List D := (List.range n).map fun (k : Nat) => PyData.int (a + (k : Int))
noncomputable def eh (n : Nat) (a : Int) : List D := (List.range n).map fun (k : Nat) => PyData.int (a - (k : Int))
noncomputable def dD : List D → Option (List D)
  | [.int b] => if -100000 ≤ b ∧ b ≤ 100000 then some (dZ b.toNat 0) else none
  | [.int a, .int b] => if -100000 ≤ a ∧ a ≤ 100000 ∧ -100000 ≤ b ∧ b ≤ 100000 then some (dZ (b - a).toNat a) else none
  | [.int a, .int b, .int c] => if c = -1 ∧ -100000 ≤ a ∧ a ≤ 100000 ∧ -100000 ≤ b ∧ b ≤ 100000 then some (eh (a - b).toNat a) else none
  | _ => none
noncomputable def iR (k : Nat) : List D → List D
  | [] => []
  | x :: r => .tuple [.int k, x] :: iR (k + 1) r
theorem zN (k) : iR k [] = [] := rfl
theorem lL (k x r) : iR k (x :: r) = .tuple [.int k, x] :: iR (k + 1) r := rfl
end Mine
namespace Mine
open PySem

inductive IE where
  | k (d : D)
  | v (i : Nat)
  | bin (op : Operator) (a b : IE)
  | rep (x n : IE)
  | no (a : IE)
  | neg (a : IE)
  | and (es : List IE)
  | or (es : List IE)
  | cmp (op : CmpOp) (a b : IE)
  | cmp2 (op op' : CmpOp) (a b c : IE)
  | ite (t b o : IE)
  | tup (es : List IE)
  | lst (es : List IE)
  | idx (a i : IE)
  | ent (w k : Nat)
  | cut (a lo hi : IE)
  | rev (a : IE)
  | attr (o : IE)
  | call (f : Nat) (as : List IE)
  | bi (b : Bi) (as : List IE)
  | meth (m : Nat) (o : IE) (as : List IE)
  | comp (fs : List (Nat × Nat)) (ts : List Nat) (tt : Bool) (it c e : IE)
  | range (as : List IE)
  | enum (a : IE)
  | revd (a : IE)

structure G where
  call : Nat → List D → Option D
  io : Nat → LV → List D → Option (D × LV)
  meth : Nat → List D → Option D

noncomputable def frE : EV → EV
  | .val d => .val d
  | .own ds => .val (.list ds)
noncomputable def pE : LV → LV
  | .val d => .val d
  | .own ds => .val (.list ds)
  | .dct es => .dct (es.map fun x => (x.1, frE x.2))
noncomputable def frz (ρ : Rho) : Rho := fun i => (ρ i).map pE
noncomputable def unD : LV → Option LV
  | .val d => some (.val d)
  | .own ds => some (.val (.list ds))
  | .dct _ => none
noncomputable def cy (fs : List (Nat × Nat)) (ρ : Rho) : Rho := fun i => (lk i fs).bind fun j => (ρ j).bind unD

noncomputable def yu : Option LV → Option D
  | some (.val d) => some d
  | _ => none
noncomputable def wl : Option EV → Option D
  | some (.val d) => some d
  | _ => none
noncomputable def oI (k : Nat) : Option LV → Option EV
  | some (.dct es) => lk k es
  | _ => none
noncomputable def tB : Option LV → Option (D × Bool)
  | some (.own ds) => some (.list ds, true)
  | some (.val d) => some (d, false)
  | _ => none
noncomputable def tC : Option EV → Option (D × Bool)
  | some (.own ds) => some (.list ds, true)
  | some (.val d) => some (d, false)
  | none => none
noncomputable def bW (ρ : Rho) (whole : Option D) : IE → Option (D × Bool)
  | .v i => tB (ρ i)
  | .ent w k => tC (oI k (ρ w))
  | _ => whole.map (·, false)

noncomputable def dK : List Nat → List D → Rho → Option Rho
  | [], [], ρ => some ρ
  | i :: is, d :: ds, ρ => dK is ds (upd ρ i (.val d))
  | _, _, _ => none
noncomputable def br (ts : List Nat) (d : D) (ρ : Rho) : Bool → Option Rho
  | true => (match d with
    | .tuple ds => dK ts ds ρ
    | _ => none)
  | false => dK ts [d] ρ
noncomputable def o5 : D → Option (Option Int)
  | .none => some none
  | .int i => if -aj < i ∧ i < aj then some (some i) else none
  | _ => none
noncomputable def negD : D → Option D
  | .int i => some (.int (-i))
  | _ => none
noncomputable def mQ : D → Option D
  | .dict [(.none, .list ds)] => some (.list ds)
  | _ => none
noncomputable def w9 : D → Option (List D)
  | .list xs => some (iR 0 xs)
  | _ => none
noncomputable def revOf : D → Option (List D)
  | .tuple xs => some xs.reverse
  | _ => none
noncomputable def dP (b : Bool) (d : D) : Option D := bif b && !bf d then none else some d
noncomputable def ik : D → Bool
  | .dict [(.none, .list _)] => true
  | _ => false
noncomputable def iT (step : D → Option (Option D)) : List D → Option (List D)
  | [] => some []
  | d :: ds => (step d).bind fun o => (iT step ds).map fun r => (match o with
    | none => r
    | some x => x :: r)
theorem zS (step : D → Option (Option D)) (d ds) : iT step (d :: ds) = (step d).bind fun o => (iT step ds).map fun r => (match o, r with
    | none, r => r
    | some x, r => x :: r) := rfl

mutual
noncomputable def evI (g : G) (ρ : Rho) : IE → Option D
  | .k d => some d
  | .v i => yu (ρ i)
  | .bin op a b => (bW ρ (evI g ρ a) a).bind fun x => (evI g ρ b).bind fun y => ux op x.1 y
  | .rep x n => (evI g ρ x).bind fun a => (evI g ρ n).bind fun b => yN a b
  | .no x => ((evI g ρ x).bind c7).map fun b => .bool (!b)
  | .neg x => (evI g ρ x).bind negD
  | .and es => evAnd g ρ es
  | .or es => evOr g ρ es
  | .cmp op a b => ((bW ρ (evI g ρ a) a).bind fun x => (bW ρ (evI g ρ b) b).bind fun y => be op x.1 y.1).map .bool
  | .cmp2 op op' a b c => ((bW ρ (evI g ρ a) a).bind fun x => (bW ρ (evI g ρ b) b).bind fun y => (be op x.1 y.1).bind fun t =>
      bif t then (bW ρ (evI g ρ c) c).bind fun z => be op' y.1 z.1 else some false).map .bool
  | .ite t b o => (evT g ρ (evI g ρ t) t).bind fun c => bif c then evI g ρ b else evI g ρ o
  | .tup es => (evEs g ρ es).map .tuple
  | .lst es => (evEs g ρ es).map .list
  | .idx a i => (bW ρ (evI g ρ a) a).bind fun x => (evI g ρ i).bind fun k => gT x.1 k
  | .ent w k => wl (oI k (ρ w))
  | .cut a lo hi => (bW ρ (evI g ρ a) a).bind fun x => ((evI g ρ lo).bind o5).bind fun l => ((evI g ρ hi).bind o5).bind fun h => ul l h x.1
  | .rev a => (bW ρ (evI g ρ a) a).bind fun x => yM x.1
  | .attr o => (evI g ρ o).bind mQ
  | .call f as => (evArgs g ρ as).bind fun a => (g.call f a.1).bind (dP a.2)
  | .bi b as => (evArgs g ρ as).bind fun a => bif a.2 && !pT b then none else biD b a.1
  | .meth m o as => (evI g ρ o).bind fun s => bif ik s then (evArgs g ρ as).bind fun a => (g.meth m (s :: a.1)).bind (dP a.2) else none
  | .comp fs ts tt it c e => (evIter g ρ true (evI g ρ it) it).bind fun items =>
      (iT (fun d => (br ts d (cy fs ρ) tt).bind fun ρ₁ => (evT g ρ₁ (evI g ρ₁ c) c).bind fun b => bif b then (evI g ρ₁ e).bind fun r => bif bf r then some (some r) else none else some none) items).map .list
  | .range _ => none
  | .enum _ => none
  | .revd _ => none
noncomputable def evT (g : G) (ρ : Rho) (whole : Option D) : IE → Option Bool
  | .no x => (evT g ρ (evI g ρ x) x).map (!·)
  | .and es => allT g ρ es
  | .or es => anyT g ρ es
  | .ite _ _ _ => none
  | .cmp op a b => (bW ρ (evI g ρ a) a).bind fun x => (bW ρ (evI g ρ b) b).bind fun y => be op x.1 y.1
  | .cmp2 op op' a b c => (bW ρ (evI g ρ a) a).bind fun x => (bW ρ (evI g ρ b) b).bind fun y => (be op x.1 y.1).bind fun t =>
      bif t then (bW ρ (evI g ρ c) c).bind fun z => be op' y.1 z.1 else some false
  | e => (bW ρ whole e).bind fun x => c7 x.1
noncomputable def allT (g : G) (ρ : Rho) : List IE → Option Bool
  | [] => some true
  | x :: r => (evT g ρ (evI g ρ x) x).bind fun b => bif b then allT g ρ r else some false
noncomputable def anyT (g : G) (ρ : Rho) : List IE → Option Bool
  | [] => some false
  | x :: r => (evT g ρ (evI g ρ x) x).bind fun b => bif b then some true else anyT g ρ r
noncomputable def evAnd (g : G) (ρ : Rho) : List IE → Option D
  | [] => none
  | x :: r => (match r with
    | [] => evI g ρ x
    | _ :: _ => (evI g ρ x).bind fun v => (c7 v).bind fun b => bif b then evAnd g ρ r else some v)
noncomputable def evOr (g : G) (ρ : Rho) : List IE → Option D
  | [] => none
  | x :: r => (match r with
    | [] => evI g ρ x
    | _ :: _ => (evI g ρ x).bind fun v => (c7 v).bind fun b => bif b then some v else evOr g ρ r)
noncomputable def evEs (g : G) (ρ : Rho) : List IE → Option (List D)
  | [] => some []
  | e :: es => (evI g ρ e).bind fun d => (evEs g ρ es).map (d :: ·)
noncomputable def evArgs (g : G) (ρ : Rho) : List IE → Option (List D × Bool)
  | [] => some ([], false)
  | e :: es => (bW ρ (evI g ρ e) e).bind fun a => (evArgs g ρ es).map fun r => (a.1 :: r.1, a.2 || r.2)
noncomputable def evIter (g : G) (ρ : Rho) (own : Bool) (whole : Option D) : IE → Option (List D)
  | .range as => (evEs g ρ as).bind dD
  | .enum a => (evI g ρ a).bind w9
  | .revd a => (evI g ρ a).bind revOf
  | e => (bW ρ whole e).bind fun a => bif a.2 && !own then none else ba a.1
end

inductive IX where
  | e (e : IE)
  | io (f x : Nat) (as : List IE)
  | bin (op : Operator) (a b : IX)
  | call (f : Nat) (as : List IX)
inductive IV where
  | nil
  | nm (i : Nat)
  | e (e : IE)
inductive IS where
  | set (i : Nat) (r : IX)
  | nil (i : Nat)
  | lst (i : Nat) (a : IE)
  | dct (i : Nat) (es : List (Nat × IV))
  | mov (i w k : Nat)
  | unp (is : List Nat) (r : IX)
  | put (x : Nat) (i e : IE)
  | putK (x k : Nat) (e : IE)
  | catK (x k : Nat) (e : IE)
  | aug (x : Nat) (i e : IE)
  | augK (x : Nat) (op : Operator) (k : Nat) (e : IE)
  | app (x : Nat) (e : IE)
  | appPop (x y : Nat) (i : IE)
  | appK (w k : Nat) (e : IE)
  | io (r : IX)
  | ite (t : IE) (a b : List IS)
  | loop (ts : List Nat) (tt : Bool) (it : IE) (b : List IS)
  | whil (t : IE) (b : List IS)
  | ret (e : IE)
  | retX (r : IX)
  | cont

noncomputable def nK (op : Operator) : D → D → Option D
  | .int i, .int j => (xf op i j).map .int
  | _, _ => none
noncomputable def kQ : Option LV → Option LV
  | some (.val _) => none
  | o => o
mutual
noncomputable def evX (g : G) (ρ : Rho) : IX → Option (D × Rho)
  | .e e => (evI g ρ e).map (·, ρ)
  | .io f x as => (kQ (ρ x)).bind fun lv => (evEs g ρ as).bind fun ds => (g.io f lv ds).bind fun r => bif bf r.1 then some (r.1, upd ρ x r.2) else none
  | .bin op a b => (evX g ρ a).bind fun x => (evX g x.2 b).bind fun y => (nK op x.1 y.1).map (·, y.2)
  | .call f as => (evXs g ρ as).bind fun r => (g.call f r.1).map (·, r.2)
noncomputable def evXs (g : G) (ρ : Rho) : List IX → Option (List D × Rho)
  | [] => some ([], ρ)
  | e :: es => (evX g ρ e).bind fun a => (evXs g a.2 es).map fun r => (a.1 :: r.1, r.2)
end
set_option genCtorIdx true in
inductive Fl where
  | next
  | cont
  | ret (d : D)
noncomputable def yU (ds : List D) : D → Option (D × List D)
  | .int i => if 0 ≤ i ∧ i < ds.length then (ds[i.toNat]?).map (·, ds.eraseIdx i.toNat) else none
  | _ => none
noncomputable def ot (ds : List D) : D → D → Option (List D)
  | .int i, d => if 0 ≤ i ∧ i < ds.length then some (ds.set i.toNat d) else none
  | _, _ => none
noncomputable def ownOf : Option LV → Option (List D)
  | some (.own ds) => some ds
  | _ => none
noncomputable def eA : Option LV → Option (List (Nat × EV))
  | some (.dct es) => some es
  | _ => none
noncomputable def yW : Option EV → Option (List D)
  | some (.own ds) => some ds
  | _ => none
noncomputable def evV (g : G) (ρ : Rho) : IV → Option EV
  | .nil => some (.own [])
  | .nm i => (yu (ρ i)).map .val
  | .e e => (evI g ρ e).bind fun d => bif bf d then some (.val d) else none
noncomputable def jU (g : G) (ρ : Rho) : List (Nat × IV) → Option (List (Nat × EV))
  | [] => some []
  | (k, v) :: r => (evV g ρ v).bind fun x => (jU g ρ r).map ((k, x) :: ·)
noncomputable def mJ (step : D → Rho → Option (Fl × Rho)) : List D → Rho → Option (Fl × Rho)
  | [], ρ => some (.next, ρ)
  | d :: ds, ρ => (step d ρ).bind fun x => (match x.1 with
    | .ret r => some (.ret r, x.2)
    | _ => mJ step ds x.2)
noncomputable def ia (test : Rho → Option Bool) (body : Rho → Option (Fl × Rho)) : Nat → Rho → Option (Fl × Rho)
  | 0, _ => none
  | n + 1, ρ => (test ρ).bind fun b => bif b then (body ρ).bind fun x => (match x.1 with
    | .ret r => some (.ret r, x.2)
    | _ => ia test body n x.2) else some (.next, ρ)
theorem pb (test body n) (ρ : Rho) : ia test body (n + 1) ρ = (test ρ).bind fun b => bif b then (body ρ).bind fun x => (match x.1 with
    | .ret r => some (.ret r, x.2)
    | _ => ia test body n x.2) else some (.next, ρ) := rfl
noncomputable def moved (ρ : Rho) (i w : Nat) (es : List (Nat × EV)) (k : Nat) : EV → Rho
  | .own ds => upd (upd ρ w (.dct (st k (.val (.list ds)) es))) i (.val (.list ds))
  | .val d => upd ρ i (.val d)
noncomputable def room (ds : List D) (x : α) : Option α := if ds.length < aF then some x else none
noncomputable def cu (d : D) : Option D := bif bf d then some d else none
noncomputable def sD : D → Option (List D)
  | .list xs => bif flatAll xs then some xs else none
  | _ => none
noncomputable def ret1 (x : D × Rho) : Fl × Rho := (.ret x.1, x.2)
noncomputable def bn (ρ : Rho) : Fl × Rho := (.next, ρ)

mutual
noncomputable def exI (g : G) (ρ : Rho) : IS → Option (Fl × Rho)
  | .set i r => (evX g ρ r).map fun x => bn (upd x.2 i (.val x.1))
  | .nil i => some (bn (upd ρ i (.own [])))
  | .lst i a => (bW ρ (evI g ρ a) a).bind fun d => ((ba d.1).bind fun xs => bif flatAll xs then some xs else none).map fun xs => bn (upd ρ i (.own xs))
  | .dct i es => (jU g ρ es).map fun r => bn (upd ρ i (.dct r))
  | .mov i w k => (eA (ρ w)).bind fun es => (lk k es).map fun x => bn (moved ρ i w es k x)
  | .unp is r => (evX g ρ r).bind fun x => (br is x.1 x.2 true).map bn
  | .put x i e => (ownOf (ρ x)).bind fun ds => ((evI g ρ e).bind cu).bind fun d => (evI g ρ i).bind fun k => (ot ds k d).map fun r => bn (upd ρ x (.own r))
  | .putK x k e => (eA (ρ x)).bind fun es => ((evI g ρ e).bind cu).bind fun d => (lk k es).map fun Z => bn (upd ρ x (.dct (st k (.val d) es)))
  | .catK x k e => (eA (ρ x)).bind fun es => ((evI g ρ e).bind sD).bind fun xs => (lk k es).map fun Z => bn (upd ρ x (.dct (st k (.own xs) es)))
  | .aug x i e => (ownOf (ρ x)).bind fun ds => (evI g ρ i).bind fun k => (gT (.list ds) k).bind fun a => (evI g ρ e).bind fun b => (nK .Add a b).bind fun c => (ot ds k c).map fun r => bn (upd ρ x (.own r))
  | .augK x op k e => (eA (ρ x)).bind fun es => (wl (lk k es)).bind fun a => (evI g ρ e).bind fun b => (nK op a b).map fun c => bn (upd ρ x (.dct (st k (.val c) es)))
  | .app x e => ((evI g ρ e).bind cu).bind fun d => (ownOf (ρ x)).bind fun ds => room ds (bn (upd ρ x (.own (ds ++ [d]))))
  | .appPop x y i => (ownOf (ρ x)).bind fun ds => (ownOf (ρ y)).bind fun us => (evI g ρ i).bind fun k => (yU us k).bind fun r => (cu r.1).bind fun d => room ds (bn (upd (upd ρ y (.own r.2)) x (.own (ds ++ [d]))))
  | .appK w k e => ((evI g ρ e).bind cu).bind fun d => (eA (ρ w)).bind fun es => (yW (lk k es)).bind fun ds => room ds (bn (upd ρ w (.dct (st k (.own (ds ++ [d])) es))))
  | .io r => (evX g ρ r).map fun x => bn x.2
  | .ite t a b => (evT g ρ (evI g ρ t) t).bind fun c => bif c then exIs g ρ a else exIs g ρ b
  | .loop ts tt it b => (evIter g ρ false (evI g ρ it) it).bind fun items => mJ (fun d ρ₁ => (br ts d ρ₁ tt).bind fun ρ₂ => exIs g ρ₂ b) items ρ
  | .whil t b => ia (fun ρ₁ => evT g ρ₁ (evI g ρ₁ t) t) (fun ρ₁ => exIs g ρ₁ b) 1000 ρ
  | .ret e => (evI g (frz ρ) e).map fun d => (.ret d, ρ)
  | .retX r => (evX g ρ r).map ret1
  | .cont => some (.cont, ρ)
noncomputable def exIs (g : G) (ρ : Rho) : List IS → Option (Fl × Rho)
  | [] => some (.next, ρ)
  | s :: r => (exI g ρ s).bind fun x => match x.1 with
    | .next => exIs g x.2 r
    | _ => some x
end
theorem exIs_n (g : G) (ρ) : exIs g ρ [] = some (.next, ρ) := rfl
theorem exIs_c (g : G) (ρ s r) : exIs g ρ (s :: r) = (exI g ρ s).bind fun x => match x.1 with
    | .next => exIs g x.2 r
    | _ => some x := rfl

structure IFn where
  ps : Nat
  body : List IS
noncomputable def iW (k : Nat) : List LV → Rho → Rho
  | [], ρ => ρ
  | v :: vs, ρ => iW (k + 1) vs (upd ρ k v)
noncomputable def endOf (x : Fl × Rho) : Option (D × Rho) := match x.1 with
  | .ret d => some (d, x.2)
  | .next => some (.none, x.2)
  | .cont => none
noncomputable def gC (g : G) (f : IFn) (lvs : List LV) : Option (D × Rho) :=
  bif lvs.length == f.ps then (exIs g (iW 0 lvs fun Z => none) f.body).bind endOf else none

structure ITab where
  fns : List IFn
  meths : List IFn
  ios : List Nat
noncomputable def gOf (T : ITab) (run : IFn → List LV → Option (D × Rho)) : G where
  call := fun f ds => bif T.ios.contains f then none else (nth T.fns f).bind fun fn => (run fn (ds.map .val)).map (·.1)
  io := fun f lv ds => bif T.ios.contains f then (nth T.fns f).bind fun fn => (run fn (lv :: ds.map .val)).bind fun r => (r.2 0).map (r.1, ·) else none
  meth := fun m ds => (nth T.meths m).bind fun fn => (run fn (ds.map .val)).map (·.1)
noncomputable def runN (T : ITab) : Nat → IFn → List LV → Option (D × Rho)
  | 0, _, _ => none
  | n + 1, f, lvs => gC (gOf T (runN T n)) f lvs
noncomputable def gN (T : ITab) (n : Nat) : G := gOf T (runN T n)

noncomputable def Ok {α : Type} (X : Option α) (Q : α → Prop) : Prop := match X with
  | some a => Q a
  | none => False
@[simp] theorem aC {α β : Type} {X : Option α} {k : α → Option β} {Q : β → Prop} : Ok (X.bind k) Q ↔ Ok X fun a => Ok (k a) Q := by cases X <;> exact Iff.rfl
@[simp] theorem aq {α β : Type} {X : Option α} {f : α → β} {Q : β → Prop} : Ok (X.map f) Q ↔ Ok X fun a => Q (f a) := by cases X <;> exact Iff.rfl
theorem Ok.mono {α : Type} {X : Option α} {Q Q' : α → Prop} (h : Ok X Q) (k : ∀ a, Q a → Q' a) : Ok X Q' := by
  cases X with
  | none => exact h
  | some a => exact k a h
theorem Ok.out {α : Type} {X : Option α} {Q : α → Prop} {P : Prop} (h : Ok X Q) (k : ∀ a, X = some a → Q a → P) : P := by
  cases X with
  | none => exact False.elim h
  | some a => exact k a rfl h
end Mine
namespace Mine
open PySem

noncomputable def bZ : List Str := ["t", "at", "ops", "clauses", "left"]
noncomputable def pos (l : List Str) (x : Str) (i : Nat) : Option Nat := match l with
  | [] => none
  | y :: r => bif x == y then some i else pos r x (i + 1)
theorem zo (y r x i) : pos (y :: r) x i = bif x == y then some i else pos r x (i + 1) := rfl
noncomputable def ak (b : Bool) (x : Option α) : Option α := bif b then x else none
noncomputable def gu : Expr → Bool
  | .Call (.Name _ _) [] [] _ => false
  | _ => true
noncomputable def eH (x : Str) : Bool := x == ("__debug__" : Str)
noncomputable def e7 : Expr → Bool
  | .Set _ _ _ => false
  | _ => true
noncomputable def cA (sc : cL) (x : Str) : Bool :=
  (match sc.lookup x with
  | some .local => true
  | some .cell => true
  | _ => false) && !(sc.any fun y => y.1 == x && y.2 == .globalImplicit)
noncomputable def wW (sc : cL) (x : Str) : Bool :=
  match sc.lookup x with
  | some .globalImplicit => true
  | _ => false
noncomputable def lw : List Str → Bool
  | [] => true
  | x :: r => !r.contains x && lw r
theorem wG (x r) : lw (x :: r) = (!r.contains x && lw r) := rfl
noncomputable def gk (sc : cL) (scope : Scope) : Bool :=
  (match scope.kind with | .function => true | _ => false) && lw (scope.names.map (·.1)) &&
  scope.names.all fun x => match x.2 with
    | .free => (match sc.lookup x.1 with | some .cell => true | some .free => true | _ => false)
    | .local => true
    | .cell => true
    | .globalImplicit => true
    | _ => false

structure TX where
  consts : List (Str × D)
  fns : List Str
  meths : List Str
  ios : List Str
structure FX where
  sc : cL
  ns : List Str
noncomputable def FX.at (f : FX) (x : Str) : Option Nat := ak (!eH x) (pos f.ns x 0)
noncomputable def FX.glob (f : FX) (x : Str) : Bool := wW f.sc x && !eH x && (pos f.ns x 0).isNone
noncomputable def FX.sto (f : FX) (x : Str) : Option Nat := ak (cA f.sc x) (pos f.ns x 0)
noncomputable def bL (scope : Scope) : List Str := (scope.names.filter fun x => match x.2 with | .globalImplicit => false | _ => true).map (·.1)
noncomputable def cE (f : FX) (ns : List Str) : cL → List (Nat × Nat)
  | [] => []
  | (x, k) :: r => match k with
    | .free => (match pos ns x 0, pos f.ns x 0 with
      | some i, some j => (i, j) :: cE f ns r
      | _, _ => cE f ns r)
    | _ => cE f ns r
noncomputable def pF (f : FX) (l : cL) : Bool := l.all fun x => match x.2 with
  | .free => (pos f.ns x.1 0).isSome
  | _ => true
noncomputable def lI (f : FX) : List Expr → Option (List Nat)
  | [] => some []
  | .Name x _ :: r => (f.sto x).bind fun i => (lI f r).map (i :: ·)
  | _ => none
noncomputable def lR (f : FX) : Expr → Option (List Nat × Bool)
  | .Name x _ => (f.sto x).map fun i => ([i], false)
  | .Tuple es _ _ => (lI f es).map (·, true)
  | _ => none
noncomputable def isInt (e : Expr) : Bool := match e with
  | .Constant (.int i) _ _ => i == 1
  | _ => false

noncomputable def lB : IE → Bool → Bool
  | .enum _, b => b
  | _, _ => true
mutual
noncomputable def trE (X : TX) (f : FX) : Expr → Option IE
  | .Constant (.int i) _ _ => some (.k (.int i))
  | .Constant (.bool b) _ _ => some (.k (.bool b))
  | .Name x _ => match f.at x with
    | some i => some (.v i)
    | none => ak (f.glob x) ((X.consts.lookup x).map .k)
  | .BinOp l op r _ =>
    let usual := (trE X f l).bind fun a => (trE X f r).map fun b => IE.bin op a b
    (match op with
    | .Mult => (match l with
      | .List [.Starred _ _] _ => none
      | .List [x] _ => (trE X f x).bind fun a => (trE X f r).map fun b => .rep a b
      | _ => usual)
    | _ => usual)
  | .UnaryOp .Not x _ => (trE X f x).map .no
  | .UnaryOp .USub x _ => (trE X f x).map .neg
  | .BoolOp .And es _ => (trEs X f es).map .and
  | .BoolOp .Or es _ => (trEs X f es).map .or
  | .Compare l [op] [r] _ => ak (e7 r) ((trE X f l).bind fun a => (trE X f r).map fun b => .cmp op a b)
  | .Compare l [op, op'] [m, r] _ => ak (e7 m && e7 r) ((trE X f l).bind fun a => (trE X f m).bind fun b => (trE X f r).map fun c => .cmp2 op op' a b c)
  | .IfExp t b o _ => (trE X f t).bind fun t => (trE X f b).bind fun b => (trE X f o).map fun o => .ite t b o
  | .Tuple es _ _ => ak (Nat.ble es.length 100) ((trEs X f es).map .tup)
  | .List es _ => ak (Nat.ble es.length 100) ((trEs X f es).map .lst)
  | .Subscript b sl _ =>
    let tb := trE X f b
    let ts := trE X f sl
    (match sl with
    | .Constant (.str k) _ _ => (match b with
      | .Name x _ => (f.at x).bind fun w => (pos bZ k 0).map fun j => .ent w j
      | _ => none)
    | .Slice lo hi st _ => (match st with
      | none => tb.bind fun a => (trO X f lo).bind fun l => (trO X f hi).map fun h => .cut a l h
      | some (.UnaryOp .USub e _) => (match lo, hi with
        | none, none => ak (isInt e) (tb.map .rev)
        | _, _ => none)
      | _ => none)
    | _ => tb.bind fun a => ts.map fun i => .idx a i)
  | .Attribute o a _ => ak (gu o && a == ("clauses" : Str)) ((trE X f o).map .attr)
  | .Call g as [] pos => (match g with
    | .Name x _ => ak (f.glob x) (match mW.lookup x with
      | some b => (trEs X f as).map (.bi b)
      | none => (Mine.pos X.fns x 0).bind fun j => (trEs X f as).map (.call j))
    | .Attribute o m apos => ak (gu o && apos.endLine == pos.line && Nat.blt as.length 20) ((Mine.pos X.meths m 0).bind fun j => (trE X f o).bind fun s => (trEs X f as).map (.meth j s))
    | _ => none)
  | .ListComp elt [⟨t, iter, ifs, 0⟩] scope _ => ak (gk f.sc scope && pF f scope.names) ((trI X f (trE X f iter) iter).bind fun it =>
      let f' : FX := ⟨scope.names, bL scope⟩
      (lR f' t).bind fun ts => ak (lB it ts.2) ((trC X f' ifs).bind fun c => (trE X f' elt).map fun e => .comp (cE f f'.ns scope.names) ts.1 ts.2 it c e))
  | _ => none
noncomputable def trI (X : TX) (f : FX) (whole : Option IE) : Expr → Option IE
  | .Call (.Name x _) as [] _ => ak (f.glob x) (
      bif x == ("range" : Str) then (trEs X f as).map .range
      else bif x == ("enumerate" : Str) then (match as with
        | [a] => (trE X f a).map .enum
        | _ => none)
      else bif x == ("reversed" : Str) then (match as with
        | [a] => (trE X f a).map .revd
        | _ => none)
      else whole)
  | e => ak (e7 e) whole
noncomputable def trC (X : TX) (f : FX) : List Expr → Option IE
  | [] => some (.k (.bool true))
  | [c] => trE X f c
  | _ => none
noncomputable def trO (X : TX) (f : FX) : Option Expr → Option IE
  | none => some (.k .none)
  | some e => trE X f e
noncomputable def trEs (X : TX) (f : FX) : List Expr → Option (List IE)
  | [] => some []
  | .Starred _ _ :: _ => none
  | e :: es => (trE X f e).bind fun a => (trEs X f es).map (a :: ·)
end

mutual
noncomputable def hasIO (ios : List Str) : Expr → Bool
  | .Call (.Name f _) args _ _ => ios.contains f || anyIO ios args
  | .BinOp l _ r _ => hasIO ios l || hasIO ios r
  | _ => false
noncomputable def anyIO (ios : List Str) : List Expr → Bool
  | [] => false
  | e :: es => hasIO ios e || anyIO ios es
end
mutual
noncomputable def trX (X : TX) (f : FX) : Expr → Option IX
  | .Call g as kw p => bif !hasIO X.ios (.Call g as kw p) then (trE X f (.Call g as kw p)).map .e else (match g with
    | .Name x _ => (match kw with
      | [] => ak (f.glob x) ((pos X.fns x 0).bind fun j => bif X.ios.contains x then (match as with
          | .Name y _ :: r => (f.at y).bind fun i => ak (!anyIO X.ios r) ((trEs X f r).map (.io j i))
          | _ => none)
        else ak (mW.lookup x).isNone ((trXs X f as).map (.call j)))
      | _ => none)
    | _ => none)
  | .BinOp l op r p => bif !hasIO X.ios (.BinOp l op r p) then (trE X f (.BinOp l op r p)).map .e else (trX X f l).bind fun a => (trX X f r).map fun b => .bin op a b
  | e => (trE X f e).map .e
noncomputable def trXs (X : TX) (f : FX) : List Expr → Option (List IX)
  | [] => some []
  | .Starred _ _ :: _ => none
  | e :: es => (trX X f e).bind fun a => (trXs X f es).map (a :: ·)
end
noncomputable def n6 : Expr → Option Nat
  | .Constant (.str k) _ _ => pos bZ k 0
  | _ => none
noncomputable def tT : Expr → Bool
  | .Constant (.str _) _ _ => true
  | _ => false
noncomputable def trV (X : TX) (f : FX) : Expr → Option IV
  | .List [] _ => some .nil
  | .Name y p => match f.at y with
    | some i => some (.nm i)
    | none => (trE X f (.Name y p)).map .e
  | e => (trE X f e).map .e
noncomputable def trD (X : TX) (f : FX) : List (Option Expr) → List Expr → Option (List (Nat × IV))
  | [], [] => some []
  | some k :: ks, v :: vs => (n6 k).bind fun j => (trV X f v).bind fun a => (trD X f ks vs).bind fun r => ak (lk j r).isNone (some ((j, a) :: r))
  | _, _ => none
noncomputable def j4 : Expr → Bool
  | .BinOp _ .Add _ _ => true
  | _ => false
noncomputable def tupT : Expr → Bool
  | .Tuple _ _ _ => true
  | _ => false
noncomputable def trA (X : TX) (f : FX) (i : Nat) : Expr → Option IS
  | .List [] _ => some (.nil i)
  | .Call g as kw p => (match g, as, kw with
    | .Name x _, [a], [] => bif f.glob x && x == ("list" : Str) then (trE X f a).map (.lst i) else (trX X f (.Call g as kw p)).map (.set i)
    | _, _, _ => (trX X f (.Call g as kw p)).map (.set i))
  | .Dict ks vs _ => ak (Nat.blt 0 ks.length && Nat.ble ks.length 10) ((trD X f ks vs).map (.dct i))
  | .Subscript b sl p => (match b, sl with
    | .Name w _, .Constant (.str k) _ _ => (f.at w).bind fun j => (pos bZ k 0).map fun k => .mov i j k
    | _, _ => (trX X f (.Subscript b sl p)).map (.set i))
  | e => (trX X f e).map (.set i)
noncomputable def trP (X : TX) (f : FX) (o : Expr) (a : Expr) : Option IS := match a with
  | .Starred _ _ => none
  | a => (trE X f a).bind fun e => (match o with
    | .Name x _ => (f.at x).map (.app · e)
    | .Subscript (.Name w _) k _ => (f.at w).bind fun i => (n6 k).map (.appK i · e)
    | _ => none)
noncomputable def vO (X : TX) (f : FX) : Expr → Option IS
  | .Call (.Attribute o m apos) [a] [] p => ak (m == ("append" : Str) && apos.endLine == p.line) (match a with
    | .Call (.Attribute (.Name y _) m₂ apos2) [i] [] p2 => ak (m₂ == ("pop" : Str) && apos2.endLine == p2.line) (match o with
      | .Name x _ => ak (!(x == y)) ((f.at x).bind fun a => (f.at y).bind fun b => (trE X f i).map (.appPop a b ·))
      | _ => none)
    | a => trP X f o a)
  | .Call (.Name g q) as [] p => ak (X.ios.contains g) ((trX X f (.Call (.Name g q) as [] p)).map .io)
  | _ => none
noncomputable def trT (X : TX) (f : FX) (t e : Expr) : Option IS := match t with
  | .Name x _ => (f.sto x).bind fun i => trA X f i e
  | .Tuple es _ _ => ak (!tupT e) ((lI f es).bind fun is => (trX X f e).map (.unp is))
  | .Subscript (.Name x _) i _ => (f.at x).bind fun a => bif tT i then (n6 i).bind fun k => (trE X f e).map fun b => bif j4 e then .catK a k b else .putK a k b
    else (trE X f i).bind fun j => (trE X f e).map fun b => .put a j b
  | _ => none
noncomputable def addSub : Operator → Bool
  | .Add => true
  | .Sub => true
  | _ => false
noncomputable def vQ (X : TX) (f : FX) (op : Operator) (e : Expr) : Expr → Option IS
  | .Subscript (.Name x _) i _ => (f.at x).bind fun a => bif tT i then ak (addSub op) ((n6 i).bind fun k => (trE X f e).map fun b => .augK a op k b)
    else (match op with
      | .Add => (trE X f i).bind fun j => (trE X f e).map fun b => .aug a j b
      | _ => none)
  | _ => none
mutual
noncomputable def trS (X : TX) (f : FX) : Stmt → Option IS
  | .Expr e _ => vO X f e
  | .Assign [t] e _ => trT X f t e
  | .AugAssign t op e _ => vQ X f op e t
  | .If t b o _ => (trE X f t).bind fun c => (trSs X f b).bind fun a => (trSs X f o).map fun b => .ite c a b
  | .For t it b [] _ => (lR f t).bind fun ts => (trI X f (trE X f it) it).bind fun i => ak (lB i ts.2) ((trSs X f b).map fun b => .loop ts.1 ts.2 i b)
  | .While t b [] _ => (trE X f t).bind fun c => (trSs X f b).map fun b => .whil c b
  | .Return (some e) _ => bif !hasIO X.ios e then (trE X f e).map .ret else (trX X f e).map .retX
  | .Continue _ => some .cont
  | _ => none
noncomputable def trSs (X : TX) (f : FX) : List Stmt → Option (List IS)
  | [] => some []
  | s :: r => (trS X f s).bind fun a => (trSs X f r).map (a :: ·)
end
structure Fn where
  ps : List Str
  body : List Stmt
  sc : cL
noncomputable def pI (d : DefRec) : Fn := ⟨d.params.args.map (·.arg), d.body, d.scope.names⟩
noncomputable def Fn.pin (fn : Fn) : Fn := { fn with sc := fn.sc ++ (fn.ps.take 1).map (·, .globalImplicit) }
noncomputable def iosL : List Str := ["note_fault", "_law_next", "_law_block", "_law_try"]
noncomputable def cD (p : Program) (c : Str) : List (Str × Fn) :=
  p.main.body.flatMap fun st => match st with
    | .ClassDef n _ _ b _ _ _ _ _ _ _ => if n == c then b.filterMap fun s => match s with
      | .FunctionDef m a b _ _ _ sc _ _ _ => some (m, ⟨a.args.map (·.arg), b, sc.names⟩)
      | _ => none
      else []
    | _ => []
noncomputable def fc (d : DefRec) : Fn := if iosL.contains d.name then (pI d).pin else pI d
noncomputable def wE (fn : Fn) : List Str := fn.ps ++ ((fn.sc.filter fun x => (match x.2 with | .globalImplicit => false | _ => true) && !fn.ps.contains x.1).map (·.1))
noncomputable def trF (X : TX) (fn : Fn) : Option IFn := (trSs X ⟨fn.sc, wE fn⟩ fn.body).map (⟨fn.ps.length, ·⟩)
noncomputable def txOf (p : Program) : TX := ⟨litsOf p, (recsOf p).map (·.name), (cD p "RegionTable").map (·.1), iosL⟩
end Mine
namespace Mine

open PySem
noncomputable def b0_1 : List IS := (.ite (.cmp .Eq (.v 1) (.k (.int 1))) [.ret (.lst [(.tup [(.v 2), (.v 3)]), (.tup [(.v 6), (.v 4)]), (.tup [(.v 4), (.v 5)])])] []) :: [.ret (.lst [(.tup [(.v 2), (.v 3)]), (.tup [(.v 4), (.v 5)])])]
noncomputable def b0_0 : List IS := (.unp [1, 2, 3, 4, 5, 6] (.e (.v 0))) :: b0_1
noncomputable def f0 : IFn := ⟨1, b0_0⟩
noncomputable def f1 : IFn := ⟨2, [.ret (.or [(.cmp .LtE (.idx (.v 0) (.k (.int 1))) (.idx (.v 1) (.k (.int 0)))), (.cmp .LtE (.idx (.v 1) (.k (.int 1))) (.idx (.v 0) (.k (.int 0))))])]⟩
noncomputable def f2 : IFn := ⟨2, [.ret (.and [(.cmp .LtE (.idx (.v 1) (.k (.int 0))) (.idx (.v 0) (.k (.int 0)))), (.cmp .LtE (.idx (.v 0) (.k (.int 1))) (.idx (.v 1) (.k (.int 1))))])]⟩
noncomputable def b3_2 : List IS := (.ite (.no (.call 1 [(.v 2), (.v 3)])) [.ret (.k (.bool false))] []) :: []
noncomputable def b3_1 : List IS := (.loop [3] false (.v 1) b3_2) :: []
noncomputable def b3_0 : List IS := (.loop [2] false (.v 0) b3_1) :: [.ret (.k (.bool true))]
noncomputable def f3 : IFn := ⟨2, b3_0⟩
noncomputable def b4_4 : List IS := (.set 3 (.e (.k (.bool false)))) :: []
noncomputable def b4_3 : List IS := (.ite (.no (.call 2 [(.v 4), (.v 2)])) b4_4 []) :: []
noncomputable def b4_5 : List IS := (.ite (.v 3) [.ret (.k (.bool true))] []) :: []
noncomputable def b4_2 : List IS := (.loop [4] false (.v 0) b4_3) :: b4_5
noncomputable def b4_1 : List IS := (.set 3 (.e (.k (.bool true)))) :: b4_2
noncomputable def b4_0 : List IS := (.loop [2] false (.v 1) b4_1) :: [.ret (.k (.bool false))]
noncomputable def f4 : IFn := ⟨2, b4_0⟩
noncomputable def b5_5 : List IS := (.set 8 (.e (.call 0 [(.v 1)]))) :: [.ret (.call 3 [(.cut (.v 8) (.k .none) (.k (.int 1))), (.cut (.v 8) (.k (.int 1)) (.k .none))])]
noncomputable def b5_4 : List IS := (.ite (.and [(.cmp .Eq (.v 2) (.k (.int 1))), (.no (.call 6 [(.v 0), (.v 7), (.v 5)]))]) [.ret (.k (.bool false))] []) :: b5_5
noncomputable def b5_3 : List IS := (.ite (.or [(.cmp .Lt (.v 5) (.k (.int 0))), (.cmp .LtE (.v 6) (.v 5)), (.cmp .Gt (.v 6) (.bi .len [(.v 0)]))]) [.ret (.k (.bool false))] []) :: b5_4
noncomputable def b5_2 : List IS := (.ite (.or [(.cmp .Lt (.v 3) (.k (.int 0))), (.cmp .LtE (.v 4) (.v 3)), (.cmp .Gt (.v 4) (.bi .len [(.v 0)]))]) [.ret (.k (.bool false))] []) :: b5_3
noncomputable def b5_1 : List IS := (.ite (.and [(.cmp .NotEq (.v 2) (.k (.int 0))), (.cmp .NotEq (.v 2) (.k (.int 1))), (.cmp .NotEq (.v 2) (.k (.int 2))), (.cmp .NotEq (.v 2) (.k (.int 4)))]) [.ret (.k (.bool false))] []) :: b5_2
noncomputable def b5_0 : List IS := (.unp [2, 3, 4, 5, 6, 7] (.e (.v 1))) :: b5_1
noncomputable def f5 : IFn := ⟨2, b5_0⟩
noncomputable def b6_3 : List IS := (.ite (.cmp .NotEq (.v 4) (.cmp .Eq (.v 3) (.bin .Sub (.v 2) (.k (.int 1))))) [.ret (.k (.bool false))] []) :: []
noncomputable def b6_2 : List IS := (.set 4 (.e (.cmp .Eq (.idx (.idx (.v 0) (.v 3)) (.k (.int 0))) (.k (.int 65041))))) :: b6_3
noncomputable def b6_1 : List IS := (.loop [3] false (.range [(.v 1), (.v 2)]) b6_2) :: [.ret (.k (.bool true))]
noncomputable def b6_0 : List IS := (.ite (.or [(.cmp .Lt (.v 1) (.k (.int 0))), (.cmp .GtE (.v 1) (.v 2))]) [.ret (.k (.bool false))] []) :: b6_1
noncomputable def f6 : IFn := ⟨3, b6_0⟩
noncomputable def f7 : IFn := ⟨1, [.ret (.or [(.cmp .Eq (.idx (.v 0) (.k (.int 0))) (.k (.int 2))), (.cmp .Eq (.idx (.v 0) (.k (.int 0))) (.k (.int 4)))])]⟩
noncomputable def b8_3 : List IS := (.ite (.call 3 [(.v 2), (.v 3)]) [.ret (.k (.bool true))] []) :: [.ret (.call 4 [(.v 2), (.lst [(.idx (.v 3) (.k (.int 0))), (.idx (.v 3) (.bin .Sub (.bi .len [(.v 3)]) (.k (.int 1))))])])]
noncomputable def b8_2 : List IS := (.ite (.cmp .Eq (.idx (.v 2) (.k (.int 0))) (.idx (.v 3) (.k (.int 0)))) [.ret (.and [(.no (.call 7 [(.v 0)])), (.no (.call 7 [(.v 1)])), (.call 3 [(.cut (.v 2) (.k (.int 1)) (.k .none)), (.cut (.v 3) (.k (.int 1)) (.k .none))])])] []) :: b8_3
noncomputable def b8_1 : List IS := (.set 3 (.e (.call 0 [(.v 1)]))) :: b8_2
noncomputable def b8_0 : List IS := (.set 2 (.e (.call 0 [(.v 0)]))) :: b8_1
noncomputable def f8 : IFn := ⟨2, b8_0⟩
noncomputable def b9_3 : List IS := (.io (.io 10 2 [(.v 3)])) :: []
noncomputable def b9_2 : List IS := (.ite (.no (.call 5 [(.v 0), (.v 3)])) b9_3 []) :: []
noncomputable def b9_8 : List IS := (.io (.io 10 2 [(.v 5)])) :: []
noncomputable def b9_7 : List IS := (.ite (.no (.call 8 [(.v 5), (.idx (.v 1) (.v 6))])) b9_8 []) :: []
noncomputable def b9_6 : List IS := (.loop [6] false (.range [(.bin .Add (.v 4) (.k (.int 1))), (.bi .len [(.v 1)])]) b9_7) :: []
noncomputable def b9_5 : List IS := (.loop [4, 5] true (.enum (.v 1)) b9_6) :: [.ret (.v 2)]
noncomputable def b9_4 : List IS := (.ite (.cmp .Gt (.bi .len [(.v 2)]) (.k (.int 0))) [.ret (.v 2)] []) :: b9_5
noncomputable def b9_1 : List IS := (.loop [3] false (.v 1) b9_2) :: b9_4
noncomputable def b9_0 : List IS := (.nil 2) :: b9_1
noncomputable def f9 : IFn := ⟨2, b9_0⟩
noncomputable def b10_2 : List IS := (.app 0 (.v 2)) :: []
noncomputable def b10_1 : List IS := (.ite (.cmp .NotIn (.v 2) (.v 0)) b10_2 []) :: []
noncomputable def b10_0 : List IS := (.set 2 (.e (.tup [(.k (.int 8)), (.idx (.v 1) (.k (.int 1)))]))) :: b10_1
noncomputable def f10 : IFn := ⟨2, b10_0⟩
noncomputable def b11_3 : List IS := (.ite (.and [(.cmp .Eq (.v 2) (.k (.int 1))), (.cmp .LtE (.v 7) (.v 1)), (.cmp .Lt (.v 1) (.v 5))]) [.ret (.k (.int 1))] []) :: [.ret (.neg (.k (.int 1)))]
noncomputable def b11_2 : List IS := (.ite (.and [(.cmp .LtE (.v 5) (.v 1)), (.cmp .Lt (.v 1) (.v 6))]) [.ret (.k (.int 2))] []) :: b11_3
noncomputable def b11_1 : List IS := (.ite (.and [(.cmp .LtE (.v 3) (.v 1)), (.cmp .Lt (.v 1) (.v 4))]) [.ret (.k (.int 0))] []) :: b11_2
noncomputable def b11_0 : List IS := (.unp [2, 3, 4, 5, 6, 7] (.e (.v 0))) :: b11_1
noncomputable def f11 : IFn := ⟨2, b11_0⟩
noncomputable def b12_4 : List IS := (.app 2 (.tup [(.v 3), (.v 4)])) :: []
noncomputable def b12_3 : List IS := (.ite (.cmp .GtE (.v 4) (.k (.int 0))) b12_4 []) :: []
noncomputable def b12_2 : List IS := (.set 4 (.e (.call 11 [(.idx (.v 0) (.v 3)), (.v 1)]))) :: b12_3
noncomputable def b12_1 : List IS := (.loop [3] false (.range [(.bin .Sub (.bi .len [(.v 0)]) (.k (.int 1))), (.neg (.k (.int 1))), (.neg (.k (.int 1)))]) b12_2) :: [.ret (.bi .tuple [(.v 2)])]
noncomputable def b12_0 : List IS := (.nil 2) :: b12_1
noncomputable def f12 : IFn := ⟨2, b12_0⟩
noncomputable def b13_1 : List IS := (.ite (.cmp .Eq (.idx (.v 2) (.k (.int 1))) (.v 1)) [.ret (.k (.bool true))] []) :: []
noncomputable def b13_0 : List IS := (.loop [2] false (.v 0) b13_1) :: [.ret (.k (.bool false))]
noncomputable def f13 : IFn := ⟨2, b13_0⟩
noncomputable def f14 : IFn := ⟨2, [.ret (.and [(.cmp .Eq (.v 1) (.k (.int 2))), (.or [(.cmp .Eq (.idx (.v 0) (.k (.int 0))) (.k (.int 0))), (.cmp .Eq (.idx (.v 0) (.k (.int 0))) (.k (.int 1)))])])]⟩
noncomputable def f15 : IFn := ⟨2, [.ret (.and [(.cmp .Eq (.v 1) (.k (.int 2))), (.call 7 [(.v 0)])])]⟩
noncomputable def b16_2 : List IS := (.ite (.or [(.cmp .NotEq (.v 5) (.k (.int 0))), (.cmp .NotEq (.idx (.idx (.v 0) (.v 4)) (.k (.int 1))) (.v 3))]) [.ret (.k (.bool false))] []) :: []
noncomputable def b16_1 : List IS := (.ite (.cmp .In (.tup [(.v 4), (.v 5)]) (.v 1)) [.cont] []) :: b16_2
noncomputable def b16_0 : List IS := (.loop [4, 5] true (.v 2) b16_1) :: [.ret (.k (.bool true))]
noncomputable def f16 : IFn := ⟨4, b16_0⟩
noncomputable def b17_3 : List IS := (.ite (.and [(.cmp .NotEq (.v 5) (.k (.int 0))), (.no (.call 14 [(.idx (.v 0) (.v 4)), (.v 5)]))]) [.ret (.k (.bool false))] []) :: []
noncomputable def b17_2 : List IS := (.ite (.no (.v 3)) [.ret (.k (.bool false))] []) :: b17_3
noncomputable def b17_1 : List IS := (.ite (.cmp .In (.tup [(.v 4), (.v 5)]) (.v 2)) [.cont] []) :: b17_2
noncomputable def b17_0 : List IS := (.loop [4, 5] true (.v 1) b17_1) :: [.ret (.k (.bool true))]
noncomputable def f17 : IFn := ⟨4, b17_0⟩
noncomputable def b18_4 : List IS := (.ite (.v 4) [.ret (.k (.int 6))] []) :: [.ret (.k (.int 5))]
noncomputable def b18_3 : List IS := (.ite (.and [(.call 17 [(.v 1), (.v 5), (.v 6), (.v 4)]), (.call 16 [(.v 1), (.v 5), (.v 6), (.v 3)])]) [.ret (.k (.int 0))] []) :: b18_4
noncomputable def b18_2 : List IS := (.set 6 (.e (.call 12 [(.v 1), (.v 3)]))) :: b18_3
noncomputable def b18_1 : List IS := (.set 5 (.e (.call 12 [(.v 1), (.v 2)]))) :: b18_2
noncomputable def b18_0 : List IS := (.ite (.or [(.cmp .Lt (.v 3) (.k (.int 0))), (.cmp .GtE (.v 3) (.bi .len [(.v 0)]))]) [.ret (.k (.int 5))] []) :: b18_1
noncomputable def f18 : IFn := ⟨5, b18_0⟩
noncomputable def b19_2 : List IS := (.ite (.cmp .Gt (.bi .len [(.call 12 [(.v 1), (.v 2)])]) (.k (.int 0))) [.ret (.k (.int 9))] []) :: [.ret (.k (.int 0))]
noncomputable def b19_4 : List IS := (.ite (.or [(.cmp .Eq (.v 3) (.k (.int 220))), (.cmp .Eq (.v 3) (.k (.int 65041)))]) [.ret (.call 21 [(.v 1), (.call 12 [(.v 1), (.v 2)]), (.v 3)])] []) :: [.ret (.k (.int 0))]
noncomputable def b19_3 : List IS := (.ite (.cmp .Eq (.v 3) (.k (.int 65050))) [.ret (.call 20 [(.v 1), (.call 12 [(.v 1), (.v 2)])])] []) :: b19_4
noncomputable def b19_1 : List IS := (.ite (.cmp .Eq (.v 3) (.k (.int 42))) b19_2 []) :: b19_3
noncomputable def b19_0 : List IS := (.set 3 (.e (.idx (.idx (.v 0) (.v 2)) (.k (.int 0))))) :: b19_1
noncomputable def f19 : IFn := ⟨3, b19_0⟩
noncomputable def b20_2 : List IS := (.ite (.call 14 [(.idx (.v 0) (.v 2)), (.v 3)]) [.ret (.k (.int 0))] []) :: [.ret (.k (.int 5))]
noncomputable def b20_1 : List IS := (.ite (.cmp .Eq (.v 3) (.k (.int 0))) [.cont] []) :: b20_2
noncomputable def b20_0 : List IS := (.loop [2, 3] true (.revd (.v 1)) b20_1) :: [.ret (.k (.int 5))]
noncomputable def f20 : IFn := ⟨2, b20_0⟩
noncomputable def b21_3 : List IS := (.ite (.and [(.cmp .Eq (.v 2) (.k (.int 65041))), (.cmp .Eq (.v 4) (.k (.int 1)))]) [.ret (.k (.int 0))] []) :: [.ret (.k (.int 5))]
noncomputable def b21_2 : List IS := (.ite (.and [(.cmp .Eq (.v 2) (.k (.int 220))), (.call 15 [(.idx (.v 0) (.v 3)), (.v 4)])]) [.ret (.k (.int 0))] []) :: b21_3
noncomputable def b21_1 : List IS := (.unp [3, 4] (.e (.idx (.v 1) (.bin .Sub (.bi .len [(.v 1)]) (.k (.int 1)))))) :: b21_2
noncomputable def b21_0 : List IS := (.ite (.cmp .Eq (.bi .len [(.v 1)]) (.k (.int 0))) [.ret (.k (.int 5))] []) :: b21_1
noncomputable def f21 : IFn := ⟨3, b21_0⟩
noncomputable def b22_1 : List IS := (.ite (.cmp .LtE (.ent 0 1) (.bi .len [(.ent 0 0)])) [.ret (.idx (.ent 0 0) (.bin .Sub (.ent 0 1) (.k (.int 1))))] []) :: [.ret (.ent 0 1)]
noncomputable def b22_0 : List IS := (.augK 0 .Add 1 (.k (.int 1))) :: b22_1
noncomputable def f22 : IFn := ⟨1, b22_0⟩
noncomputable def b23_4 : List IS := (.io (.io 24 0 [(.v 1)])) :: []
noncomputable def b23_6 : List IS := (.appK 0 2 (.k (.int 0))) :: []
noncomputable def b23_8 : List IS := (.io (.io 24 0 [(.v 1)])) :: []
noncomputable def b23_10 : List IS := (.catK 0 2 (.bin .Add (.ent 0 2) (.rep (.k (.int 0)) (.bin .Add (.k (.int 1)) (.bin .Mod (.bin .FloorDiv (.v 2) (.k (.int 8))) (.k (.int 2))))))) :: []
noncomputable def b23_9 : List IS := (.ite (.cmp .Eq (.bi .len [(.ent 0 2)]) (.v 3)) b23_10 []) :: []
noncomputable def b23_7 : List IS := (.ite (.and [(.cmp .Eq (.bin .Mod (.bin .FloorDiv (.v 2) (.k (.int 8))) (.k (.int 3))) (.k (.int 2))), (.cmp .Lt (.v 1) (.k (.int 2))), (.cmp .Gt (.ent 0 4) (.k (.int 0)))]) b23_8 []) :: b23_9
noncomputable def b23_5 : List IS := (.ite (.bin .Mod (.bin .FloorDiv (.v 2) (.k (.int 4))) (.k (.int 2))) b23_6 []) :: b23_7
noncomputable def b23_3 : List IS := (.ite (.and [(.bin .Mod (.bin .FloorDiv (.v 2) (.k (.int 2))) (.k (.int 2))), (.cmp .Lt (.v 1) (.k (.int 3))), (.cmp .Gt (.ent 0 4) (.k (.int 0)))]) b23_4 []) :: b23_5
noncomputable def b23_2 : List IS := (.catK 0 2 (.bin .Add (.ent 0 2) (.rep (.k (.int 0)) (.bin .Mod (.v 2) (.k (.int 2)))))) :: b23_3
noncomputable def b23_1 : List IS := (.set 3 (.e (.bi .len [(.ent 0 2)]))) :: b23_2
noncomputable def b23_0 : List IS := (.set 2 (.io 22 0 [])) :: b23_1
noncomputable def f23 : IFn := ⟨2, b23_0⟩
noncomputable def b24_12 : List IS := (.catK 0 2 (.bin .Add (.bin .Add (.ent 0 2) (.rep (.k (.int 0)) (.bin .Mod (.bin .FloorDiv (.v 4) (.k (.int 14))) (.k (.int 2))))) (.lst [(.k (.int 65041))]))) :: []
noncomputable def b24_11 : List IS := (.set 7 (.e (.bi .len [(.ent 0 2)]))) :: b24_12
noncomputable def b24_15 : List IS := (.appK 0 3 (.tup [(.v 6), (.v 2), (.v 3), (.v 8), (.bi .len [(.ent 0 2)]), (.v 7)])) :: []
noncomputable def b24_14 : List IS := (.io (.io 23 0 [(.bin .Add (.v 1) (.k (.int 1)))])) :: b24_15
noncomputable def xc : List IS := (.set 8 (.e (.bi .len [(.ent 0 2)]))) :: b24_14
noncomputable def b24_10 : List IS := (.ite (.cmp .Eq (.v 6) (.k (.int 1))) b24_11 []) :: xc
noncomputable def b24_9 : List IS := (.set 7 (.e (.k (.int 0)))) :: b24_10
noncomputable def b24_8 : List IS := (.catK 0 2 (.bin .Add (.ent 0 2) (.rep (.k (.int 0)) (.bin .Mod (.bin .FloorDiv (.v 4) (.k (.int 7))) (.k (.int 2)))))) :: b24_9
noncomputable def b24_7 : List IS := (.loop [6] false (.v 5) b24_8) :: []
noncomputable def b24_6 : List IS := (.augK 0 .Sub 4 (.bin .Sub (.bi .len [(.v 5)]) (.k (.int 1)))) :: b24_7
noncomputable def b24_5 : List IS := (.set 5 (.e (.idx (.tup [(.tup [(.k (.int 2))]), (.tup [(.k (.int 4))]), (.tup [(.k (.int 0))]), (.tup [(.k (.int 1))]), (.tup [(.k (.int 0)), (.k (.int 1))]), (.tup [(.k (.int 1)), (.k (.int 0))]), (.tup [(.k (.int 0)), (.k (.int 0))])]) (.bin .Mod (.v 4) (.ite (.cmp .Gt (.ent 0 4) (.k (.int 0))) (.k (.int 7)) (.k (.int 4))))))) :: b24_6
noncomputable def b24_4 : List IS := (.set 4 (.io 22 0 [])) :: b24_5
noncomputable def b24_3 : List IS := (.set 3 (.e (.bi .len [(.ent 0 2)]))) :: b24_4
noncomputable def b24_2 : List IS := (.io (.io 23 0 [(.bin .Add (.v 1) (.k (.int 1)))])) :: b24_3
noncomputable def b24_1 : List IS := (.set 2 (.e (.bi .len [(.ent 0 2)]))) :: b24_2
noncomputable def b24_0 : List IS := (.augK 0 .Sub 4 (.k (.int 1))) :: b24_1
noncomputable def f24 : IFn := ⟨2, b24_0⟩
noncomputable def b25_1 : List IS := (.ite (.cmp .Eq (.v 1) (.k (.int 1))) [.ret (.lst [(.tup [(.v 2), (.v 3), (.k (.int 0))]), (.tup [(.v 6), (.v 4), (.k (.int 1))]), (.tup [(.v 4), (.v 5), (.k (.int 2))])])] []) :: [.ret (.lst [(.tup [(.v 2), (.v 3), (.k (.int 0))]), (.tup [(.v 4), (.v 5), (.k (.int 2))])])]
noncomputable def b25_0 : List IS := (.unp [1, 2, 3, 4, 5, 6] (.e (.v 0))) :: b25_1
noncomputable def f25 : IFn := ⟨1, b25_0⟩
noncomputable def b26_0 : List IS := (.set 1 (.e (.call 25 [(.v 0)]))) :: [.ret (.tup [(.bi .min [(.comp [] [1] false (.v 1) (.k (.bool true)) (.idx (.v 1) (.k (.int 0))))]), (.bi .max [(.comp [] [1] false (.v 1) (.k (.bool true)) (.idx (.v 1) (.k (.int 1))))])])]
noncomputable def f26 : IFn := ⟨1, b26_0⟩
noncomputable def b27_0 : List IS := (.unp [2, 3] (.e (.call 26 [(.v 0)]))) :: [.ret (.or [(.and [(.cmp .LtE (.idx (.v 1) (.k (.int 1))) (.v 2)), (.cmp .LtE (.v 3) (.idx (.v 1) (.k (.int 2))))]), (.and [(.cmp .LtE (.idx (.v 1) (.k (.int 3))) (.v 2)), (.cmp .LtE (.v 3) (.idx (.v 1) (.k (.int 4))))])])]
noncomputable def f27 : IFn := ⟨2, b27_0⟩
noncomputable def b28_3 : List IS := (.ite (.cmp .Lt (.bi .max [(.v 2), (.v 5)]) (.bi .min [(.v 3), (.v 6)])) [.ret (.k (.bool false))] []) :: []
noncomputable def b28_2 : List IS := (.loop [5, 6, 7] true (.call 25 [(.v 1)]) b28_3) :: []
noncomputable def b28_1 : List IS := (.loop [2, 3, 4] true (.call 25 [(.v 0)]) b28_2) :: [.ret (.k (.bool true))]
noncomputable def b28_0 : List IS := (.ite (.cmp .Eq (.cut (.v 0) (.k (.int 1)) (.k (.int 3))) (.cut (.v 1) (.k (.int 1)) (.k (.int 3)))) [.ret (.k (.bool true))] []) :: b28_1
noncomputable def f28 : IFn := ⟨2, b28_0⟩
noncomputable def b29_4 : List IS := (.app 1 (.tup [(.k (.int 8)), (.idx (.v 3) (.k (.int 1)))])) :: []
noncomputable def b29_3 : List IS := (.ite (.and [(.cmp .NotEq (.v 4) (.lst [])), (.cmp .NotIn (.tup [(.k (.int 8)), (.idx (.v 3) (.k (.int 1)))]) (.v 1))]) b29_4 []) :: []
noncomputable def b29_2 : List IS := (.set 4 (.e (.comp [(2, 3)] [1] false (.cut (.v 0) (.bin .Add (.v 2) (.k (.int 1))) (.k .none)) (.call 27 [(.v 1), (.v 2)]) (.v 1)))) :: b29_3
noncomputable def b29_1 : List IS := (.loop [2, 3] true (.enum (.v 0)) b29_2) :: [.ret (.v 1)]
noncomputable def b29_0 : List IS := (.nil 1) :: b29_1
noncomputable def f29 : IFn := ⟨1, b29_0⟩
noncomputable def b30_4 : List IS := (.app 2 (.v 4)) :: []
noncomputable def b30_3 : List IS := (.ite (.cmp .NotIn (.v 4) (.v 2)) b30_4 []) :: []
noncomputable def b30_2 : List IS := (.loop [4] false (.call 9 [(.v 0), (.lst [(.v 3)])]) b30_3) :: []
noncomputable def b30_10 : List IS := (.app 2 (.v 4)) :: []
noncomputable def b30_9 : List IS := (.ite (.cmp .NotIn (.v 4) (.v 2)) b30_10 []) :: []
noncomputable def b30_8 : List IS := (.loop [4] false (.call 9 [(.v 0), (.lst [(.idx (.v 1) (.v 5)), (.idx (.v 1) (.v 6))])]) b30_9) :: []
noncomputable def b30_7 : List IS := (.loop [6] false (.range [(.bin .Add (.v 5) (.k (.int 1))), (.bi .len [(.v 1)])]) b30_8) :: []
noncomputable def b30_6 : List IS := (.loop [5] false (.range [(.bi .len [(.v 1)])]) b30_7) :: [.ret (.v 2)]
noncomputable def b30_5 : List IS := (.ite (.cmp .NotEq (.v 2) (.lst [])) [.ret (.v 2)] []) :: b30_6
noncomputable def b30_1 : List IS := (.loop [3] false (.v 1) b30_2) :: b30_5
noncomputable def b30_0 : List IS := (.nil 2) :: b30_1
noncomputable def f30 : IFn := ⟨2, b30_0⟩
noncomputable def b31_1 : List IS := (.ite (.cmp2 .LtE .Lt (.v 2) (.v 1) (.v 3)) [.ret (.v 4)] []) :: []
noncomputable def b31_0 : List IS := (.loop [2, 3, 4] true (.call 25 [(.v 0)]) b31_1) :: [.ret (.neg (.k (.int 1)))]
noncomputable def f31 : IFn := ⟨2, b31_0⟩
noncomputable def b32_3 : List IS := (.ite (.and [(.cmp .GtE (.v 4) (.k (.int 0))), (.or [(.no (.v 3)), (.cmp .Eq (.v 4) (.k (.int 1))), (.and [(.cmp .Eq (.v 4) (.k (.int 2))), (.cmp .Gt (.idx (.v 0) (.k (.int 0))) (.k (.int 1)))])])]) [.ret (.k (.bool false))] []) :: [.ret (.or [(.cmp .Eq (.v 5) (.neg (.k (.int 1)))), (.and [(.cmp .Eq (.v 5) (.k (.int 0))), (.cmp .Eq (.v 2) (.idx (.v 0) (.k (.int 1))))])])]
noncomputable def b32_2 : List IS := (.ite (.cmp .Eq (.v 4) (.v 5)) [.ret (.k (.bool true))] []) :: b32_3
noncomputable def b32_1 : List IS := (.set 5 (.e (.call 31 [(.v 0), (.v 2)]))) :: b32_2
noncomputable def b32_0 : List IS := (.set 4 (.e (.call 31 [(.v 0), (.v 1)]))) :: b32_1
noncomputable def f32 : IFn := ⟨4, b32_0⟩
noncomputable def b33_2 : List IS := (.ite (.no (.call 32 [(.v 5), (.v 2), (.v 3), (.v 4)])) [.ret (.ite (.v 4) (.k (.int 6)) (.k (.int 5)))] []) :: []
noncomputable def b33_1 : List IS := (.loop [5] false (.v 1) b33_2) :: [.ret (.k (.int 0))]
noncomputable def b33_0 : List IS := (.ite (.or [(.cmp .Lt (.v 3) (.k (.int 0))), (.cmp .GtE (.v 3) (.v 0))]) [.ret (.k (.int 5))] []) :: b33_1
noncomputable def f33 : IFn := ⟨5, b33_0⟩
noncomputable def b34_4 : List IS := (.app 3 (.tup [(.bin .Sub (.v 6) (.v 5)), (.v 7), (.idx (.v 4) (.k (.int 0)))])) :: []
noncomputable def b34_3 : List IS := (.ite (.cmp2 .LtE .Lt (.v 5) (.v 1) (.v 6)) b34_4 []) :: []
noncomputable def b34_2 : List IS := (.loop [5, 6, 7] true (.call 25 [(.v 4)]) b34_3) :: []
noncomputable def b34_8 : List IS := (.set 3 (.e (.comp [] [1] false (.v 3) (.cmp .Gt (.idx (.v 1) (.k (.int 1))) (.k (.int 0))) (.v 1)))) :: []
noncomputable def b34_11 : List IS := (.ite (.cmp .Eq (.v 2) (.k (.int 65041))) [.ret (.ite (.cmp .Eq (.v 7) (.k (.int 1))) (.k (.int 0)) (.k (.int 5)))] []) :: [.ret (.ite (.and [(.cmp .Eq (.v 7) (.k (.int 2))), (.cmp .Eq (.cmp .Lt (.v 8) (.k (.int 2))) (.cmp .Eq (.v 2) (.k (.int 65050))))]) (.k (.int 0)) (.k (.int 5)))]
noncomputable def b34_10 : List IS := (.unp [7, 8] (.e (.cut (.idx (.v 3) (.k (.int 0))) (.k (.int 1)) (.k .none)))) :: b34_11
noncomputable def b34_9 : List IS := (.ite (.cmp .Eq (.v 3) (.lst [])) [.ret (.k (.int 5))] []) :: b34_10
noncomputable def b34_7 : List IS := (.ite (.cmp .Eq (.v 2) (.k (.int 65050))) b34_8 []) :: b34_9
noncomputable def b34_6 : List IS := (.ite (.cmp .Eq (.v 2) (.k (.int 42))) [.ret (.ite (.v 3) (.k (.int 9)) (.k (.int 0)))] []) :: b34_7
noncomputable def b34_5 : List IS := (.set 3 (.e (.bi .sorted [(.v 3)]))) :: b34_6
noncomputable def b34_1 : List IS := (.loop [4] false (.v 0) b34_2) :: b34_5
noncomputable def b34_0 : List IS := (.nil 3) :: b34_1
noncomputable def f34 : IFn := ⟨3, b34_0⟩
noncomputable def b35_8 : List IS := (.set 7 (.e (.bin .Add (.v 7) (.comp [(4, 9)] [1, 2, 3] true (.call 25 [(.idx (.v 1) (.v 8))]) (.cmp .Eq (.v 3) (.v 4)) (.bin .Sub (.v 2) (.v 1)))))) :: []
noncomputable def b35_9 : List IS := (.set 10 (.e (.comp [(2, 1), (3, 2)] [1] false (.range [(.bi .len [(.v 1)])]) (.cmp .GtE (.call 31 [(.idx (.v 2) (.v 1)), (.v 3)]) (.k (.int 0))) (.tup [(.v 1), (.call 31 [(.idx (.v 2) (.v 1)), (.v 3)])])))) :: [.ret (.and [(.cmp .Eq (.bi .sorted [(.v 6)]) (.v 10)), (.cmp .Eq (.v 7) (.rev (.bi .sorted [(.v 7)])))])]
noncomputable def b35_7 : List IS := (.loop [8, 9] true (.v 6) b35_8) :: b35_9
noncomputable def b35_6 : List IS := (.nil 7) :: b35_7
noncomputable def b35_5 : List IS := (.set 6 (.e (.meth 1 (.v 4) [(.v 2)]))) :: b35_6
noncomputable def b35_4 : List IS := (.ite (.cmp .NotEq (.meth 4 (.v 4) [(.v 2)]) (.cmp .In (.v 2) (.comp [] [1] false (.v 1) (.k (.bool true)) (.idx (.v 1) (.k (.int 1)))))) [.ret (.k (.bool false))] []) :: b35_5
noncomputable def b35_3 : List IS := (.ite (.cmp .NotEq (.meth 3 (.v 4) [(.v 5), (.v 2)]) (.call 34 [(.v 1), (.v 2), (.v 3)])) [.ret (.k (.bool false))] []) :: b35_4
noncomputable def b35_2 : List IS := (.put 5 (.v 2) (.tup [(.v 3), (.k (.int 0))])) :: b35_3
noncomputable def b35_1 : List IS := (.lst 5 (.v 0)) :: b35_2
noncomputable def b35_0 : List IS := (.set 4 (.e (.bi .region [(.v 1)]))) :: b35_1
noncomputable def f35 : IFn := ⟨4, b35_0⟩
noncomputable def b36_4 : List IS := (.set 1 (.e (.bin .FloorDiv (.v 1) (.bin .Add (.bi .len [(.v 2)]) (.k (.int 1)))))) :: []
noncomputable def b36_3 : List IS := (.appPop 3 2 (.bin .Mod (.v 1) (.bi .len [(.v 2)]))) :: b36_4
noncomputable def b36_2 : List IS := (.whil (.cmp .NotEq (.v 2) (.lst [])) b36_3) :: [.ret (.v 3)]
noncomputable def b36_1 : List IS := (.nil 3) :: b36_2
noncomputable def b36_0 : List IS := (.lst 2 (.v 0)) :: b36_1
noncomputable def f36 : IFn := ⟨2, b36_0⟩
noncomputable def b37_5 : List IS := (.put 2 (.bin .Add (.v 3) (.k (.int 1))) (.idx (.v 0) (.v 3))) :: []
noncomputable def b37_4 : List IS := (.put 2 (.v 3) (.idx (.v 0) (.bin .Add (.v 3) (.k (.int 1))))) :: b37_5
noncomputable def b37_3 : List IS := (.set 3 (.e (.idx (.v 4) (.bin .Mod (.v 1) (.bi .len [(.v 4)]))))) :: b37_4
noncomputable def b37_2 : List IS := (.ite (.cmp .NotEq (.v 4) (.lst [])) b37_3 []) :: [.ret (.v 2)]
noncomputable def b37_1 : List IS := (.set 4 (.e (.comp [(2, 2)] [1] false (.range [(.bin .Sub (.bi .len [(.v 2)]) (.k (.int 1)))]) (.call 28 [(.idx (.v 2) (.v 1)), (.idx (.v 2) (.bin .Add (.v 1) (.k (.int 1))))]) (.v 1)))) :: b37_2
noncomputable def b37_0 : List IS := (.lst 2 (.v 0)) :: b37_1
noncomputable def f37 : IFn := ⟨2, b37_0⟩
noncomputable def f38 : IFn := ⟨3, [.ret (.ite (.cmp .GtE (.v 0) (.v 1)) (.bin .Add (.v 0) (.v 2)) (.v 0))]⟩
noncomputable def b39_4 : List IS := (.set 9 (.e (.call 38 [(.v 9), (.v 1), (.v 2)]))) :: []
noncomputable def b39_5 : List IS := (.app 3 (.tup [(.v 4), (.idx (.v 10) (.k (.int 0))), (.idx (.v 10) (.k (.int 1))), (.idx (.v 10) (.k (.int 2))), (.idx (.v 10) (.k (.int 3))), (.v 9)])) :: []
noncomputable def b39_3 : List IS := (.ite (.cmp .Eq (.v 4) (.k (.int 1))) b39_4 []) :: b39_5
noncomputable def b39_2 : List IS := (.set 10 (.e (.comp [(2, 1), (3, 2)] [1] false (.tup [(.v 5), (.v 6), (.v 7), (.v 8)]) (.k (.bool true)) (.call 38 [(.v 1), (.v 2), (.v 3)])))) :: b39_3
noncomputable def b39_1 : List IS := (.loop [4, 5, 6, 7, 8, 9] true (.v 0) b39_2) :: [.ret (.v 3)]
noncomputable def b39_0 : List IS := (.nil 3) :: b39_1
noncomputable def f39 : IFn := ⟨3, b39_0⟩
noncomputable def b40_1 : List IS := (.ite (.cmp .In (.v 3) (.comp [] [1] false (.v 0) (.cmp .Eq (.idx (.v 1) (.k (.int 0))) (.k (.int 1))) (.idx (.v 1) (.k (.int 3))))) [.ret (.k (.int 0))] []) :: [.ret (.v 3)]
noncomputable def b40_0 : List IS := (.set 3 (.e (.bin .Mod (.v 1) (.bin .Add (.v 2) (.k (.int 1)))))) :: b40_1
noncomputable def f40 : IFn := ⟨3, b40_0⟩
noncomputable def b41_0 : List IS := (.set 4 (.e (.comp [(2, 1), (3, 0)] [1] false (.v 0) (.and [(.cmp .NotEq (.v 1) (.idx (.v 3) (.v 2))), (.call 27 [(.v 1), (.idx (.v 3) (.v 2))])]) (.call 26 [(.v 1)])))) :: [.ret (.comp [(2, 4)] [1] false (.range [(.bin .Add (.v 2) (.k (.int 1))), (.v 3)]) (.cmp .Eq (.comp [(2, 1)] [1] false (.v 2) (.cmp2 .Lt .Lt (.idx (.v 1) (.k (.int 0))) (.v 2) (.idx (.v 1) (.k (.int 1)))) (.v 1)) (.lst [])) (.v 1))]
noncomputable def f41 : IFn := ⟨4, b41_0⟩
noncomputable def b42_9 : List IS := (.set 14 (.e (.tup [(.ite (.cmp .Eq (.v 3) (.k (.int 1))) (.k (.int 0)) (.v 3)), (.v 11), (.v 5), (.v 12), (.v 7), (.k (.int 0))]))) :: [.ret (.bin .Add (.bin .Add (.cut (.v 0) (.k .none) (.v 2)) (.lst [(.v 13), (.v 14)])) (.cut (.v 0) (.bin .Add (.v 2) (.k (.int 1))) (.k .none)))]
noncomputable def b42_8 : List IS := (.set 13 (.e (.tup [(.v 3), (.v 4), (.v 11), (.v 6), (.v 12), (.v 8)]))) :: b42_9
noncomputable def b42_7 : List IS := (.set 12 (.e (.idx (.v 10) (.bin .Mod (.bin .FloorDiv (.v 1) (.k (.int 49))) (.bi .len [(.v 10)]))))) :: b42_8
noncomputable def b42_6 : List IS := (.set 11 (.e (.idx (.v 9) (.bin .Mod (.bin .FloorDiv (.v 1) (.k (.int 7))) (.bi .len [(.v 9)]))))) :: b42_7
noncomputable def b42_5 : List IS := (.ite (.or [(.cmp .Eq (.v 9) (.lst [])), (.cmp .Eq (.v 10) (.lst []))]) [.ret (.bi .list [(.v 0)])] []) :: b42_6
noncomputable def b42_4 : List IS := (.set 10 (.e (.call 41 [(.v 0), (.v 2), (.v 6), (.v 7)]))) :: b42_5
noncomputable def b42_3 : List IS := (.set 9 (.e (.call 41 [(.v 0), (.v 2), (.v 4), (.v 5)]))) :: b42_4
noncomputable def b42_2 : List IS := (.ite (.cmp .Gt (.bi .len [(.comp [(2, 4), (3, 5)] [1] false (.v 0) (.cmp .Eq (.cut (.v 1) (.k (.int 1)) (.k (.int 3))) (.tup [(.v 2), (.v 3)])) (.v 1))]) (.k (.int 1))) [.ret (.bi .list [(.v 0)])] []) :: b42_3
noncomputable def b42_1 : List IS := (.unp [3, 4, 5, 6, 7, 8] (.e (.idx (.v 0) (.v 2)))) :: b42_2
noncomputable def b42_0 : List IS := (.set 2 (.e (.bin .Mod (.v 1) (.bi .len [(.v 0)])))) :: b42_1
noncomputable def f42 : IFn := ⟨2, b42_0⟩
noncomputable def b43_4 : List IS := (.put 3 (.k (.int 0)) (.idx (.tup [(.k (.int 0)), (.k (.int 1)), (.k (.int 2)), (.k (.int 4)), (.k (.int 3)), (.k (.int 7))]) (.bin .Mod (.bin .FloorDiv (.v 4) (.k (.int 4))) (.k (.int 6))))) :: []
noncomputable def b43_5 : List IS := (.aug 3 (.bin .Add (.k (.int 1)) (.bin .Mod (.bin .FloorDiv (.v 4) (.k (.int 4))) (.k (.int 5)))) (.idx (.tup [(.neg (.k (.int 2))), (.neg (.k (.int 1))), (.k (.int 1)), (.k (.int 2))]) (.bin .Mod (.bin .FloorDiv (.v 4) (.k (.int 20))) (.k (.int 4))))) :: []
noncomputable def b43_3 : List IS := (.ite (.cmp .Eq (.bin .Mod (.v 4) (.k (.int 4))) (.k (.int 3))) b43_4 b43_5) :: [.ret (.bin .Add (.bin .Add (.cut (.v 0) (.k .none) (.v 2)) (.lst [(.bi .tuple [(.v 3)])])) (.cut (.v 0) (.bin .Add (.v 2) (.k (.int 1))) (.k .none)))]
noncomputable def b43_2 : List IS := (.set 4 (.e (.bin .FloorDiv (.v 1) (.bi .len [(.v 0)])))) :: b43_3
noncomputable def b43_1 : List IS := (.lst 3 (.idx (.v 0) (.v 2))) :: b43_2
noncomputable def b43_0 : List IS := (.set 2 (.e (.bin .Mod (.v 1) (.bi .len [(.v 0)])))) :: b43_1
noncomputable def f43 : IFn := ⟨2, b43_0⟩
noncomputable def b44_4 : List IS := (.set 6 (.e (.bin .Add (.bin .Add (.cut (.v 0) (.k .none) (.v 5)) (.rep (.tup [(.k (.int 0)), (.k (.int 0))]) (.k (.int 2)))) (.cut (.v 0) (.v 5) (.k .none))))) :: [.ret (.cmp .Eq (.call 9 [(.v 6), (.call 39 [(.v 1), (.v 5), (.k (.int 2))])]) (.comp [(2, 5)] [1] false (.v 4) (.k (.bool true)) (.tup [(.k (.int 8)), (.call 38 [(.idx (.v 1) (.k (.int 1))), (.v 2), (.k (.int 2))])])))]
noncomputable def b44_3 : List IS := (.set 5 (.e (.call 40 [(.v 1), (.v 3), (.bi .len [(.v 0)])]))) :: b44_4
noncomputable def b44_2 : List IS := (.ite (.cmp .NotEq (.bi .sorted [(.call 9 [(.v 0), (.call 37 [(.v 1), (.v 2)])])]) (.bi .sorted [(.v 4)])) [.ret (.k (.bool false))] []) :: b44_3
noncomputable def b44_1 : List IS := (.ite (.cmp .NotEq (.v 4) (.call 30 [(.v 0), (.v 1)])) [.ret (.k (.bool false))] []) :: b44_2
noncomputable def b44_0 : List IS := (.set 4 (.e (.call 9 [(.v 0), (.v 1)]))) :: b44_1
noncomputable def f44 : IFn := ⟨4, b44_0⟩
noncomputable def b45_2 : List IS := (.set 4 (.e (.bin .Add (.bin .Sub (.idx (.v 3) (.bin .Mod (.bin .FloorDiv (.v 0) (.k (.int 12))) (.k (.int 4)))) (.bin .Mod (.v 0) (.k (.int 3)))) (.k (.int 1))))) :: [.ret (.ite (.cmp2 .LtE .Lt (.k (.int 0)) (.v 4) (.v 2)) (.v 4) (.k (.int 0)))]
noncomputable def b45_1 : List IS := (.set 3 (.e (.cut (.idx (.v 1) (.bin .Mod (.bin .FloorDiv (.v 0) (.k (.int 3))) (.bi .len [(.v 1)]))) (.k (.int 1)) (.k (.int 5))))) :: b45_2
noncomputable def b45_0 : List IS := (.ite (.cmp .Eq (.bin .Mod (.v 0) (.k (.int 3))) (.k (.int 0))) [.ret (.bin .Mod (.bin .FloorDiv (.v 0) (.k (.int 3))) (.v 2))] []) :: b45_1
noncomputable def f45 : IFn := ⟨3, b45_0⟩
noncomputable def b46_5 : List IS := (.io (.io 24 1 [(.k (.int 0))])) :: []
noncomputable def b46_17 : List IS := (.ite (.cmp .NotEq (.call 9 [(.v 3), (.v 13)]) (.lst [])) [.ret (.k (.bool false))] []) :: []
noncomputable def b46_29 : List IS := (.ite (.cmp .NotEq (.call 18 [(.v 3), (.v 8), (.v 15), (.v 17), (.v 19)]) (.call 33 [(.v 5), (.v 8), (.v 15), (.v 17), (.v 19)])) [.ret (.k (.bool false))] []) :: []
noncomputable def b46_28 : List IS := (.ite (.cmp .NotEq (.call 18 [(.v 11), (.v 12), (.call 38 [(.v 15), (.v 9), (.v 10)]), (.v 18), (.v 19)]) (.v 20)) [.ret (.k (.bool false))] []) :: b46_29
noncomputable def b46_27 : List IS := (.ite (.cmp .NotEq (.meth 2 (.bi .region [(.v 6)]) [(.v 3), (.v 15), (.v 17), (.v 19)]) (.v 20)) [.ret (.k (.bool false))] []) :: b46_28
noncomputable def b46_26 : List IS := (.ite (.cmp .NotEq (.call 18 [(.v 3), (.v 4), (.v 15), (.v 17), (.v 19)]) (.v 20)) [.ret (.k (.bool false))] []) :: b46_27
noncomputable def b46_25 : List IS := (.set 20 (.e (.call 33 [(.v 5), (.v 4), (.v 15), (.v 17), (.v 19)]))) :: b46_26
noncomputable def b46_32 : List IS := (.ite (.or [(.no (.call 35 [(.v 3), (.v 13), (.v 15), (.v 2)])), (.no (.call 35 [(.v 11), (.v 12), (.call 38 [(.v 15), (.v 9), (.v 10)]), (.v 2)]))]) [.ret (.k (.bool false))] []) :: []
noncomputable def b46_31 : List IS := (.set 13 (.e (.idx (.tup [(.v 8), (.v 7), (.v 4)]) (.bin .Mod (.v 14) (.k (.int 3)))))) :: b46_32
noncomputable def b46_30 : List IS := (.set 2 (.e (.idx (.tup [(.k (.int 65050)), (.k (.int 220)), (.k (.int 65041)), (.k (.int 42))]) (.bin .Mod (.bin .FloorDiv (.v 16) (.k (.int 3))) (.k (.int 4)))))) :: b46_31
noncomputable def b46_24 : List IS := (.loop [19] false (.tup [(.k (.bool false)), (.k (.bool true))]) b46_25) :: b46_30
noncomputable def b46_23 : List IS := (.set 18 (.e (.call 38 [(.v 17), (.v 9), (.v 10)]))) :: b46_24
noncomputable def b46_22 : List IS := (.set 17 (.e (.ite (.bin .Mod (.v 16) (.k (.int 11))) (.call 45 [(.v 16), (.v 4), (.v 5)]) (.bin .Sub (.bin .Mult (.bin .Mod (.bin .FloorDiv (.v 16) (.k (.int 11))) (.k (.int 2))) (.bin .Add (.v 5) (.k (.int 1)))) (.k (.int 1)))))) :: b46_23
noncomputable def b46_21 : List IS := (.set 16 (.io 22 1 [])) :: b46_22
noncomputable def xa : List IS := (.set 15 (.call 45 [(.io 22 1 []), (.e (.v 4)), (.e (.v 5))])) :: b46_21
noncomputable def b46_19 : List IS := (.loop [14] false (.range [(.bin .Add (.k (.int 1)) (.bin .FloorDiv (.bi .len [(.v 0)]) (.k (.int 8))))]) xa) :: [.retX (.call 44 [(.e (.v 3)), (.call 43 [(.e (.v 4)), (.io 22 1 [])]), (.io 22 1 []), (.io 22 1 [])])]
noncomputable def b46_18 : List IS := (.ite (.or [(.cmp .NotEq (.meth 5 (.bi .region [(.v 12)]) [(.v 11)]) (.lst [])), (.cmp .NotEq (.meth 5 (.bi .region [(.v 6)]) [(.v 3)]) (.call 29 [(.v 6)]))]) [.ret (.k (.bool false))] []) :: b46_19
noncomputable def sf : List IS := (.loop [13] false (.tup [(.v 4), (.v 7), (.v 8)]) b46_17) :: b46_18
noncomputable def b46_15 : List IS := (.set 12 (.e (.call 39 [(.v 4), (.v 9), (.v 10)]))) :: sf
noncomputable def b46_14 : List IS := (.set 11 (.e (.bin .Add (.bin .Add (.cut (.v 3) (.k .none) (.v 9)) (.rep (.tup [(.k (.int 0)), (.k (.int 0))]) (.v 10))) (.cut (.v 3) (.v 9) (.k .none))))) :: b46_15
noncomputable def b46_13 : List IS := (.set 10 (.bin .Add (.e (.k (.int 1))) (.bin .Mod (.io 22 1 []) (.e (.k (.int 3)))))) :: b46_14
noncomputable def b46_12 : List IS := (.set 9 (.call 40 [(.e (.v 4)), (.io 22 1 []), (.e (.v 5))])) :: b46_13
noncomputable def b46_11 : List IS := (.set 8 (.call 42 [(.e (.v 4)), (.io 22 1 [])])) :: b46_12
noncomputable def b46_10 : List IS := (.set 7 (.call 37 [(.e (.v 4)), (.io 22 1 [])])) :: b46_11
noncomputable def b46_9 : List IS := (.set 6 (.call 36 [(.e (.v 4)), (.io 22 1 [])])) :: b46_10
noncomputable def b46_8 : List IS := (.set 5 (.e (.bi .len [(.v 3)]))) :: b46_9
noncomputable def b46_7 : List IS := (.mov 4 1 3) :: b46_8
noncomputable def xZ : List IS := (.set 3 (.e (.comp [] [1] false (.ent 1 2) (.k (.bool true)) (.tup [(.v 1), (.k (.int 0))])))) :: b46_7
noncomputable def b46_4 : List IS := (.ite (.cmp .Eq (.ent 1 3) (.lst [])) b46_5 []) :: xZ
noncomputable def b46_3 : List IS := (.io (.io 23 1 [(.k (.int 0))])) :: b46_4
noncomputable def b46_2 : List IS := (.io (.io 23 1 [(.k (.int 0))])) :: b46_3
noncomputable def b46_1 : List IS := (.dct 1 [(0, .nm 0), (1, .e (.k (.int 0))), (2, .nil), (3, .nil), (4, .e (.bi .min [(.k (.int 4)), (.bin .Add (.k (.int 3)) (.bin .FloorDiv (.bi .len [(.v 0)]) (.k (.int 8))))]))]) :: b46_2
noncomputable def b46_0 : List IS := (.set 0 (.e (.cut (.v 0) (.k .none) (.k (.int 40))))) :: b46_1
noncomputable def f46 : IFn := ⟨1, b46_0⟩
noncomputable def dU : List IFn := [f0, f1, f2, f3, f4, f5, f6, f7, f8, f9, f10, f11, f12, f13, f14, f15, f16, f17, f18, f19, f20, f21, f22, f23, f24, f25, f26, f27, f28, f29, f30, f31, f32, f33, f34, f35, f36, f37, f38, f39, f40, f41, f42, f43, f44, f45, f46]
noncomputable def fm1 : IFn := ⟨2, [.ret (.call 12 [(.attr (.v 0)), (.v 1)])]⟩
noncomputable def fm2 : IFn := ⟨5, [.ret (.call 18 [(.v 1), (.attr (.v 0)), (.v 2), (.v 3), (.v 4)])]⟩
noncomputable def fm3 : IFn := ⟨3, [.ret (.call 19 [(.v 1), (.attr (.v 0)), (.v 2)])]⟩
noncomputable def fm4 : IFn := ⟨2, [.ret (.call 13 [(.attr (.v 0)), (.v 1)])]⟩
noncomputable def fm5 : IFn := ⟨2, [.ret (.call 9 [(.v 1), (.attr (.v 0))])]⟩
noncomputable def da : List IFn := [⟨0, [.ret (.range [])]⟩, fm1, fm2, fm3, fm4, fm5]
noncomputable abbrev TT : ITab := ⟨dU, da, [10, 22, 23, 24]⟩

end Mine
namespace Mine
open PySem PySem.Calls PyProof.Rows

noncomputable abbrev aR := Addr → Prop
noncomputable def aU (F : aR) (h h' : Heap) : Prop := ∀ b o, ¬ F b → h.get? b = some o → h'.get? b = some o
noncomputable abbrev bD (h h' : Heap) : Prop := ∀ b o, h.get? b = some o → h'.get? b = some o
noncomputable def bu (F : aR) (h : Heap) (F' : aR) : Prop := ∀ a, F' a → F a ∨ h.get? a = none
noncomputable def gR : aR := fun Z => False

theorem bD.agree {h h' : Heap} (k : bD h h') (F : aR) : aU F h h' := fun b o Z e => k b o e
theorem bD.refl (h : Heap) : bD h h := fun Z Z e => e
theorem bD.trans {h h' h'' : Heap} (a : bD h h') (b : bD h' h'') : bD h h'' := fun x o e => b x o (a x o e)
theorem bD.push {h : Heap} (o : Obj) : bD h (h.push o) := fun Z Z e => Heap.get?_push_of_some _ e
theorem aU.refl (F : aR) (h : Heap) : aU F h h := fun Z Z Z e => e
theorem bu.refl (F : aR) (h : Heap) : bu F h F := fun Z e => .inl e
theorem bu.sub {F F' : aR} {h : Heap} (k : ∀ a, F' a → F a) : bu F h F' := fun a q => .inl (k a q)
theorem aU.more {F F' : aR} {h h' : Heap} (a : aU F h h') (k : ∀ b, F b → F' b) : aU F' h h' := fun b o n e => a b o (fun q => n (k b q)) e
theorem aU.trans {F F' : aR} {h h' h'' : Heap} (a : aU F h h') (t : bu F h F') (b : aU F' h' h'') : aU F h h'' := fun x o hx e =>
  b x o (fun q => (t x q).elim hx fun n => by rw [n] at e; exact nS e) (a x o hx e)
theorem bu.trans' {F F' F'' : aR} {h h' : Heap} (t : bu F h F') (a : aU F h h') (u : bu F' h' F'') : bu F h F'' := fun x q =>
  (u x q).elim (t x) fun n => by
    by_cases hx : F x
    · exact .inl hx
    · cases e : h.get? x with
      | none => exact .inr rfl
      | some o => rw [a x o hx e] at n; exact sN n
theorem bu.out {F F' : aR} {h : Heap} {b : Addr} {o : Obj} (t : bu F h F') (hF : ¬ F b) (ho : h.get? b = some o) : ¬ F' b := fun q => (t b q).elim hF fun n => by rw [n] at ho; exact nS ho

section
variable (rc : Addr) (h : Heap) (F : aR)
mutual
noncomputable def Rd : D → Value → Prop
  | .none, v => v = .none
  | .bool b, v => v = .bool b
  | .int i, v => ∃ t, v = .int i t
  | .str x, v => ∃ t, v = .str x t
  | .tuple ds, v => ∃ a vs, v = .ref a ∧ h.IsTuple a vs ∧ ¬ F a ∧ vs.size ≤ aF ∧ RdAll ds vs.toList
  | .list ds, v => ∃ a vs, v = .ref a ∧ h.IsList a vs ∧ ¬ F a ∧ vs.size ≤ aF ∧ RdAll ds vs.toList
  | .dict [(.none, d)], v => ∃ x dx hs t u n, v = .ref x ∧ h.get? x = some (instObj rc dx) ∧ h.get? dx = some (dictOf [⟨hs, .str "clauses" t, u⟩] n) ∧ ¬ F x ∧ ¬ F dx ∧ Rd d u
  | .dict _, _ => False
noncomputable def RdAll : List D → List Value → Prop
  | [], vs => vs = []
  | d :: ds, vs => ∃ v r, vs = v :: r ∧ Rd d v ∧ RdAll ds r
end
end

section
variable {rc : Addr} {h h' : Heap} {F F' : aR}
mutual
theorem Rd.step (a : aU F h h') (t : bu F h F') : ∀ (d : D) (v : Value), Rd rc h F d v → Rd rc h' F' d v
  | .none, v, r => by exact r
  | .bool b, v, r => by exact r
  | .int i, v, r => by exact r
  | .str x, v, r => by exact r
  | .tuple ds, v, r => by
    refine cW r fun b vs e2_ z3_ hF hz hr => ?_; obtain rfl := e2_; obtain ⟨o, ho, x⟩ := z3_; try clear r
    exact ⟨b, vs, rfl, ⟨o, a b o hF ho, x⟩, t.out hF ho, hz, RdAll.step a t ds _ hr⟩
  | .list ds, v, r => by
    refine cW r fun b vs e2_ z3_ hF hz hr => ?_; obtain rfl := e2_; obtain ⟨o, ho, x⟩ := z3_; try clear r
    exact ⟨b, vs, rfl, ⟨o, a b o hF ho, x⟩, t.out hF ho, hz, RdAll.step a t ds _ hr⟩
  | .dict [(.none, d)], v, r => by
    refine v8 r fun x dx hs tk u n e6_ h1 h2 hx hd hr => ?_; obtain rfl := e6_; try clear r
    exact ⟨x, dx, hs, tk, u, n, rfl, a _ _ hx h1, a _ _ hd h2, t.out hx h1, t.out hd h2, Rd.step a t d _ hr⟩
  | .dict [], _, r => False.elim r
  | .dict ((.bool _, _) :: _), _, r => False.elim r
  | .dict ((.int _, _) :: _), _, r => False.elim r
  | .dict ((.str _, _) :: _), _, r => False.elim r
  | .dict ((.list _, _) :: _), _, r => False.elim r
  | .dict ((.tuple _, _) :: _), _, r => False.elim r
  | .dict ((.dict _, _) :: _), _, r => False.elim r
  | .dict ((.none, _) :: _ :: _), _, r => False.elim r
theorem RdAll.step (a : aU F h h') (t : bu F h F') : ∀ (ds : List D) (vs : List Value), RdAll rc h F ds vs → RdAll rc h' F' ds vs
  | [], vs, r => by exact r
  | d :: ds, vs, r => by
    refine bm r fun v w e2_ h1 h2 => ?_; obtain rfl := e2_; try clear r
    exact ⟨v, w, rfl, Rd.step a t d v h1, RdAll.step a t ds w h2⟩
end
theorem Rd.grow {d : D} {v : Value} (r : Rd rc h F d v) (k : bD h h') : Rd rc h' F d v := Rd.step (k.agree F) (bu.refl F h) d v r
theorem RdAll.grow {ds : List D} {vs : List Value} (r : RdAll rc h F ds vs) (k : bD h h') : RdAll rc h' F ds vs := RdAll.step (k.agree F) (bu.refl F h) ds vs r
theorem Rd.less {d : D} {v : Value} (r : Rd rc h F d v) (k : ∀ a, F' a → F a) : Rd rc h F' d v := Rd.step (aU.refl F h) (bu.sub k) d v r
theorem RdAll.less {ds : List D} {vs : List Value} (r : RdAll rc h F ds vs) (k : ∀ a, F' a → F a) : RdAll rc h F' ds vs := RdAll.step (aU.refl F h) (bu.sub k) ds vs r

noncomputable def NT (h : Heap) (b : Addr) : Prop := ∃ o, h.get? b = some o ∧ (o.cls ≠ .type "tuple" ∨ ∀ vs n, o.data ≠ .seq vs n)
theorem NT.not {b : Addr} {vs : Array Value} (x : NT h b) (y : h.IsTuple b vs) : False := by
  refine aA x fun o h1 h2 => ?_; try clear x
  obtain ⟨o', h1', h3, n, h4⟩ := y
  rw [h1] at h1'; obtain rfl := Option.some.inj h1'
  exact h2.elim (fun q => q h3) fun q => q _ _ h4
theorem NT.list {b : Addr} {vs : Array Value} (x : h.IsList b vs) : NT h b := by
  refine cg x fun o h1 h2 Z => ?_; try clear x
  exact ⟨o, h1, .inl (by rw [h2]; decide)⟩
theorem NT.ns {b : Addr} {m} (x : h.Ns b m) : NT h b := by
  refine wA x fun o es ep h1 h2 Z => ?_; try clear x
  exact ⟨o, h1, .inr fun vs n e => by rw [h2] at e; cases e⟩
theorem NT.cell {b : Addr} {v} (x : h.IsCell b v) : NT h b := by
  refine aA x fun o h1 h2 => ?_; try clear x
  exact ⟨o, h1, .inr fun vs n e => by rw [h2] at e; cases e⟩
theorem NT.grow {b : Addr} (x : NT h b) (k : ∀ o, h.get? b = some o → h'.get? b = some o) : NT h' b := let ⟨o, h1, h2⟩ := x; ⟨o, k o h1, h2⟩
mutual
theorem Rd.flatten (nt : ∀ a, F' a → NT h a) : ∀ (d : D) (v : Value), bf d = true → Rd rc h F d v → Rd rc h F' d v
  | .none, v, _, r => by exact r
  | .bool b, v, _, r => by exact r
  | .int i, v, _, r => by exact r
  | .str x, v, _, r => by exact r
  | .tuple ds, v, f, r => by
    refine cW r fun b vs e2_ x hF hz hr => ?_; obtain rfl := e2_; try clear r
    exact ⟨b, vs, rfl, x, fun q => (nt b q).not x, hz, RdAll.flatten nt ds _ (by exact f) hr⟩
  | .list ds, _, f, _ => by exact fT f
  | .dict ds, _, f, _ => by exact fT f
theorem RdAll.flatten (nt : ∀ a, F' a → NT h a) : ∀ (ds : List D) (vs : List Value), flatAll ds = true → RdAll rc h F ds vs → RdAll rc h F' ds vs
  | [], vs, _, r => by exact r
  | d :: ds, vs, f, r => by
    refine bm r fun v w e2_ h1 h2 => ?_; obtain rfl := e2_; try clear r
    rw [j6, Bool.and_eq_true] at f
    exact ⟨v, w, rfl, Rd.flatten nt d v f.1 h1, RdAll.flatten nt ds w f.2 h2⟩
end

mutual
theorem Rd.reads : ∀ (d : D) (v : Value), d.canLay0 = true → Rd rc h F d v → ∃ as, Reads h v d as
  | .none, v, _, r => by subst r; exact ⟨_, .none⟩
  | .bool b, v, _, r => by subst r; exact ⟨_, .bool b⟩
  | .int i, v, _, r => by obtain ⟨t, rfl⟩ := r; exact ⟨_, .int i t⟩
  | .str x, v, _, r => by obtain ⟨t, rfl⟩ := r; exact ⟨_, .str x t⟩
  | .tuple ds, v, f, r => by
    refine cW r fun b vs e2_ z3_ hF hz hr => ?_; obtain rfl := e2_; obtain ⟨o, h1, h2, n, h3⟩ := z3_; try clear r
    obtain ⟨as, ha⟩ := RdAll.reads ds _ (by rw [PyData.canLay0] at f; exact f) hr
    exact ⟨_, .tuple h1 h2 h3 ha⟩
  | .list ds, v, f, r => by
    refine cW r fun b vs e2_ z3_ hF hz hr => ?_; obtain rfl := e2_; obtain ⟨o, h1, h2, n, h3⟩ := z3_; try clear r
    obtain ⟨as, ha⟩ := RdAll.reads ds _ (by rw [PyData.canLay0] at f; exact f) hr
    exact ⟨_, .list h1 h2 h3 ha⟩
  | .dict ds, _, f, _ => by rw [PyData.canLay0] at f; exact fT f
theorem RdAll.reads : ∀ (ds : List D) (vs : List Value), PyData.canLayAll0 ds = true → RdAll rc h F ds vs → ∃ as, ReadsAll h vs ds as
  | [], vs, _, r => by subst r; exact ⟨_, .nil⟩
  | d :: ds, vs, f, r => by
    refine bm r fun v w e2_ h1 h2 => ?_; obtain rfl := e2_; try clear r
    rw [PyData.canLayAll0, Bool.and_eq_true] at f
    obtain ⟨as, ha⟩ := Rd.reads d v f.1 h1
    obtain ⟨bs, hb⟩ := RdAll.reads ds w f.2 h2
    exact ⟨_, .cons ha hb⟩
end

theorem dg : ∀ {ds : List D} {vs : List Value}, RdAll rc h F ds vs ↔ vs.length = ds.length ∧ ∀ (i : Nat) (d : D) (v : Value), ds[i]? = some d → vs[i]? = some v → Rd rc h F d v
  | [], vs => by
    constructor
    · rintro rfl; exact ⟨rfl, fun i d v e => by simp at e⟩
    · rintro ⟨e, _⟩; exact List.eq_nil_of_length_eq_zero e
  | d :: ds, vs => by
    constructor
    · rintro ⟨v, w, rfl, h1, h2⟩
      obtain ⟨e, k⟩ := dg.mp h2
      refine ⟨by simp [e], fun i d' v' e1 e2 => ?_⟩
      cases i with
      | zero => simp at e1 e2; subst e1 e2; exact h1
      | succ i => simp at e1 e2; exact k i d' v' e1 e2
    · rintro ⟨e, k⟩
      cases vs with
      | nil => simp at e
      | cons v w =>
        refine ⟨v, w, rfl, k 0 d v rfl rfl, dg.mpr ⟨by simpa using e, fun i d' v' e1 e2 => k (i + 1) d' v' (by simpa using e1) (by simpa using e2)⟩⟩
theorem RdAll.len {ds : List D} {vs : List Value} (r : RdAll rc h F ds vs) : vs.length = ds.length := (dg.mp r).1
theorem RdAll.nil : RdAll rc h F [] [] := by rfl
theorem RdAll.cons {d : D} {v : Value} {ds : List D} {vs : List Value} (a : Rd rc h F d v) (b : RdAll rc h F ds vs) : RdAll rc h F (d :: ds) (v :: vs) := by exact ⟨v, vs, rfl, a, b⟩
theorem RdAll.get {ds : List D} {vs : List Value} {i : Nat} {d : D} (r : RdAll rc h F ds vs) (e : ds[i]? = some d) : ∃ v, vs[i]? = some v ∧ Rd rc h F d v := by
  obtain ⟨hl, k⟩ := dg.mp r
  have hi : i < vs.length := by rw [hl]; exact (List.getElem?_eq_some_iff.mp e).1
  exact ⟨vs[i], List.getElem?_eq_getElem hi, k i d _ e (List.getElem?_eq_getElem hi)⟩
theorem RdAll.append {ds es : List D} {vs ws : List Value} (a : RdAll rc h F ds vs) (b : RdAll rc h F es ws) : RdAll rc h F (ds ++ es) (vs ++ ws) := by
  induction ds generalizing vs with
  | nil => subst a; exact b
  | cons d ds ih =>
    refine bm a fun v r e2_ h1 h2 => ?_; obtain rfl := e2_; try clear a
    exact .cons h1 (ih h2)
theorem RdAll.reverse {ds : List D} {vs : List Value} (a : RdAll rc h F ds vs) : RdAll rc h F ds.reverse vs.reverse := by
  induction ds generalizing vs with
  | nil => subst a; exact .nil
  | cons d ds ih =>
    refine bm a fun v r e2_ h1 h2 => ?_; obtain rfl := e2_; try clear a
    simp only [List.reverse_cons]
    exact (ih h2).append (.cons h1 .nil)
theorem RdAll.take {ds : List D} {vs : List Value} (a : RdAll rc h F ds vs) (n : Nat) : RdAll rc h F (ds.take n) (vs.take n) := by
  induction ds generalizing vs n with
  | nil => subst a; simp; exact .nil
  | cons d ds ih =>
    refine bm a fun v r e2_ h1 h2 => ?_; obtain rfl := e2_; try clear a
    cases n with
    | zero => exact .nil
    | succ n => exact .cons h1 (ih h2 n)
theorem RdAll.drop {ds : List D} {vs : List Value} (a : RdAll rc h F ds vs) (n : Nat) : RdAll rc h F (ds.drop n) (vs.drop n) := by
  induction ds generalizing vs n with
  | nil => subst a; simp; exact .nil
  | cons d ds ih =>
    refine bm a fun v r e2_ h1 h2 => ?_; obtain rfl := e2_; try clear a
    cases n with
    | zero => exact .cons h1 h2
    | succ n => exact ih h2 n
theorem RdAll.set {ds : List D} {vs : List Value} {d : D} {v : Value} (a : RdAll rc h F ds vs) (b : Rd rc h F d v) (n : Nat) : RdAll rc h F (ds.set n d) (vs.set n v) := by
  induction ds generalizing vs n with
  | nil => subst a; exact .nil
  | cons e ds ih =>
    refine bm a fun u r e2_ h1 h2 => ?_; obtain rfl := e2_; try clear a
    cases n with
    | zero => exact .cons b h2
    | succ n => exact .cons h1 (ih h2 n)
theorem RdAll.erase {ds : List D} {vs : List Value} (a : RdAll rc h F ds vs) (n : Nat) : RdAll rc h F (ds.eraseIdx n) (vs.eraseIdx n) := by
  induction ds generalizing vs n with
  | nil => subst a; exact .nil
  | cons e ds ih =>
    refine bm a fun u r e2_ h1 h2 => ?_; obtain rfl := e2_; try clear a
    cases n with
    | zero => exact h2
    | succ n => exact .cons h1 (ih h2 n)
theorem RdAll.replicate {d : D} {v : Value} (b : Rd rc h F d v) : ∀ n : Nat, RdAll rc h F (List.replicate n d) (List.replicate n v)
  | 0 => .nil
  | n + 1 => .cons b (RdAll.replicate b n)
end

theorem bv : ∀ {ds : List D}, flatAll ds = true ↔ ∀ d ∈ ds, bf d = true
  | [] => ⟨fun _ _ m => (nomatch m), fun _ => rfl⟩
  | d :: ds => by rw [j6, Bool.and_eq_true, bv]; simp
theorem cv {ds es : List D} (a : flatAll ds = true) (b : flatAll es = true) : flatAll (ds ++ es) = true := bv.mpr fun d m => (List.mem_append.mp m).elim (bv.mp a d) (bv.mp b d)

inductive EA where
  | val (d : D)
  | own (a : Addr) (ds : List D)
inductive AV where
  | val (d : D)
  | own (a : Addr) (ds : List D)
  | dct (a : Addr) (es : List (Str × EA))
noncomputable def EA.er : EA → EV
  | .val d => .val d
  | .own _ ds => .own ds
noncomputable def erD (es : List (Str × EA)) : List (Nat × EV) := es.filterMap fun x => (pos bZ x.1 0).map (·, x.2.er)
noncomputable def AV.er : AV → LV
  | .val d => .val d
  | .own _ ds => .own ds
  | .dct _ es => .dct (erD es)
noncomputable abbrev aQ := List (Str × AV)
noncomputable def aS {α : Type} (x : Str) (v : α) : List (Str × α) → List (Str × α)
  | [] => [(x, v)]
  | (y, u) :: r => if x == y then (y, v) :: r else (y, u) :: aS x v r
theorem setA_n {α : Type} (x) (v : α) : aS x v [] = [(x, v)] := rfl
theorem vZ {α : Type} (x) (v : α) (y u r) : aS x v ((y, u) :: r) = if x == y then (y, v) :: r else (y, u) :: aS x v r := rfl
noncomputable def mB (ns : List Str) (x : Str) (i : Nat) : Bool := match pos ns x 0 with
  | some j => j == i
  | none => false
noncomputable def aV (ns : List Str) (τ : aQ) : Rho := fun i => (nth ns i).bind fun x => bif mB ns x i then (τ.lookup x).map AV.er else none
noncomputable def EA.has (b : Addr) : EA → Prop
  | .val _ => False
  | .own a _ => b = a
noncomputable def AV.has (b : Addr) : AV → Prop
  | .val _ => False
  | .own a _ => b = a
  | .dct a es => b = a ∨ ∃ k ea, es.lookup k = some ea ∧ ea.has b
noncomputable def AV.Ok : AV → Prop
  | .val _ => True
  | .own _ _ => True
  | .dct a es => (∀ k ea, es.lookup k = some ea → ¬ ea.has a) ∧ ∀ k k' ea ea' b, es.lookup k = some ea → es.lookup k' = some ea' → ea.has b → ea'.has b → k = k'

theorem cG {α β : Type} (f : α → β) (x : Str) : ∀ l : List (Str × α), (l.map fun y => (y.1, f y.2)).lookup x = (l.lookup x).map f
  | [] => rfl
  | (y, v) :: r => by
    simp only [List.map_cons, List.lookup_cons]
    cases x == y
    · exact cG f x r
    · rfl
theorem pU {x y : Str} (e : ¬ x = y) : (x == y) = false := by simpa using e
theorem aG {α : Type} (x y : Str) (v : α) : ∀ l : List (Str × α), (aS x v l).lookup y = if y = x then some v else l.lookup y
  | [] => by
    simp only [setA_n, List.lookup_cons, List.lookup_nil]
    by_cases e : y = x
    · rw [if_pos e, e, beq_self_eq_true]
    · rw [if_neg e, pU e]
  | (z, u) :: r => by
    simp only [vZ]
    by_cases e : x = z
    · subst e
      simp only [beq_self_eq_true, if_true, List.lookup_cons]
      by_cases e2 : y = x
      · rw [if_pos e2, e2, beq_self_eq_true]
      · rw [if_neg e2, pU e2]
    · simp only [pU e, Bool.false_eq_true, if_false, List.lookup_cons]
      by_cases e2 : y = z
      · rw [e2, beq_self_eq_true, if_neg (Ne.symm e)]
      · rw [pU e2]
        exact aG x y v r
theorem s9 : ∀ {ns : List Str} {x : Str} {k i : Nat}, pos ns x k = some i → ∃ j, i = k + j ∧ nth ns j = some x
  | [], _, _, _, h => nomatch h
  | y :: r, x, k, i, h => by
    rw [zo] at h
    cases q : x == y with
    | true =>
      rw [q] at h
      obtain rfl := Option.some.inj h
      exact ⟨0, rfl, congrArg some (beq_iff_eq.mp q).symm⟩
    | false =>
      rw [q] at h
      refine aA (s9 (show pos r x (k + 1) = some i from h)) fun j h1 h2 => ?_
      exact ⟨j + 1, by (lia -abstractProof), h2⟩
theorem fS {ns : List Str} {x : Str} {i : Nat} (h : pos ns x 0 = some i) : nth ns i = some x := by
  refine aA (s9 h) fun j h1 h2 => ?_
  rw [Nat.zero_add] at h1
  exact h1 ▸ h2
theorem ou {ns : List Str} {x y : Str} {i : Nat} (h : pos ns x 0 = some i) (h' : pos ns y 0 = some i) : x = y := Option.some.inj ((fS h).symm.trans (fS h'))
theorem gy {ns : List Str} {x : Str} {i : Nat} : mB ns x i = true ↔ pos ns x 0 = some i := by
  unfold mB
  cases pos ns x 0 <;> simp
theorem dI {ns : List Str} {x : Str} {i : Nat} (h : pos ns x 0 = some i) (τ : aQ) : aV ns τ i = (τ.lookup x).map AV.er := by
  unfold aV
  rw [fS h, Option.bind_some, gy.mpr h, cond_true]
theorem bG {ns : List Str} {x : Str} {i : Nat} (h : pos ns x 0 = some i) (τ : aQ) (av : AV) : aV ns (aS x av τ) = upd (aV ns τ) i av.er := by
  funext j
  unfold upd
  cases q : j == i with
  | true =>
    cases beq_iff_eq.mp q
    rw [dI h, aG, if_pos rfl]; rfl
  | false =>
    unfold aV
    rw [cond_false]
    cases hy : nth ns j with
    | none => rfl
    | some y =>
      rw [Option.bind_some, Option.bind_some]
      cases hp : mB ns y j with
      | false => rfl
      | true =>
        rw [cond_true, cond_true, aG, if_neg]
        rintro rfl
        rw [gy] at hp
        rw [h] at hp; obtain rfl := Option.some.inj hp
        simp at q
theorem l6 {k : Str} {j : Nat} (h : pos bZ k 0 = some j) : ∀ es : List (Str × EA), lk j (erD es) = (es.lookup k).map EA.er
  | [] => rfl
  | (k', ea) :: r => by
    have ih := l6 h r
    have e : erD ((k', ea) :: r) = match (pos bZ k' 0) with | some i => (i, ea.er) :: erD r | none => erD r := by
      unfold erD
      rw [List.filterMap_cons]
      cases pos bZ k' 0 <;> rfl
    rw [e, List.lookup_cons]
    cases q : k == k' with
    | true =>
      cases beq_iff_eq.mp q
      rw [h]
      show (bif j == j then _ else _) = _
      rw [beq_self_eq_true]; rfl
    | false =>
      cases hp : pos bZ k' 0 with
      | none => exact ih
      | some i =>
        have : (j == i) = false := by
          cases z : j == i with
          | false => rfl
          | true =>
            cases beq_iff_eq.mp z
            rw [ou h hp, beq_self_eq_true] at q; exact tF q
        show (bif j == i then _ else _) = _
        rw [this]; exact ih
theorem vX {k : Str} {j : Nat} (h : pos bZ k 0 = some j) (ea : EA) : ∀ {es : List (Str × EA)} {ea0 : EA}, es.lookup k = some ea0 → erD (aS k ea es) = st j ea.er (erD es)
  | [], _, e => nomatch e
  | (k', eb) :: r, ea0, e => by
    have c (k' : Str) (ea : EA) (r : List (Str × EA)) : erD ((k', ea) :: r) = match (pos bZ k' 0) with | some i => (i, ea.er) :: erD r | none => erD r := by
      unfold erD
      rw [List.filterMap_cons]
      cases pos bZ k' 0 <;> rfl
    rw [vZ]
    rw [List.lookup_cons] at e
    cases q : k == k' with
    | true =>
      cases beq_iff_eq.mp q
      rw [if_pos rfl, c, c, h]
      show _ = (bif j == j then _ else _)
      rw [beq_self_eq_true]; rfl
    | false =>
      rw [q] at e
      rw [if_neg (by simp), c, c, vX h ea e]
      cases hp : pos bZ k' 0 with
      | none => rfl
      | some i =>
        have : (j == i) = false := by
          cases z : j == i with
          | false => rfl
          | true =>
            cases beq_iff_eq.mp z
            rw [ou h hp, beq_self_eq_true] at q; exact tF q
        show _ = (bif j == i then _ else _)
        rw [this]; rfl

structure Cx where
  env : Env
  sc : cL
  hB : Heap
  h₀ : Heap
  X : aR
  F₀ : aR
  gens : Array GenState
  os : OsState

noncomputable def Cx.fx (C : Cx) : aR := fun b => b = C.env.locals ∨ ∃ x, C.sc.lookup x = some .cell ∧ C.env.cells.lookup x = some b
noncomputable def bT (τ : aQ) : aR := fun b => ∃ x av, τ.lookup x = some av ∧ av.has b
noncomputable def Cx.F (C : Cx) (τ : aQ) : aR := fun b => C.F₀ b ∨ C.fx b ∨ bT τ b

structure Cx.Ok (C : Cx) : Prop where
  kind : C.env.scope.kind = .function
  loc : ∀ x, C.sc.lookup x = some .local → C.env.kindOf x = some .local
  glob : ∀ x, C.sc.lookup x = some .globalImplicit → C.env.kindOf x = some .globalImplicit
  cell : ∀ x, C.sc.lookup x = some .cell → C.env.kindOf x = some .cell ∧ ∃ c, C.env.cells.lookup x = some c
  free : ∀ x, C.sc.lookup x = some .free → C.env.kindOf x = some .cell ∧ ∃ c, C.env.cells.lookup x = some c
  globals : C.env.globals = mainGlobals
  builtins : C.env.builtins = builtinsNs
  one : ∀ x y c, C.sc.lookup x = some .cell → C.sc.lookup y = some .cell → C.env.cells.lookup x = some c → C.env.cells.lookup y = some c → x = y
  offL : ∀ x, C.sc.lookup x = some .cell → C.env.cells.lookup x ≠ some C.env.locals
  offF : ∀ x c, C.sc.lookup x = some .free → C.env.cells.lookup x = some c → ¬ C.fx c
  frees : ∀ x c, C.sc.lookup x = some .free → C.env.cells.lookup x = some c → ∃ o, C.h₀.get? c = some o ∧ ¬ C.X c

noncomputable def Holds (C : Cx) (h : Heap) (m : Str → Option Value) (x : Str) (v : Value) : Prop :=
  (C.sc.lookup x = some .local ∧ m x = some v) ∨ ((C.sc.lookup x = some .cell ∨ C.sc.lookup x = some .free) ∧ ∃ c, C.env.cells.lookup x = some c ∧ h.IsCell c (some v))

section
variable (prog : Program) (w : World) (rc : Addr) (h : Heap) (F : aR)
noncomputable def oW (a : Addr) (ds : List D) : Prop := ∃ vs, h.PlainList a vs ∧ vs.size ≤ aF ∧ RdAll rc h F ds vs.toList ∧ flatAll ds = true
noncomputable def RdA (v : Value) : EA → Prop
  | .val d => Rd rc h F d v
  | .own a ds => v = .ref a ∧ oW rc h F a ds
noncomputable def RdV (v : Value) : AV → Prop
  | .val d => Rd rc h F d v
  | .own a ds => v = .ref a ∧ oW rc h F a ds
  | .dct a es => v = .ref a ∧ ∃ kvs, h.DictOf (strKind prog w) a kvs ∧ kvs.length ≤ 100 ∧ ∀ k ea, es.lookup k = some ea → ∃ u, valueAt kvs k = some u ∧ RdA rc h F u ea
end

structure Rel (prog : Program) (w : World) (rc : Addr) (C : Cx) (τ : aQ) (s : Shared) : Prop where
  world : bD C.hB s.heap
  base : aU C.X C.h₀ s.heap
  gens : s.gens = C.gens
  os : s.os = C.os
  ns : ∃ m, s.heap.Ns C.env.locals m ∧ ∀ x av, τ.lookup x = some av → ∃ v, Holds C s.heap m x v ∧ RdV prog w rc s.heap (C.F τ) v av
  cells : ∀ x c, C.sc.lookup x = some .cell → C.env.cells.lookup x = some c → ∃ v, s.heap.IsCell c v
  apart : ∀ x y av av' b, τ.lookup x = some av → τ.lookup y = some av' → av.has b → av'.has b → x = y
  ok : ∀ x av, τ.lookup x = some av → av.Ok
  off : ∀ b, C.fx b → ¬ bT τ b
  live : ∀ b, C.F τ b → NT s.heap b
  new : ∀ b, C.fx b ∨ bT τ b → C.hB.get? b = none ∧ (C.X b ∨ C.h₀.get? b = none)
  off0 : ∀ b, C.F₀ b → ¬ (C.fx b ∨ bT τ b)

section
variable {prog : Program} {w : World} {rc : Addr} {C : Cx} {τ : aQ} {s s' : Shared}

theorem oW.step {h h' : Heap} {F F' : aR} (a : aU F h h') (t : bu F h F') {b : Addr} {ds : List D} (hb : ∀ o, h.get? b = some o → h'.get? b = some o) (r : oW rc h F b ds) : oW rc h' F' b ds := by
  refine iK r fun vs z1_ hz hr hf => ?_; obtain ⟨n, ho⟩ := z1_; try clear r
  exact ⟨vs, ⟨n, hb _ ho⟩, hz, RdAll.step a t ds _ hr, hf⟩
theorem RdA.step {h h' : Heap} {F F' : aR} (a : aU F h h') (t : bu F h F') {v : Value} : ∀ {ea : EA}, (∀ b, ea.has b → ∀ o, h.get? b = some o → h'.get? b = some o) → RdA rc h F v ea → RdA rc h' F' v ea
  | .val d, _, r => Rd.step a t d v r
  | .own b _, hb, r => ⟨r.1, r.2.step a t (hb b rfl)⟩
theorem RdV.step {h h' : Heap} {F F' : aR} (a : aU F h h') (t : bu F h F') {v : Value} : ∀ {av : AV}, (∀ b, av.has b → ∀ o, h.get? b = some o → h'.get? b = some o) → RdV prog w rc h F v av → RdV prog w rc h' F' v av
  | .val d, _, r => Rd.step a t d v r
  | .own b _, hb, r => ⟨r.1, r.2.step a t (hb b rfl)⟩
  | .dct b es, hb, r => by
    obtain ⟨rfl, kvs, ⟨o, e1, ep, ho, x⟩, hl, k⟩ := r
    refine ⟨rfl, kvs, ⟨o, e1, ep, hb b (.inl rfl) o ho, x⟩, hl, fun key ea e => ?_⟩
    refine aA (k key ea e) fun u hu hr => ?_
    exact ⟨u, hu, hr.step a t fun c hc => hb c (.inr ⟨key, ea, e, hc⟩)⟩

theorem Holds.keep {h h' : Heap} {m m' : Str → Option Value} {x : Str} {v : Value} (y : Holds C h m x v) (hm : m' x = m x) (hc : ∀ c, C.env.cells.lookup x = some c → C.sc.lookup x = some .cell ∨ C.sc.lookup x = some .free → ∀ o, h.get? c = some o → h'.get? c = some o) : Holds C h' m' x v :=
  y.elim (fun z => .inl ⟨z.1, hm.trans z.2⟩) fun z => .inr ⟨z.1, let ⟨c, e, o, ho, hd⟩ := z.2; ⟨c, e, o, hc c e z.1 o ho, hd⟩⟩

theorem Rel.grow (R : Rel prog w rc C τ s) (k : bD s.heap s'.heap) (hg : s'.gens = s.gens) (ho : s'.os = s.os) : Rel prog w rc C τ s' where
  world := R.world.trans k
  base := fun b o n e => k b o (R.base b o n e)
  gens := hg.trans R.gens
  os := ho.trans R.os
  ns := by
    refine aA R.ns fun m hn hv => ?_
    refine ⟨m, hn.keeps k, fun x av e => ?_⟩
    refine aA (hv x av e) fun v h1 h2 => ?_
    exact ⟨v, h1.keep rfl fun c Z Z o => k c o, h2.step (k.agree _) (bu.refl _ _) fun b Z o => k b o⟩
  cells := fun x c a b => let ⟨v, y⟩ := R.cells x c a b; ⟨v, y.keeps k⟩
  apart := R.apart
  ok := R.ok
  off := R.off
  live := fun b q => (R.live b q).grow (k b)
  new := R.new
  off0 := R.off0

noncomputable def Cx.M (C : Cx) (τ : aQ) : aR := fun b => C.fx b ∨ bT τ b
theorem cB {x : Str} {av : AV} {b : Addr} (q : bT (aS x av τ) b) : av.has b ∨ ∃ y av', y ≠ x ∧ τ.lookup y = some av' ∧ av'.has b := by
  refine bY q fun y av' e hb => ?_; try clear q
  rw [aG] at e
  by_cases hy : y = x
  · rw [if_pos hy] at e; obtain rfl := Option.some.inj e; exact .inl hb
  · rw [if_neg hy] at e; exact .inr ⟨y, av', hy, e, hb⟩

noncomputable def AV.ad : AV → Option Addr
  | .val _ => none
  | .own b _ => some b
  | .dct b _ => some b
noncomputable def gj (sc : cL) (τ τ' : aQ) : Prop := ∀ x, cA sc x = false → ∀ av b, τ.lookup x = some av → av.ad = some b → ∃ av', τ'.lookup x = some av' ∧ av'.ad = some b
theorem gj.refl (sc : cL) (τ : aQ) : gj sc τ τ := fun Z Z av Z e h => ⟨av, e, h⟩
theorem gj.trans {sc : cL} {τ τ' τ'' : aQ} (a : gj sc τ τ') (b : gj sc τ' τ'') : gj sc τ τ'' := fun x hx av c e h => let ⟨av', e', h'⟩ := a x hx av c e h; b x hx av' c e' h'
theorem gj.put {sc : cL} {τ : aQ} {x : Str} {av : AV} (hs : cA sc x = true) : gj sc τ (aS x av τ) := fun y hy a b e h => by
  refine ⟨a, ?_, h⟩
  rw [aG, if_neg fun q => by rw [q, hs] at hy; cases hy]
  exact e
theorem gj.same {sc : cL} {τ : aQ} {x : Str} {av av' : AV} (e : τ.lookup x = some av) (had : av'.ad = av.ad) : gj sc τ (aS x av' τ) := fun y hy a b e' h => by
  rw [aG]
  by_cases q : y = x
  · subst q
    rw [e] at e'; obtain rfl := Option.some.inj e'
    exact ⟨av', by rw [if_pos rfl], had.trans h⟩
  · exact ⟨a, by rw [if_neg q]; exact e', h⟩
structure Step (C : Cx) (τ : aQ) (h : Heap) (τ' : aQ) (h' : Heap) : Prop where
  agree : aU (C.M τ) h h'
  turn : bu (C.M τ) h (C.M τ')
  pins : gj C.sc τ τ'
theorem Step.F {C : Cx} {τ τ' : aQ} {h h' : Heap} (x : Step C τ h τ' h') : bu (C.F τ) h (C.F τ') := fun b q => q.elim (fun z => .inl (.inl z)) fun z => (x.turn b z).imp .inr id
theorem Step.rd {C : Cx} {τ τ' : aQ} {h h' : Heap} (x : Step C τ h τ' h') {d : D} {v : Value} (r : Rd rc h (C.F τ) d v) : Rd rc h' (C.F τ') d v :=
  Rd.step (x.agree.more fun Z => .inr) x.F d v r
theorem Step.refl (C : Cx) (τ : aQ) (h : Heap) : Step C τ h τ h := ⟨.refl _ _, .refl _ _, .refl _ _⟩
theorem Step.grow {C : Cx} {τ : aQ} {h h' : Heap} (k : bD h h') : Step C τ h τ h' := ⟨k.agree _, .refl _ _, .refl _ _⟩
theorem Step.trans {C : Cx} {τ τ' τ'' : aQ} {h h' h'' : Heap} (a : Step C τ h τ' h') (b : Step C τ' h' τ'' h'') : Step C τ h τ'' h'' :=
  ⟨a.agree.trans a.turn b.agree, a.turn.trans' a.agree b.turn, a.pins.trans b.pins⟩

theorem Rel.fresh (R : Rel prog w rc C τ s) {b : Addr} (n : s.heap.get? b = none) : ¬ C.F τ b ∧ C.hB.get? b = none ∧ (C.X b ∨ C.h₀.get? b = none) := by
  refine ⟨fun q => ?_, ?_, ?_⟩
  · refine aA (R.live b q) fun o e Z => ?_; rw [n] at e; exact nS e
  · cases e : C.hB.get? b with
    | none => rfl
    | some o => rw [R.world b o e] at n; exact sN n
  · by_cases hx : C.X b
    · exact .inl hx
    · cases e : C.h₀.get? b with
      | none => exact .inr rfl
      | some o => rw [R.base b o hx e] at n; exact sN n

theorem RdV.nt {h : Heap} {F : aR} {v : Value} : ∀ {av : AV}, RdV prog w rc h F v av → ∀ b, av.has b → NT h b
  | .val _, _, _, q => q.elim
  | .own a _, r, b, q => by
    obtain ⟨_, vs, hl, _⟩ := r
    cases (q : b = a); exact .list hl.isList
  | .dct a es, r, b, q => by
    obtain ⟨_, kvs, ⟨o, e1, ep, ho, _, hd, _⟩, _, k⟩ := r
    rcases q with rfl | ⟨key, ea, e, hb⟩
    · exact ⟨o, ho, .inr fun vs n e => by rw [hd] at e; cases e⟩
    · refine aA (k key ea e) fun u Z hr => ?_
      cases ea with
      | val d => exact hb.elim
      | own c ds =>
        obtain ⟨_, vs, hl, _⟩ := hr
        cases (hb : b = c); exact .list hl.isList

theorem dm {sc : cL} {x : Str} (h : cA sc x = true) : sc.lookup x = some .local ∨ sc.lookup x = some .cell := by
  unfold cA at h
  rw [Bool.and_eq_true] at h
  have h := h.1
  split at h <;> simp_all

section
variable {M : Model} {A : Around} {E : Value → Shared → Prop} {s₁ : Shared}

theorem Rel.put {x : Str} {v : Value} {av : AV} (ok : C.Ok) (R : Rel prog w rc C τ s₁) (k : bD s₁.heap s.heap) (hg : s.gens = s₁.gens) (ho : s.os = s₁.os) (hs : cA C.sc x = true)
    (hav : RdV prog w rc s.heap (C.F (aS x av τ)) v av) (hok : av.Ok) (hnew : ∀ b, av.has b → (∃ av₀, τ.lookup x = some av₀ ∧ av₀.has b) ∨ s₁.heap.get? b = none)
    {Q : Unit → Shared → Prop} (hQ : ∀ s', Rel prog w rc C (aS x av τ) s' → Step C τ s₁.heap (aS x av τ) s'.heap → Q () s') :
    wpAny M A (storeName C.env x v) Q E s := by
  refine aA R.ns fun m hn hv => ?_
  have tM : bu (C.M τ) s₁.heap (C.M (aS x av τ)) := fun b q => q.elim (fun z => .inl (.inl z)) fun z => (cB z).elim (fun y => (hnew b y).elim (fun ⟨a0, e0, h0⟩ => .inl (.inr ⟨x, a0, e0, h0⟩)) .inr) fun ⟨y, a', _, e', h'⟩ => .inl (.inr ⟨y, a', e', h'⟩)
  have tF : bu (C.F τ) s₁.heap (C.F (aS x av τ)) := fun b q => q.elim (fun z => .inl (.inl z)) fun z => (tM b z).imp .inr id
  have hasOld : ∀ b, av.has b → ¬ C.fx b := fun b q z => (hnew b q).elim (fun ⟨a0, e0, h0⟩ => R.off b z ⟨x, a0, e0, h0⟩) fun n => (R.fresh n).1 (.inr (.inl z))
  -- the end, for the place p
  have fin : ∀ (p : Addr) (s' : Shared), C.fx p → (∀ b, b ≠ p → s'.heap.get? b = s.heap.get? b) → s'.gens = s.gens → s'.os = s.os → NT s'.heap p →
      (∃ m', s'.heap.Ns C.env.locals m' ∧ ∀ y v', y ≠ x → Holds C s₁.heap m y v' → Holds C s'.heap m' y v') ∧ (∃ m', s'.heap.Ns C.env.locals m' ∧ (∀ y v', y ≠ x → Holds C s₁.heap m y v' → Holds C s'.heap m' y v') ∧ Holds C s'.heap m' x v) →
      (∀ y c, C.sc.lookup y = some .cell → C.env.cells.lookup y = some c → ∃ v, s'.heap.IsCell c v) →
      Rel prog w rc C (aS x av τ) s' ∧ Step C τ s₁.heap (aS x av τ) s'.heap := by
    intro p s' hp hsame hg' ho' hnt hns hcells
    have ag : aU (C.M τ) s₁.heap s'.heap := fun b o n e => by
      rw [hsame b fun q => n (.inl (q ▸ hp))]; exact k b o e
    have agp : ∀ F : aR, F p → aU F s.heap s'.heap := fun F hF b o n e => by
      rw [hsame b fun q => n (q ▸ hF)]; exact e
    have newp := R.new p (.inl hp)
    refine cg hns.2 fun m' hn' ho'' hx' => ?_
    refine ⟨⟨fun b o e => ?_, fun b o n e => ?_, (hg'.trans hg).trans R.gens, (ho'.trans ho).trans R.os, ⟨m', hn', fun y av' e => ?_⟩, hcells, ?_, ?_, ?_, ?_, ?_, ?_⟩, ag, tM, gj.put hs⟩
    · rw [hsame b fun q => by rw [q, newp.1] at e; cases e]; exact k b o (R.world b o e)
    · rw [hsame b fun q => by
        rcases newp.2 with h | h
        · exact n (q ▸ h)
        · rw [q, h] at e; cases e]
      exact k b o (R.base b o n e)
    · rw [aG] at e
      by_cases hy : y = x
      · rw [if_pos hy] at e; obtain rfl := Option.some.inj e; subst hy
        exact ⟨v, hx', hav.step (agp _ (.inr (.inl hp))) (bu.refl _ _) fun b q o eo => by rw [hsame b fun z => hasOld b q (z ▸ hp)]; exact eo⟩
      · rw [if_neg hy] at e
        refine aA (hv y av' e) fun v' h1 h2 => ?_
        refine ⟨v', ho'' y v' hy h1, h2.step (ag.more fun Z => .inr) tF fun b q o eo => ?_⟩
        rw [hsame b fun z => R.off b (z ▸ hp) ⟨y, av', e, q⟩]; exact k b o eo
    · intro y z a1 a2 b e1 e2 h1 h2
      rw [aG] at e1 e2
      have key : ∀ {y' : Str} {a' : AV}, τ.lookup y' = some a' → a'.has b → av.has b → y' = x := fun {y' a'} e h ha =>
        (hnew b ha).elim (fun ⟨a0, e0, h0⟩ => R.apart _ _ _ _ b e e0 h h0) fun n => ((R.fresh n).1 (.inr (.inr ⟨y', a', e, h⟩))).elim
      by_cases hy : y = x
      · by_cases hz : z = x
        · exact hy.trans hz.symm
        · rw [if_pos hy] at e1; rw [if_neg hz] at e2; obtain rfl := Option.some.inj e1
          exact hy.trans (key e2 h2 h1).symm
      · rw [if_neg hy] at e1
        by_cases hz : z = x
        · rw [if_pos hz] at e2; obtain rfl := Option.some.inj e2
          exact (key e1 h1 h2).trans hz.symm
        · rw [if_neg hz] at e2; exact R.apart _ _ _ _ b e1 e2 h1 h2
    · intro y a1 e1
      rw [aG] at e1
      by_cases hy : y = x
      · rw [if_pos hy] at e1; obtain rfl := Option.some.inj e1; exact hok
      · rw [if_neg hy] at e1; exact R.ok y a1 e1
    · intro b hb q
      exact (cB q).elim (fun z => hasOld b z hb) fun ⟨y, a', _, e', h'⟩ => R.off b hb ⟨y, a', e', h'⟩
    · intro b q
      by_cases hbp : b = p
      · rw [hbp]; exact hnt
      · have : NT s.heap b := by
          rcases tF b q with z | z
          · exact (R.live b z).grow (k b)
          · rcases q with z' | z' | z'
            · exact (R.live b (.inl z')).grow (k b)
            · exact (R.live b (.inr (.inl z'))).grow (k b)
            · exact (cB z').elim (fun y => hav.nt b y) fun ⟨y, a', _, e', h'⟩ => (R.live b (.inr (.inr ⟨y, a', e', h'⟩))).grow (k b)
        exact this.grow fun o e => by rw [hsame b hbp]; exact e
    · intro b q
      rcases tM b q with z | z
      · exact R.new b z
      · exact (R.fresh z).2
    · intro b hb q
      rcases tM b q with z | z
      · exact R.off0 b hb z
      · exact (R.fresh z).1 (.inl hb)
  rcases dm hs with hl | hc
  · refine wpAny_storeName_local (ok.loc x hl) (hn.keeps k) (fun h' hn' hs' => ?_) (by rw [ok.kind]; rfl)
    have hh : ∀ y v', y ≠ x → Holds C s₁.heap m y v' → Holds C h' (fun z => if z = x then some v else m z) y v' := fun y v' hy z => z.keep (by simp [hy]) fun c ec hk o eo => by
      rw [hs'.2 c fun q => ?_]
      · exact k c o eo
      · rcases hk with hk | hk
        · exact ok.offL y hk (q ▸ ec)
        · exact ok.offF y c hk ec (.inl q)
    obtain ⟨r1, r2⟩ := fin C.env.locals { s with heap := h', toks := s.toks + 1 } (.inl rfl) (fun b hb => hs'.2 b hb) rfl rfl (.ns hn') ⟨⟨_, hn', hh⟩, _, hn', hh, .inl ⟨hl, by simp⟩⟩ fun y c e1 e2 => by
      obtain ⟨u, hu⟩ := R.cells y c e1 e2
      exact ⟨u, (hu.keeps k).sameBut hs' fun q => ok.offL y e1 (q ▸ e2)⟩
    exact hQ _ r1 r2
  · obtain ⟨kc, c, ec⟩ := ok.cell x hc
    obtain ⟨u, hu⟩ := R.cells x c hc ec
    refine wpAny_storeName_cell ok.kind kc ec (hu.keeps k) fun h' hc' hs' => ?_
    have hcL : C.env.locals ≠ c := fun q => ok.offL x hc (q ▸ ec)
    have hh : ∀ y v', y ≠ x → Holds C s₁.heap m y v' → Holds C h' m y v' := fun y v' hy z => z.keep rfl fun c' ec' hk o eo => by
      rw [hs'.2 c' fun q => ?_]
      · exact k c' o eo
      · rcases hk with hk | hk
        · exact hy (ok.one y x c hk hc (q ▸ ec') ec)
        · exact ok.offF y c' hk ec' (.inr ⟨x, hc, q ▸ ec⟩)
    have hn' := (hn.keeps k).sameBut hs' hcL
    obtain ⟨r1, r2⟩ := fin c { s with heap := h' } (.inr ⟨x, hc, ec⟩) (fun b hb => hs'.2 b hb) rfl rfl (.cell hc') ⟨⟨m, hn', hh⟩, m, hn', hh, .inr ⟨.inl hc, c, ec, hc'⟩⟩ fun y c' e1 e2 => by
      by_cases q : c' = c
      · subst q; exact ⟨_, hc'⟩
      · obtain ⟨u, hu⟩ := R.cells y c' e1 e2
        exact ⟨u, (hu.keeps k).sameBut hs' q⟩
    exact hQ _ r1 r2
end

theorem j3 {x : Str} {av av' : AV} (e : τ.lookup x = some av) (k : ∀ b, av'.has b ↔ av.has b) (b : Addr) : bT (aS x av' τ) b ↔ bT τ b := by
  constructor
  · intro q
    exact (cB q).elim (fun z => ⟨x, av, e, (k b).mp z⟩) fun ⟨y, a', _, e', h'⟩ => ⟨y, a', e', h'⟩
  · rintro ⟨y, a', e', h'⟩
    by_cases hy : y = x
    · subst hy; rw [e] at e'; obtain rfl := Option.some.inj e'
      exact ⟨y, av', by rw [aG, if_pos rfl], (k b).mpr h'⟩
    · exact ⟨y, a', by rw [aG, if_neg hy]; exact e', h'⟩

theorem Rel.turnAt {x : Str} {av av' : AV} {p : Addr} {h' : Heap} {tk : Nat} (nf : ∀ y, C.sc.lookup y ≠ some .free) (R : Rel prog w rc C τ s) (e : τ.lookup x = some av) (hp : av.has p) (hsame : ∀ b, b ≠ p → h'.get? b = s.heap.get? b)
    (k : ∀ b, av'.has b ↔ av.has b) (had : av'.ad = av.ad) (hok : av'.Ok) (hnt : NT h' p) (hav : ∀ v, RdV prog w rc s.heap (C.F τ) v av → RdV prog w rc h' (C.F τ) v av') :
    Rel prog w rc C (aS x av' τ) { s with heap := h', toks := tk } ∧ Step C τ s.heap (aS x av' τ) h' := by
  have hF : ∀ b, C.F (aS x av' τ) b ↔ C.F τ b := fun b => by unfold Cx.F; rw [j3 e k]
  have hM : ∀ b, C.M (aS x av' τ) b ↔ C.M τ b := fun b => by unfold Cx.M; rw [j3 e k]
  have hasp : bT τ p := ⟨x, av, e, hp⟩
  have eF : C.F (aS x av' τ) = C.F τ := funext fun b => propext (hF b)
  have ag : aU (C.M τ) s.heap h' := fun b o n eo => by rw [hsame b fun q => n (.inr (q ▸ hasp))]; exact eo
  refine aA R.ns fun m hn hv => ?_
  have npL : p ≠ C.env.locals := fun q => R.off _ (.inl q) hasp
  have npc : ∀ y c, C.env.cells.lookup y = some c → C.sc.lookup y = some .cell ∨ C.sc.lookup y = some .free → c ≠ p := fun y c ec hk q => by
    rcases hk with hk | hk
    · exact R.off p (.inr ⟨y, hk, q ▸ ec⟩) hasp
    · exact nf y hk
  have newp := R.new p (.inr hasp)
  refine ⟨⟨fun b o eo => ?_, fun b o n eo => ?_, R.gens, R.os, ⟨m, hn.at' fun o eo => ?_, fun y a' e' => ?_⟩, fun y c a b => ?_, ?_, ?_, ?_, ?_, ?_, ?_⟩, ag, fun b q => .inl ((hM b).mp q), gj.same e had⟩
  · show h'.get? b = some o
    rw [hsame b fun q => by rw [q, newp.1] at eo; cases eo]; exact R.world b o eo
  · show h'.get? b = some o
    rw [hsame b fun q => by
      rcases newp.2 with h | h
      · exact n (q ▸ h)
      · rw [q, h] at eo; cases eo]
    exact R.base b o n eo
  · show h'.get? _ = some o
    rw [hsame _ (Ne.symm npL)]; exact eo
  · rw [eF]
    rw [aG] at e'
    by_cases hy : y = x
    · rw [if_pos hy] at e'; obtain rfl := Option.some.inj e'; subst hy
      refine aA (hv y av e) fun v h1 h2 => ?_
      exact ⟨v, h1.keep rfl fun c ec hk o eo => (hsame c (npc y c ec hk)).trans eo, hav v h2⟩
    · rw [if_neg hy] at e'
      refine aA (hv y a' e') fun v h1 h2 => ?_
      refine ⟨v, h1.keep rfl fun c ec hk o eo => (hsame c (npc y c ec hk)).trans eo, h2.step (ag.more fun Z => .inr) (.refl _ _) fun b q o eo => ?_⟩
      rw [hsame b fun z => hy (R.apart _ _ _ _ p e' e (z ▸ q) hp)]; exact eo
  · refine bY (R.cells y c a b) fun u o ho hd => ?_
    exact ⟨u, o, (hsame c (npc y c b (.inl a))).trans ho, hd⟩
  · intro y z a1 a2 b e1 e2 h1 h2
    rw [aG] at e1 e2
    by_cases hy : y = x
    · by_cases hz : z = x
      · exact hy.trans hz.symm
      · rw [if_pos hy] at e1; rw [if_neg hz] at e2; obtain rfl := Option.some.inj e1
        exact hy.trans (R.apart _ _ _ _ b e e2 ((k b).mp h1) h2)
    · rw [if_neg hy] at e1
      by_cases hz : z = x
      · rw [if_pos hz] at e2; obtain rfl := Option.some.inj e2
        exact (R.apart _ _ _ _ b e1 e h1 ((k b).mp h2)).trans hz.symm
      · rw [if_neg hz] at e2; exact R.apart _ _ _ _ b e1 e2 h1 h2
  · intro y a1 e1
    rw [aG] at e1
    by_cases hy : y = x
    · rw [if_pos hy] at e1; obtain rfl := Option.some.inj e1; exact hok
    · rw [if_neg hy] at e1; exact R.ok y a1 e1
  · intro b hb q
    exact R.off b hb ((j3 e k b).mp q)
  · intro b q
    by_cases hbp : b = p
    · rw [hbp]; exact hnt
    · exact (R.live b ((hF b).mp q)).grow fun o eo => (hsame b hbp).trans eo
  · intro b q
    exact R.new b ((hM b).mp q)
  · intro b hb q
    exact R.off0 b hb ((hM b).mp q)

theorem EA.has_ex {es : List (Str × EA)} {k : Str} {ea ea' : EA} (e : es.lookup k = some ea) (q : ∀ b, ea'.has b ↔ ea.has b) (b : Addr) : (∃ k' x, (aS k ea' es).lookup k' = some x ∧ x.has b) ↔ ∃ k' x, es.lookup k' = some x ∧ x.has b := by
  constructor
  · rintro ⟨k', x, e', h'⟩
    rw [aG] at e'
    by_cases hk : k' = k
    · rw [if_pos hk] at e'; obtain rfl := Option.some.inj e'; exact ⟨k, ea, e, (q b).mp h'⟩
    · rw [if_neg hk] at e'; exact ⟨k', x, e', h'⟩
  · rintro ⟨k', x, e', h'⟩
    by_cases hk : k' = k
    · subst hk; rw [e] at e'; obtain rfl := Option.some.inj e'
      exact ⟨k', ea', by rw [aG, if_pos rfl], (q b).mpr h'⟩
    · exact ⟨k', x, by rw [aG, if_neg hk]; exact e', h'⟩

theorem Rel.turnIn {x k : Str} {a b : Addr} {es : List (Str × EA)} {ds ds' : List D} {vs' : Array Value} {h' : Heap} {tk : Nat} (nf : ∀ y, C.sc.lookup y ≠ some .free) (R : Rel prog w rc C τ s) (e : τ.lookup x = some (.dct a es))
    (ek : es.lookup k = some (.own b ds)) (hs : Heap.SameBut b s.heap h') (hl : h'.PlainList b vs') (hz : vs'.size ≤ aF) (hr : RdAll rc s.heap (C.F τ) ds' vs'.toList) (hf : flatAll ds' = true) :
    Rel prog w rc C (aS x (.dct a (aS k (.own b ds') es)) τ) { s with heap := h', toks := tk } ∧ Step C τ s.heap (aS x (.dct a (aS k (.own b ds') es)) τ) h' := by
  have hasb : C.F τ b := .inr (.inr ⟨x, _, e, .inr ⟨k, _, ek, rfl⟩⟩)
  have ag : aU (C.F τ) s.heap h' := fun c o n eo => by rw [hs.2 c fun q => n (q ▸ hasb)]; exact eo
  have okd := R.ok x _ e
  have nab : a ≠ b := fun q => okd.1 k _ ek q
  refine R.turnAt nf e (p := b) (.inr ⟨k, _, ek, rfl⟩) hs.2 (fun c => ?_) rfl ⟨fun k' ea' e' => ?_, fun k1 k2 ea1 ea2 c e1 e2 h1 h2 => ?_⟩ (.list hl.isList) fun v r => ?_
  · show (c = a ∨ _) ↔ (c = a ∨ _)
    have := EA.has_ex (ea' := .own b ds') ek (fun Z => .rfl) c
    rw [this]
  · rw [aG] at e'
    by_cases hk : k' = k
    · rw [if_pos hk] at e'; obtain rfl := Option.some.inj e'; exact fun q => okd.1 k (.own b ds) ek q
    · rw [if_neg hk] at e'; exact okd.1 k' ea' e'
  · rw [aG] at e1 e2
    by_cases hk1 : k1 = k
    · by_cases hk2 : k2 = k
      · exact hk1.trans hk2.symm
      · rw [if_pos hk1] at e1; rw [if_neg hk2] at e2; obtain rfl := Option.some.inj e1
        exact hk1.trans (okd.2 k k2 (.own b ds) _ c ek e2 h1 h2)
    · rw [if_neg hk1] at e1
      by_cases hk2 : k2 = k
      · rw [if_pos hk2] at e2; obtain rfl := Option.some.inj e2
        exact (okd.2 k1 k _ (.own b ds) c e1 ek h1 h2).trans hk2.symm
      · rw [if_neg hk2] at e2; exact okd.2 k1 k2 _ _ c e1 e2 h1 h2
  · obtain ⟨rfl, kvs, hd, hlen, kk⟩ := r
    refine ⟨rfl, kvs, hd.sameBut hs nab, hlen, fun k' ea' e' => ?_⟩
    rw [aG] at e'
    by_cases hk : k' = k
    · rw [if_pos hk] at e'; obtain rfl := Option.some.inj e'; subst hk
      refine aA (kk k' _ ek) fun u h1 h2 => ?_
      exact ⟨u, h1, h2.1, vs', hl, hz, RdAll.step ag (.refl _ _) _ _ hr, hf⟩
    · rw [if_neg hk] at e'
      refine aA (kk k' ea' e') fun u h1 h2 => ?_
      refine ⟨u, h1, h2.step ag (.refl _ _) fun c hc o eo => ?_⟩
      rw [hs.2 c fun q => hk (okd.2 k' k _ _ b e' ek (q ▸ hc) rfl)]; exact eo

noncomputable def FrzA : EA → EA → Prop
  | .val d, .val d' => d' = d
  | .own a ds, .own a' ds' => a' = a ∧ ds' = ds
  | .own _ ds, .val d => d = .list ds
  | _, _ => False
noncomputable def Frz : AV → AV → Prop
  | .val d, .val d' => d' = d
  | .own a ds, .own a' ds' => a' = a ∧ ds' = ds
  | .own _ ds, .val d => d = .list ds
  | .dct a es, .dct a' es' => a' = a ∧ ∀ k ea', es'.lookup k = some ea' → ∃ ea, es.lookup k = some ea ∧ FrzA ea ea'
  | _, _ => False
theorem FrzA.has {b : Addr} : ∀ {ea ea' : EA}, FrzA ea ea' → ea'.has b → ea.has b
  | .val _, .val _, _, q => q
  | .own _ _, .own _ _, ⟨h, _⟩, q => by subst h; exact q
  | .own _ _, .val _, _, q => q.elim
theorem Frz.has {b : Addr} : ∀ {av av' : AV}, Frz av av' → av'.has b → av.has b
  | .val _, .val _, _, q => q
  | .own _ _, .own _ _, ⟨h, _⟩, q => by subst h; exact q
  | .own _ _, .val _, _, q => q.elim
  | .dct a es, .dct a' es', ⟨h, k⟩, q => by
    subst h
    rcases q with q | ⟨key, ea', e, hb⟩
    · exact .inl q
    · refine aA (k key ea' e) fun ea e1 f => ?_
      exact .inr ⟨key, ea, e1, f.has hb⟩
theorem Frz.refl : ∀ av : AV, Frz av av
  | .val _ => rfl
  | .own _ _ => ⟨rfl, rfl⟩
  | .dct _ es => ⟨rfl, fun Z ea e => ⟨ea, e, by cases ea with | val d => exact rfl | own a ds => exact ⟨rfl, rfl⟩⟩⟩

theorem Rel.recast {τ' : aQ} (R : Rel prog w rc C τ s) (hτ : ∀ x av', τ'.lookup x = some av' → ∃ av, τ.lookup x = some av ∧ Frz av av') : Rel prog w rc C τ' s := by
  have hV : ∀ b, bT τ' b → bT τ b := fun b ⟨x, av', e, q⟩ => let ⟨av, e1, f⟩ := hτ x av' e; ⟨x, av, e1, f.has q⟩
  have hF : ∀ b, C.F τ' b → C.F τ b := fun b q => q.imp id fun z => z.imp id (hV b)
  have hM : ∀ b, C.M τ' b → C.M τ b := fun b q => q.imp id (hV b)
  have tF : bu (C.F τ) s.heap (C.F τ') := bu.sub hF
  refine aA R.ns fun m hn hv => ?_
  refine ⟨R.world, R.base, R.gens, R.os, ⟨m, hn, fun x av' e => ?_⟩, R.cells, fun x y a1 a2 b e1 e2 h1 h2 => ?_, fun x av' e => ?_, fun b hb q => R.off b hb (hV b q), fun b q => R.live b (hF b q), fun b q => R.new b (hM b q), fun b hb q => R.off0 b hb (hM b q)⟩
  · refine aA (hτ x av' e) fun av e1 f => ?_
    refine aA (hv x av e1) fun v h1 h2 => ?_
    refine ⟨v, h1, ?_⟩
    have out : ∀ b, av.has b → ¬ av'.has b → ¬ C.F τ' b := fun b hb hb' q => by
      have hMb : C.M τ b := .inr ⟨x, av, e1, hb⟩
      rcases q with q | q | ⟨y, a2', e2, h2'⟩
      · exact R.off0 b q hMb
      · exact R.off b q ⟨x, av, e1, hb⟩
      · refine aA (hτ y a2' e2) fun a2 e3 f2 => ?_
        have := R.apart y x _ _ b e3 e1 (f2.has h2') hb
        subst this
        rw [e] at e2; obtain rfl := Option.some.inj e2; exact hb' h2'
    cases av with
    | val d => cases av' with
      | val d' => cases (f : d' = d); exact h2.step (aU.refl _ _) tF fun Z Z Z e => e
      | own _ _ => exact f.elim
      | dct _ _ => exact f.elim
    | own a ds => cases av' with
      | val d' =>
        cases (f : d' = .list ds)
        obtain ⟨rfl, vs, hl, hz, hr, _⟩ := h2
        show Rd _ _ _ _ _
        exact ⟨a, vs, rfl, hl.isList, out a rfl id, hz, RdAll.step (aU.refl _ _) tF _ _ hr⟩
      | own a' ds' => obtain ⟨rfl, rfl⟩ : a' = a ∧ ds' = ds := f; exact h2.step (aU.refl _ _) tF fun Z Z Z e => e
      | dct _ _ => exact f.elim
    | dct a es => cases av' with
      | val d' => exact f.elim
      | own _ _ => exact f.elim
      | dct a' es' =>
        obtain ⟨rfl, kf⟩ : a' = a ∧ _ := f
        obtain ⟨rfl, kvs, hd, hlen, kk⟩ := h2
        refine ⟨rfl, kvs, hd, hlen, fun k ea' ek' => ?_⟩
        obtain ⟨ea, ek, fa⟩ := kf k ea' ek'
        obtain ⟨u, hu, hr⟩ := kk k ea ek
        refine ⟨u, hu, ?_⟩
        cases ea with
        | val d => cases ea' with
          | val d' => cases (fa : d' = d); exact hr.step (aU.refl _ _) tF fun Z Z Z e => e
          | own _ _ => exact fa.elim
        | own c ds => cases ea' with
          | own c' ds' => obtain ⟨rfl, rfl⟩ : c' = c ∧ ds' = ds := fa; exact hr.step (aU.refl _ _) tF fun Z Z Z e => e
          | val d' =>
            cases (fa : d' = .list ds)
            obtain ⟨rfl, vs, hl, hz, hr', _⟩ := hr
            show Rd _ _ _ _ _
            have okd := R.ok x _ e1
            refine ⟨c, vs, rfl, hl.isList, out c (.inr ⟨k, _, ek, rfl⟩) ?_, hz, RdAll.step (aU.refl _ _) tF _ _ hr'⟩
            rintro (q | ⟨k2, ea2', ek2', h2'⟩)
            · exact okd.1 k _ ek q.symm
            · obtain ⟨ea2, ek2, fa2⟩ := kf k2 ea2' ek2'
              have := okd.2 k k2 _ _ c ek ek2 rfl (fa2.has h2')
              subst this
              rw [ek'] at ek2'; obtain rfl := Option.some.inj ek2'; exact h2'
  · obtain ⟨b1, e1', f1⟩ := hτ x a1 e1
    obtain ⟨b2, e2', f2⟩ := hτ y a2 e2
    exact R.apart x y b1 b2 b e1' e2' (f1.has h1) (f2.has h2)
  · obtain ⟨av, e1, f⟩ := hτ x av' e
    have := R.ok x av e1
    cases av with
    | val _ => cases av' with
      | val _ => trivial
      | own _ _ => trivial
      | dct _ _ => exact f.elim
    | own _ _ => cases av' with
      | val _ => trivial
      | own _ _ => trivial
      | dct _ _ => exact f.elim
    | dct a es => cases av' with
      | val _ => trivial
      | own _ _ => trivial
      | dct a' es' =>
        obtain ⟨rfl, kf⟩ : a' = a ∧ _ := f
        refine ⟨fun k ea' ek' q => ?_, fun k k2 ea' ea2' b ek' ek2' h1 h2 => ?_⟩
        · obtain ⟨ea, ek, fa⟩ := kf k ea' ek'
          exact this.1 k ea ek (fa.has q)
        · obtain ⟨ea, ek, fa⟩ := kf k ea' ek'
          obtain ⟨ea2, ek2, fa2⟩ := kf k2 ea2' ek2'
          exact this.2 k k2 ea ea2 b ek ek2 (fa.has h1) (fa2.has h2)

noncomputable def frzA : EA → EA
  | .val d => .val d
  | .own _ ds => .val (.list ds)
noncomputable def frzV : AV → AV
  | .val d => .val d
  | .own _ ds => .val (.list ds)
  | .dct a es => .dct a (es.map fun x => (x.1, frzA x.2))
noncomputable def frzAll (τ : aQ) : aQ := τ.map fun x => (x.1, frzV x.2)
theorem zF : ∀ av : AV, (frzV av).er = pE av.er
  | .val _ => rfl
  | .own _ _ => rfl
  | .dct _ es => by
    have : ∀ l : List (Str × EA), erD (l.map fun x => (x.1, frzA x.2)) = (erD l).map fun x => (x.1, frE x.2) := by
      intro l
      induction l with
      | nil => rfl
      | cons x r ih =>
        obtain ⟨k, ea⟩ := x
        unfold erD at ih ⊢
        rw [List.map_cons, List.filterMap_cons, List.filterMap_cons]
        cases pos bZ k 0 with
        | none => exact ih
        | some i =>
          simp only [Option.map_some, List.map_cons, ih]
          cases ea <;> rfl
    show LV.dct _ = LV.dct _
    rw [this]
theorem vD (ns : List Str) (τ : aQ) : aV ns (frzAll τ) = frz (aV ns τ) := by
  funext i
  show _ = (aV ns τ i).map pE
  unfold aV frzAll
  cases nth ns i with
  | none => rfl
  | some x =>
    rw [Option.bind_some, Option.bind_some, cG]
    cases mB ns x i with
    | false => rfl
    | true =>
      rw [cond_true, cond_true, Option.map_map, Option.map_map]
      congr 1
      funext av
      exact zF av
theorem Rel.frzAll (R : Rel prog w rc C τ s) : Rel prog w rc C (frzAll τ) s := by
  refine R.recast fun x av' e => ?_
  unfold Mine.frzAll at e
  rw [cG] at e
  refine aA (Option.map_eq_some_iff.mp e) fun av e1 e2_ => ?_; obtain rfl := e2_
  refine ⟨av, e1, ?_⟩
  cases av with
  | val d => exact rfl
  | own a ds => exact rfl
  | dct a es =>
    refine ⟨rfl, fun k ea' e' => ?_⟩
    rw [cG] at e'
    refine aA (Option.map_eq_some_iff.mp e') fun ea e2 e2_ => ?_; obtain rfl := e2_
    exact ⟨ea, e2, by cases ea <;> exact rfl⟩
theorem qd {b : Addr} (q : bT (Mine.frzAll τ) b) : bT τ b := by
  refine bY q fun x av' e hb => ?_; try clear q
  unfold Mine.frzAll at e
  rw [cG] at e
  refine aA (Option.map_eq_some_iff.mp e) fun av e1 e2_ => ?_; obtain rfl := e2_
  refine ⟨x, av, e1, ?_⟩
  cases av with
  | val d => exact hb
  | own a ds => exact hb.elim
  | dct a es =>
    rcases hb with hb | ⟨k, ea', e', h'⟩
    · exact .inl hb
    · rw [cG] at e'
      refine aA (Option.map_eq_some_iff.mp e') fun ea e2 e2_ => ?_; obtain rfl := e2_
      cases ea with
      | val d => exact h'.elim
      | own c ds => exact h'.elim
end
end Mine
namespace Mine
open PySem PySem.Calls PyProof.Rows

structure Room (A : Around) (n : Nat) : Prop where
  hd : A.handled = none
  depth : A.depth + n + 200 < recursionLimit
  units : A.units + 8 * n + 300 < cLine
theorem Room.deeper {A : Around} {n : Nat} {env : Env} (r : Room A (n + 1)) : Room (A.deeper env) n := ⟨r.hd, by have := r.depth; show A.depth + 1 + n + 200 < _; (lia -abstractProof), by have := r.units; show A.units + 3 + 8 * n + 300 < _; (lia -abstractProof)⟩
theorem Room.less {A : Around} {n m : Nat} (r : Room A n) (h : m ≤ n) : Room A m := ⟨r.hd, by have := r.depth; (lia -abstractProof), by have := r.units; (lia -abstractProof)⟩

structure Fra (prog : Program) (A : Around) : Prop where
  tree : prog.given.tree = none
  fr : ∃ env outer, A.frames = some (env :: outer) ∧ env.scope.isGenerator = false ∧ env.scope.isCoroutine = false ∧ env.builtins = builtinsNs ∧ env.globals = mainGlobals
theorem Fra.seer {prog : Program} {w : World} {A : Around} (f : Fra prog A) {h : Heap} (ns : h.NoSeer) : SeerAt (model prog w) A h := by
  refine cW f.fr fun env outer e h1 h2 h3 h4 => ?_
  exact SeerAt.of ns f.tree e h1 h2 h3 h4
structure Gr (s s' : Shared) : Prop where
  grow : bD s.heap s'.heap
  gens : s'.gens = s.gens
  os : s'.os = s.os
theorem Gr.refl (s : Shared) : Gr s s := ⟨.refl _, rfl, rfl⟩
theorem Gr.trans {a b c : Shared} (x : Gr a b) (y : Gr b c) : Gr a c := ⟨x.grow.trans y.grow, y.gens.trans x.gens, y.os.trans x.os⟩
theorem Gr.toks (s : Shared) (t : Nat) : Gr s { s with toks := t } := ⟨.refl _, rfl, rfl⟩
theorem Gr.push (s : Shared) (o : Obj) (t : Nat) : Gr s { s with heap := s.heap.push o, toks := t } := ⟨.push o, rfl, rfl⟩
noncomputable def Rl (rc : Addr) (h : Heap) (F : aR) : D → Value → Prop
  | .list ds, v => ∃ a vs, v = .ref a ∧ h.IsList a vs ∧ vs.size ≤ aF ∧ RdAll rc h F ds vs.toList
  | d, v => Rd rc h F d v
theorem Rd.rl {rc : Addr} {h : Heap} {F : aR} : ∀ {d : D} {v : Value}, Rd rc h F d v → Rl rc h F d v
  | .list ds, v, r => by refine cW r fun a vs e hl Z hz hr => ?_; exact ⟨a, vs, e, hl, hz, hr⟩
  | .none, _, r | .bool _, _, r | .int _, _, r | .str _, _, r | .tuple _, _, r | .dict _, _, r => r
theorem Rl.free {rc : Addr} {h : Heap} {F : aR} : ∀ {d : D} {v : Value}, Rl rc h F d v → Rd rc h gR d v
  | .list ds, v, r => by refine dw r fun a vs e hl hz hr => ?_; exact ⟨a, vs, e, hl, id, hz, hr.less fun Z q => q.elim⟩
  | .none, _, r | .bool _, _, r | .int _, _, r | .str _, _, r | .tuple _, _, r | .dict _, _, r => Rd.less (F := F) r fun Z q => q.elim
theorem Rl.grow {rc : Addr} {h h' : Heap} {F : aR} (k : bD h h') : ∀ {d : D} {v : Value}, Rl rc h F d v → Rl rc h' F d v
  | .list ds, v, r => by refine dw r fun a vs e z3_ hz hr => ?_; obtain ⟨o, ho, x⟩ := z3_; exact ⟨a, vs, e, ⟨o, k _ _ ho, x⟩, hz, hr.grow k⟩
  | .none, _, r | .bool _, _, r | .int _, _, r | .str _, _, r | .tuple _, _, r | .dict _, _, r => Rd.grow (F := F) r k

noncomputable abbrev Bad : Value → Shared → Prop := fun Z Z => False

section
variable {prog : Program} {w : World} {A : Around} {E : Value → Shared → Prop} {s : Shared} {rc : Addr} {F : aR}

theorem bw {d : Int} {v : Value} {h : Heap} (r : Rd rc h F (.int d) v) : ∃ t, v = .int d t := by exact r
theorem yQ {d : Bool} {v : Value} {h : Heap} (r : Rd rc h F (.bool d) v) : v = .bool d := by exact r
theorem fP {d : Int} {v : Value} {h : Heap} (r : Rl rc h F (.int d) v) : ∃ t, v = .int d t := bw (rc := rc) (h := h) (F := F) r
theorem yL {d : Bool} {v : Value} {h : Heap} (r : Rl rc h F (.bool d) v) : v = .bool d := yQ (rc := rc) (h := h) (F := F) r
theorem au {d : Int} {t : Tok} {h : Heap} : Rd rc h F (.int d) (.int d t) := by exact ⟨t, rfl⟩
theorem dt {d : Bool} {h : Heap} : Rd rc h F (.bool d) (.bool d) := by rfl
theorem rX {h : Heap} : Rd rc h F .none .none := by rfl

theorem fQ {h h₀ : Heap} {ds : List D} {vs : List Value} (k : bD h₀ h) (nt : ∀ b, F b → NT h₀ b) (hz : vs.length ≤ aF) (r : RdAll rc h F ds vs) (o : Obj) (ho : o = { cls := .type "list", data := .seq vs.toArray }) (n : Addr) (hn : n = h.objs.size) :
    Rd rc (h.push o) F (.list ds) (.ref n) := by
  subst hn ho
  refine ⟨_, vs.toArray, rfl, ⟨_, Heap.get?_push_size _ rfl, rfl, _, rfl⟩, fun q => ?_, by simpa using hz, r.grow (.push _)⟩
  refine aA (nt _ q) fun o e Z => ?_
  exact Nat.lt_irrefl _ (Heap.lt_size (k _ _ e))
theorem eE {h h₀ : Heap} {ds : List D} {vs : List Value} (k : bD h₀ h) (nt : ∀ b, F b → NT h₀ b) (hz : vs.length ≤ aF) (r : RdAll rc h F ds vs) (o : Obj) (ho : o = { cls := .type "tuple", data := .seq vs.toArray }) (n : Addr) (hn : n = h.objs.size) :
    Rd rc (h.push o) F (.tuple ds) (.ref n) := by
  subst hn ho
  refine ⟨_, vs.toArray, rfl, ⟨_, Heap.get?_push_size _ rfl, rfl, _, rfl⟩, fun q => ?_, by simpa using hz, r.grow (.push _)⟩
  refine aA (nt _ q) fun o e Z => ?_
  exact Nat.lt_irrefl _ (Heap.lt_size (k _ _ e))

theorem aa : aF ≤ sizeLine := by decide

theorem wI {i j : Int} (h : ly i j = true) : IntMulOk i j := by
  unfold ly at h
  simp only [Bool.and_eq_true, decide_eq_true_eq] at h
  refine IntMulOk.of_left ?_
  unfold Builtin.Int.intBits
  split
  · exact Nat.zero_le _
  · have : i.natAbs.log2 < 60 := by
      by_cases h0 : i.natAbs = 0
      · rw [h0]; decide
      · exact (Nat.log2_lt h0).mpr h.1
    exact nle (by assumption) (by decide)

theorem xe (nl : s.heap.NoLimit) (ns : s.heap.NoSeer) (fr : Fra prog A) {n : Nat} (room : Room A n) {Q : Value → Shared → Prop} {op : Operator} {i j : Int} {t u : Tok} (h : Ok (xf op i j) fun r => ∀ t s', Gr s s' → Q (.int r t) s') : wpAny (model prog w) A (binaryOp op (.int i t) (.int j u)) Q E s := by
  cases op with
  | Add => exact P.add_int (h _ _ (.toks _ _))
  | Sub => exact P.sub_int (h _ _ (.toks _ _))
  | Mult =>
    replace h : Ok (if ly i j then some (i * j) else none) _ := h
    split at h
    · rename_i hm; exact P.mul_int (h _ _ (.toks _ _)) (wI hm)
    · exact False.elim h
  | FloorDiv =>
    replace h : Ok (if j = 0 then none else some (i.fdiv j)) _ := h
    split at h
    · exact False.elim h
    · rename_i hj
      exact floordiv_int hj (h _ _ (.toks _ _)) (.inr (PylongRoom.of nl (by have := room.depth; show A.depth + Builtin.pylongFrames < _; unfold Builtin.pylongFrames; lia) (fr.seer ns)))
  | Mod =>
    replace h : Ok (if j = 0 then none else some (i.fmod j)) _ := h
    split at h
    · exact False.elim h
    · rename_i hj; exact mod_int' hj (h _ _ (.toks _ _))
  | _ => exact False.elim h
theorem tR {xs ys : List D} {x y : Value} {Q : Value → Shared → Prop} (hz : xs.length + ys.length ≤ aF) (ra : Rl rc s.heap F (.list xs) x) (rb : Rl rc s.heap F (.list ys) y)
    (h : ∀ c vs s', s.heap.get? c = none → s'.heap.PlainList c vs → vs.size ≤ aF → RdAll rc s'.heap F (xs ++ ys) vs.toList → Gr s s' → Q (.ref c) s') : wpAny (model prog w) A (binaryOp .Add x y) Q E s := by
  refine dw ra fun l vs e2_ hl hz1 r1 => ?_; obtain rfl := e2_; try clear ra
  refine dw rb fun b ws e2_ hb hz2 r2 => ?_; obtain rfl := e2_; try clear rb
  obtain ⟨⟨cls, dd, data, sl⟩, ho, hc, n, hd⟩ := id hl
  obtain ⟨⟨cls2, dd2, data2, sl2⟩, ho2, hc2, n2, hd2⟩ := id hb
  simp only at hc hd hc2 hd2
  subst hc hd hc2 hd2
  have l1 := r1.len
  have l2 := r2.len
  refine concat_meets ⟨_, ho, rfl⟩ ⟨_, ho2, rfl⟩ noFill_list_add seq_list_add PySem.F.slot_list_add PySem.F.entry_list_add (PySem.F.args_list_add_2 _ _)
    (list_addW l b vs ws n n2 dd dd2 sl sl2 (by have := aa; simp at l1 l2; (lia -abstractProof))) ⟨ho, ho2, ?_⟩
  refine h _ _ _ (Heap.get?_none_of_le (Nat.le_refl _)) ⟨_, Heap.get?_push_size _ rfl⟩ (by simp at l1 l2 ⊢; (lia -abstractProof)) ?_ (.push _ _ _)
  exact RdAll.grow (by simpa using r1.append r2) (.push _)
theorem vr {h h' : Heap} {c : Addr} {vs : Array Value} {ds : List D} (nt : ∀ b, F b → NT h b) (n : h.get? c = none) (p : h'.PlainList c vs) (hz : vs.size ≤ aF) (r : RdAll rc h' F ds vs.toList) : Rd rc h' F (.list ds) (.ref c) := by
  refine ⟨c, vs, rfl, p.isList, fun q => ?_, hz, r⟩
  refine aA (nt _ q) fun o e Z => ?_
  rw [n] at e; exact nS e
theorem xV (nl : s.heap.NoLimit) (ns : s.heap.NoSeer) (fr : Fra prog A) {n : Nat} (room : Room A n) (nt : ∀ b, F b → NT s.heap b) {op : Operator} {a b : D} {x y : Value} {Q : Value → Shared → Prop} (h : Ok (ux op a b) fun d => ∀ v s', Rd rc s'.heap F d v → Gr s s' → Q v s') (ra : Rl rc s.heap F a x) (rb : Rl rc s.heap F b y) :
    wpAny (model prog w) A (binaryOp op x y) Q E s := by
  cases a with
  | int i => cases b with
    | int j =>
      obtain ⟨t, rfl⟩ := fP ra
      obtain ⟨u, rfl⟩ := fP rb
      exact xe nl ns fr room (Ok.mono (aq.mp h) fun r k t s' g => k _ _ au g)
    | _ => exact False.elim h
  | list xs => cases b with
    | list ys =>
      replace h : Ok (joinD op xs ys) _ := h
      cases op with
      | Add =>
        replace h : Ok (if xs.length + ys.length ≤ aF then some (PyData.list (xs ++ ys)) else none) _ := h
        by_cases hz : xs.length + ys.length ≤ aF
        · rw [if_pos hz] at h
          exact tR hz ra rb fun c vs s' h1 h2 h3 h4 g => h _ _ (vr nt h1 h2 h3 h4) g
        · rw [if_neg hz] at h
          exact False.elim h
      | _ => exact False.elim h
    | _ => exact False.elim h
  | _ => exact False.elim h

theorem oE {α : Type} (x : α) : ∀ (k : Nat) (acc : Array α), List.foldl (fun x1 x2 => x1 ++ x2) acc (List.replicate k #[x]) = acc ++ (List.replicate k x).toArray
  | 0, acc => by simp
  | k + 1, acc => by
    rw [List.replicate_succ, List.foldl_cons, oE x k, List.replicate_succ]
    apply Array.toList_inj.mp
    simp

theorem uO {a b d : D} (e : yN a b = some d) : ∃ k, b = .int k ∧ (k ≤ 1000 ∧ -1000 ≤ k) ∧ .list (List.replicate k.toNat a) = d := by
  cases b with
  | int k => exact ⟨k, rfl, cJ e⟩
  | _ => exact nS e
theorem uN {k : Nat} {a d b : D} {l : Addr} {v y : Value} (e : yN a b = some d) (hl : s.heap.get? l = some { cls := .type "list", data := .seq #[v] k }) (nt : ∀ b, F b → NT s.heap b) (ra : Rd rc s.heap F a v) (rb : Rd rc s.heap F b y) :
    wpAny (model prog w) A (binaryOp .Mult (.ref l) y) (fun v s' => Rd rc s'.heap F d v ∧ Gr s s') E s := by
  refine cg (uO e) fun x e1_ hk e2_ => ?_; obtain rfl := e1_; obtain rfl := e2_; clear e
  · · obtain ⟨u, rfl⟩ := bw rb
      have hz : x.toNat ≤ 1000 := by (lia -abstractProof)
      refine wpAny_binaryOp_repeat_ref (T := "list") (U := "int") (by decide) ⟨_, hl, rfl⟩ (fun s' => typeIs_int s' x u) noFill_list_mul PySem.F.fills_int_mul PySem.F.slot_int_rmul repeat_list PySem.F.slot_int_index.lookup
        (call_meets PySem.F.slot_int_rmul (typeIs_int s x u) PySem.F.entry_int_rmul (PySem.F.args_int_rmul_2 _ _) (int___rmul___int_list x u l #[v] k)
          ⟨hl, rfl, ⟨_, hl, rfl⟩, call_meets PySem.F.slot_list_mul ⟨_, hl, rfl⟩ PySem.F.entry_list_mul (PySem.F.args_list_mul_2 _ _)
            (AutoListH.list___mul___list_int_3 l #[v] k x u (by simp [Builtin.List.listFitsIndex]; (lia -abstractProof)) (by have h1 : (#[v] : Array Value).size = 1 := rfl; rw [h1]; (lia -abstractProof)) (by have h1 : (#[v] : Array Value).size = 1 := rfl; simp [Builtin.List.listTooLong, sizeLine]; (lia -abstractProof)))
            ⟨hl, ?_⟩⟩)
      have ee : List.foldl (fun x1 x2 => x1 ++ x2) #[] (List.replicate (if (#[v] : Array Value).isEmpty = true then 0 else x.toNat) #[v]) = (List.replicate x.toNat v).toArray := by
        rw [if_neg (by simp), oE]; simp
      exact ⟨fQ (.refl _) nt (by rw [List.length_replicate]; exact Nat.le_trans hz (by decide)) (.replicate ra _) _ (by rw [← ee]) _ rfl, .push _ _ _⟩

theorem tO {xs : List D} (h : SeqAt.shaped (.list xs) = true) : PyData.canLayAll0 xs = true := by
  have := SeqAt.canLay_of_shaped h
  rwa [PyData.canLay0] at this
theorem qS {xs : List D} (h : SeqAt.shaped (.tuple xs) = true) : PyData.canLayAll0 xs = true := by
  have := SeqAt.canLay_of_shaped h
  rwa [PyData.canLay0] at this

theorem lJ {n : Nat} (room : Room A n) {xs : List D} {d : D} (hd : SeqAt.shaped d = true) : A.units + 1 + min (PyData.depthAll xs) d.depth < cLine := by
  have h1 := SeqAt.depth_of_shaped hd
  have := room.units
  (lia -abstractProof)

theorem ua {op : CmpOp} {a b : D} {c : Bool} (e : (match a, b with
    | .int i, .int j => zX op i j
    | _, _ => none) = some c) : ∃ i j, a = .int i ∧ b = .int j ∧ zX op i j = some c := by
  cases a with
  | int i => cases b with
    | int j => exact ⟨i, j, rfl, rfl, e⟩
    | _ => exact nS e
  | _ => exact nS e
theorem qp {op : CmpOp} {a b : D} {c : Bool} {x y : Value} (e : (match a, b with
    | .int i, .int j => zX op i j
    | _, _ => none) = some c) (ra : Rl rc s.heap F a x) (rb : Rl rc s.heap F b y) : wpAny (model prog w) A (compareOp op x y) (fun v s' => v = .bool c ∧ Gr s s') E s := by
  obtain ⟨i, j, rfl, rfl, e⟩ := ua e
  obtain ⟨t, rfl⟩ := fP ra
  obtain ⟨u, rfl⟩ := fP rb
  cases op with
  | Lt => exact P.lt_int ⟨congrArg _ (Option.some.inj e), .refl _⟩
  | LtE => exact P.le_int ⟨congrArg _ (Option.some.inj e), .refl _⟩
  | Gt => exact P.gt_int ⟨congrArg _ (Option.some.inj e), .refl _⟩
  | GtE => exact P.ge_int ⟨congrArg _ (Option.some.inj e), .refl _⟩
  | _ => exact nS e
theorem ur {n : Nat} (room : Room A n) {op : CmpOp} {a b : D} {c : Bool} {x y : Value} (e : be op a b = some c) (ra : Rl rc s.heap F a x) (rb : Rl rc s.heap F b y) :
    wpAny (model prog w) A (compareOp op x y) (fun v s' => v = .bool c ∧ Gr s s') E s := by
  have hu : A.units + 64 < cLine := by have := room.units; lia
  by_cases hs : qH a b = true
  · have hs' := hs
    unfold qH at hs'
    rw [Bool.and_eq_true] at hs'
    obtain ⟨as, qa⟩ := Rd.reads _ _ (SeqAt.canLay_of_shaped hs'.1) ra.free
    obtain ⟨bs, qb⟩ := Rd.reads _ _ (SeqAt.canLay_of_shaped hs'.2) rb.free
    cases op with
    | Eq =>
      obtain rfl := (cJ e).2
      exact SeqAt.compareEq_shaped qa qb hs'.1 hs'.2 hu ⟨rfl, .refl _⟩
    | NotEq =>
      obtain rfl := (cJ e).2
      exact SeqAt.compareNe_shaped qa qb hs'.1 hs'.2 hu ⟨rfl, .refl _⟩
    | In =>
      replace e := (j2 e).2
      cases b with
      | list xs => obtain rfl := Option.some.inj e; exact SeqAt.in_list_reads qb qa (tO hs'.2) (SeqAt.canLay_of_shaped hs'.1) (lJ room hs'.1) ⟨rfl, .refl _⟩
      | tuple xs => obtain rfl := Option.some.inj e; exact SeqAt.in_tuple_reads qb qa (qS hs'.2) (SeqAt.canLay_of_shaped hs'.1) (lJ room hs'.1) ⟨rfl, .refl _⟩
      | _ => exact nS e
    | NotIn =>
      replace e := (j2 e).2
      cases b with
      | list xs => obtain rfl := Option.some.inj e; exact SeqAt.notIn_list_reads qb qa (tO hs'.2) (SeqAt.canLay_of_shaped hs'.1) (lJ room hs'.1) ⟨rfl, .refl _⟩
      | tuple xs => obtain rfl := Option.some.inj e; exact SeqAt.notIn_tuple_reads qb qa (qS hs'.2) (SeqAt.canLay_of_shaped hs'.1) (lJ room hs'.1) ⟨rfl, .refl _⟩
      | _ => exact nS e
    | _ => exact qp e ra rb
  · cases op with
    | Eq => exact absurd (cJ e).1 hs
    | NotEq => exact absurd (cJ e).1 hs
    | In => exact absurd (j2 e).1 hs
    | NotIn => exact absurd (j2 e).1 hs
    | _ => exact qp e ra rb

theorem pc {a : D} {c : Bool} {x : Value} (e : c7 a = some c) (ra : Rl rc s.heap F a x) :
    wpAny (model prog w) A (truthy x) (fun v s' => v = c ∧ Gr s s') E s := by
  cases a with
  | bool b =>
    obtain rfl := Option.some.inj e
    obtain rfl := yL ra
    exact wpAny_truthy_bool ⟨rfl, .refl _⟩
  | int i =>
    obtain rfl := Option.some.inj e
    obtain ⟨t, rfl⟩ := fP ra
    exact P.truthy_int ⟨rfl, .refl _⟩
  | list xs =>
    obtain rfl := Option.some.inj e
    refine dw ra fun l vs e2_ hl hz r => ?_; obtain rfl := e2_; try clear ra
    have hlen := r.len
    refine wpAny_truthy_list hl (by have : aF = 1000000 := rfl; (lia -abstractProof)) ⟨?_, .toks _ _⟩
    cases xs with
    | nil => have r : vs.toList = [] := r; have : vs = #[] := by simpa using r
             subst this; rfl
    | cons d ds =>
      refine bY r fun v w' h Z => ?_; try clear r
      have : vs.isEmpty = false := by
        cases hv : vs.isEmpty with
        | false => rfl
        | true => rw [Array.isEmpty_iff] at hv; subst hv; simp at h
      rw [this]; rfl
  | _ => exact nS e

theorem ub {a k d : D} (e : gT a k = some d) : ∃ (xs : List D) (i : Int), (a = .list xs ∨ a = .tuple xs) ∧ k = .int i ∧ (0 ≤ i ∧ i < aj) ∧ xs[i.toNat]? = some d := by
  cases a with
  | list xs => cases k with
    | int i => exact ⟨xs, i, .inl rfl, rfl, j2 e⟩
    | _ => exact nS e
  | tuple xs => cases k with
    | int i => exact ⟨xs, i, .inr rfl, rfl, j2 e⟩
    | _ => exact nS e
  | _ => exact nS e
theorem oB {a k d : D} {x y : Value} (e : gT a k = some d) (ra : Rl rc s.heap F a x) (rk : Rd rc s.heap F k y) :
    wpAny (model prog w) A (getItem x y) (fun v s' => Rd rc s'.heap F d v ∧ Gr s s') E s := by
  refine dw (ub e) fun xs i hi ek hb e3 => ?_; obtain rfl := ek
  rcases hi with rfl | rfl
  · · refine dw ra fun l vs e2_ hl hz r => ?_; obtain rfl := e2_; try clear ra
      obtain ⟨t, rfl⟩ := bw rk
      refine aA (r.get e3) fun v hv rv => ?_
      exact wpAny_getItem_list hl hb.1 (by have := hb.2; unfold aj at this; exact ile (by assumption) (by decide)) (by simpa using hv) ⟨rv, .refl _⟩
  · · obtain ⟨t, rfl⟩ := bw rk
      have ra' : Rd rc s.heap F (.tuple xs) x := ra
      refine cW ra' fun l vs e2_ hl Z hz r => ?_; obtain rfl := e2_
      refine aA (r.get e3) fun v hv rv => ?_
      have hlt : i.toNat < vs.size := by
        have := (List.getElem?_eq_some_iff.mp hv).1
        simpa using this
      refine getItem_tuple hl (by have := hb.1; exact ige (by assumption) (by decide)) (by have := hb.2; unfold aj at this; exact ile (by assumption) (by decide)) (j := i.toNat) ?_ (by simpa using hv) ⟨rv, .refl _⟩
      unfold seqIndex?
      have h1 : ¬ (i < 0) := by lia
      have h2 : ¬ (i ≥ vs.size) := by lia
      simp [h1, h2] <;> lia

theorem ml (vs : Array Value) (lo hi : Option Int) : slicePick vs lo hi none = (db lo hi vs.toList).toArray := by
  have e : sliceBounds lo hi none vs.size = (((match lo with | some x => bz vs.toList.length x | none => 0 : Nat) : Int), ((match hi with | some x => bz vs.toList.length x | none => vs.toList.length : Nat) : Int), 1) := by
    unfold sliceBounds
    simp only [Option.getD_none, show (1 : Int) > 0 by decide, if_true, Array.length_toList]
    have key : ∀ x : Int, max 0 (min (if x < 0 then x + (vs.size : Int) else x) (vs.size : Int)) = ((min (bz vs.size x) vs.size : Nat) : Int) := by
      intro x; unfold bz; split <;> (lia -abstractProof)
    have key2 : ∀ x : Int, min (bz vs.size x) vs.size = bz vs.size x := by intro x; unfold bz; split <;> (lia -abstractProof)
    cases lo <;> cases hi <;> simp only [key, key2] <;> rfl
  unfold slicePick db
  rw [e]
  simp only
  rw [sliceRange_one, pick_run] <;> rfl


theorem si (a b n : Nat) (ha : a ≤ b) (hb : b ≤ n) : Builtin.Slice.sliceAdjust (some (a : Int)) (some (b : Int)) 1 (n : Int) = ((a : Int), (b : Int)) := by
  unfold Builtin.Slice.sliceAdjust
  have h1 : ¬ ((1 : Int) < 0) := by decide
  have h2 : ¬ ((a : Int) < 0) := Int.not_lt.mpr (Int.natCast_nonneg a)
  have h3 : ¬ ((b : Int) < 0) := Int.not_lt.mpr (Int.natCast_nonneg b)
  simp only [h1, h2, h3, if_false]
  congr 1 <;> lia
theorem rg (a b : Nat) (ha : a ≤ b) : Builtin.Slice.slicePlaces (a : Int) (b : Int) 1 = b - a := by
  unfold Builtin.Slice.slicePlaces
  have h1 : (1 : Int) > 0 := by decide
  simp only [h1, if_true, Int.ediv_one]
  split <;> lia
theorem jr {sl : Addr} {a b n : Nat} {u u' : Tok} {Q : Int × Int × Nat → Shared → Prop} (hs : s.heap.IsSliceOf sl (.int a u) (.int b u') .none) (ha : a ≤ b) (hb : b ≤ n) (h : Q ((a : Int), 1, b - a) s) :
    wpAny (model prog w) A (Builtin.Slice.sliceApplied (.ref sl) (pure (n : Int))) Q E s := by
  refine cg (id hs) fun os hos hcs hds => ?_
  unfold Builtin.Slice.sliceApplied Builtin.Slice.sliceFields
  refine wpAny_bind (wpAny_bind (wpAny_field hos hds (x := .int a u) rfl (wpAny_bind (wpAny_field hos hds (x := .int b u') rfl (wpAny_bind (wpAny_field hos hds (x := .none) rfl (wpAny_pure ?_)))))))
  refine wpAny_bind (slicePart_none ?_)
  show wpAny _ _ (if ((1 : Int) == 0) = true then _ else _) _ _ s
  rw [if_neg (by decide)]
  refine wpAny_bind (slicePart_int (wpAny_bind (slicePart_int (wpAny_bind (wpAny_pure ?_)))))
  show wpAny _ _ (match Builtin.Slice.sliceAdjust (some (a : Int)) (some (b : Int)) 1 (n : Int) with | (lo, hi) => pure (lo, (1 : Int), Builtin.Slice.slicePlaces lo hi 1)) _ _ s
  rw [si a b n ha hb]
  show wpAny _ _ (pure ((a : Int), (1 : Int), Builtin.Slice.slicePlaces (a : Int) (b : Int) 1)) _ _ s
  rw [rg a b ha]
  exact wpAny_pure h
theorem vy (xs : Array Value) (a k : Nat) : ((List.range k).filterMap fun (k : Nat) => xs[((a : Int) + (k : Int) * 1).toNat]?).toArray = ((xs.toList.drop a).take k).toArray := by
  have e : (fun (k : Nat) => xs[((a : Int) + (k : Int) * 1).toNat]?) = fun k => xs[a + k]? := by
    funext k
    have : ((a : Int) + (k : Int) * 1).toNat = a + k := by (lia -abstractProof)
    rw [this]
  rw [e]
  have := pick_run xs a k
  rw [List.filterMap_map] at this
  have e2 : ((fun x => xs[x]?) ∘ fun x => a + x) = fun k => xs[a + k]? := rfl
  rw [e2] at this
  rw [this]
theorem jO {t sl : Addr} {items : Array Value} {a b : Nat} {u u' : Tok} {Q : Value → Shared → Prop} (ht : IsTup s.heap t items) (hs : s.heap.IsSliceOf sl (.int a u) (.int b u') .none) (h1 : 1 ≤ a) (ha : a ≤ b) (hb : b ≤ items.size)
    (h : Q (.ref s.heap.objs.size) { s with heap := s.heap.push { cls := .type "tuple", data := .seq ((items.toList.drop a).take (b - a)).toArray } })
    (hsz : items.size ≤ sizeLine) : wpAny (model prog w) A (getItem (.ref t) (.ref sl)) Q E s := by
  have hdrop : sizeOk (.seq ((items.toList.drop a).take (b - a)).toArray) := by
    show ((items.toList.drop a).take (b - a)).toArray.size ≤ sizeLine
    rw [List.size_toArray, List.length_take, List.length_drop, Array.length_toList]
    (lia -abstractProof)
  refine cg (id hs) fun os hos hcs hds => ?_
  have hTs : s.TypeIs (.ref sl) "slice" := ⟨os, hos, hcs⟩
  unfold getItem
  try with_reducible refine wpAny_holding ?_
  first | refine wpAny_bind (wpAny_pure ?_) | skip
  refine wpAny_bind (wpAny_sequenceKey ht.typeIs (by decide) ?_)
  refine wpAny_bind (wpAny_callSpecial?_slot (name := Str.ofString "__getitem__") ht.typeIs slot_tuple_getitem
    (wpAny_call_entry slot_tuple_getitem ht.typeIs entry_tuple_getitem ?_ (args_tuple_getitem _ _)))
  show wpAny _ _ (Builtin.Tuple.tupleItemsOf (.ref t) >>= _) _ _ s
  refine wpAny_bind (tupleItemsOf_ ht ?_)
  refine wpAny_bind (wpAny_typeOf hTs ?_)
  rw [if_pos (by decide)]
  refine wpAny_bind (jr hs ha hb ?_)
  have hno : ¬ (((a : Int) == 0 && (1 : Int) == 1 && (b - a) == items.size) = true) := by
    have : ((a : Int) == 0) = false := by rw [beq_eq_false_iff_ne]; exact qY (by assumption)
    rw [this]; simp
  show wpAny _ _ (if ((a : Int) == 0 && (1 : Int) == 1 && (b - a) == items.size) = true then _ else _) _ _ s
  rw [if_neg hno, vy items a (b - a)]
  first
    | exact wpAny_bind (m := Builtin.Tuple.tupleExact _) (wpAny_newObj_type (wpAny_pure ⟨_, rfl, wpAny_pure h⟩) hdrop)
    | exact wpAny_bind (m := Builtin.Tuple.tupleExact _) (wpAny_newObj_type (wpAny_bind (wpAny_pure (wpAny_pure ⟨_, rfl, wpAny_pure h⟩))) hdrop)
    | exact wpAny_bind (wpAny_bind (m := Builtin.Tuple.tupleExact _) (wpAny_newObj_type (wpAny_pure (wpAny_pure ⟨_, rfl, wpAny_pure h⟩)) hdrop))
    | exact wpAny_bind (wpAny_bind (m := Builtin.Tuple.tupleExact _) (wpAny_newObj_type (wpAny_pure ⟨_, rfl, wpAny_pure h⟩) hdrop))

noncomputable def CutIs (lo hi : Option Int) (a d : D) : Prop := (∃ xs, a = .list xs ∧ .list (db lo hi xs) = d) ∨ (∃ xs i, a = .tuple xs ∧ lo = some i ∧ hi = none ∧ (1 ≤ i ∧ i ≤ xs.length) ∧ .tuple (xs.drop i.toNat) = d) ∨
  ∃ xs i j, a = .tuple xs ∧ lo = some i ∧ hi = some j ∧ (1 ≤ i ∧ i ≤ j ∧ j ≤ xs.length) ∧ .tuple ((xs.drop i.toNat).take (j - i).toNat) = d
theorem uk {lo hi : Option Int} {a d : D} (e : ul lo hi a = some d) : CutIs lo hi a d := by
  cases a with
  | list xs => exact .inl ⟨xs, rfl, Option.some.inj e⟩
  | tuple xs => cases lo with
    | none => exact nS e
    | some i => cases hi with
      | none => exact .inr (.inl ⟨xs, i, rfl, rfl, rfl, cJ e⟩)
      | some j => exact .inr (.inr ⟨xs, i, j, rfl, rfl, rfl, cJ e⟩)
  | _ => exact nS e
theorem uj {n : Nat} (nt : ∀ b, F b → NT s.heap b) {lo hi : Option Int} {a d : D} {x vl vu : Value} {sl : Addr} (e : ul lo hi a = some d) (ra : Rl rc s.heap F a x) (hs : s.heap.IsSliceOf sl vl vu .none) (pl : IsPart vl lo) (pu : IsPart vu hi) (_ : n = n) :
    wpAny (model prog w) A (getItem x (.ref sl)) (fun v s' => Rd rc s'.heap F d v ∧ Gr s s') E s := by
  rcases uk e with ⟨xs, rfl, rfl⟩ | ⟨xs, i, rfl, rfl, rfl, hi, rfl⟩ | ⟨xs, i, j, rfl, rfl, rfl, hi, rfl⟩
  · refine dw ra fun l vs e2_ hl hz r => ?_; obtain rfl := e2_
    refine wpAny_getItem_list_slice hl hs pl pu .none (by simp) ⟨?_, .push _ _ _⟩ (Nat.le_trans hz aa)
    rw [ml]
    have hlen : vs.toList.length = _ := r.len
    refine fQ (.refl _) nt ?_ ?_ _ rfl _ rfl
    · unfold db
      simp only [List.length_take, List.length_drop]
      simp only [Array.length_toList]
      omega
    · unfold db
      rw [hlen]
      exact (r.drop _).take _
  · refine cW (show ∃ t vs, x = .ref t ∧ _ from ra) fun t vs e2_ ht Z hz r => ?_; obtain rfl := e2_
    have hlen : vs.toList.length = _ := r.len
    rw [Array.length_toList] at hlen
    cases pl with
    | int _ u =>
    cases pu
    obtain ⟨k, rfl⟩ : ∃ k : Nat, i = k := ⟨i.toNat, by omega⟩
    refine getItem_tuple_from ht hs (by omega) (by omega) ⟨?_, .push _ _ _⟩ (Nat.le_trans hz aa)
    refine eE (.refl _) nt ?_ (r.drop _) _ rfl _ rfl
    simp only [List.length_drop, Array.length_toList]; omega
  · refine cW (show ∃ t vs, x = .ref t ∧ _ from ra) fun t vs e2_ ht Z hz r => ?_; obtain rfl := e2_
    have hlen : vs.toList.length = _ := r.len
    rw [Array.length_toList] at hlen
    cases pl with
    | int _ u =>
    cases pu with
    | int _ u' =>
    obtain ⟨k, rfl⟩ : ∃ k : Nat, i = k := ⟨i.toNat, by omega⟩
    obtain ⟨m, rfl⟩ : ∃ k : Nat, j = k := ⟨j.toNat, by omega⟩
    have ekm : ((m : Int) - (k : Int)).toNat = m - k := by omega
    refine jO ht hs (by omega) (by omega) (by omega) ⟨?_, .push _ _ _⟩ (Nat.le_trans hz aa)
    rw [ekm]
    refine eE (.refl _) nt ?_ ((r.drop _).take _) _ rfl _ rfl
    simp only [List.length_take, List.length_drop, Array.length_toList]; omega

theorem gY {α β : Type} {f : α → Option β} {g : α → β} : ∀ l : List α, (∀ x ∈ l, f x = some (g x)) → l.filterMap f = l.map g
  | [], _ => rfl
  | x :: r, h => by
    rw [List.filterMap_cons, h x (.head _), List.map_cons, gY r fun y m => h y (.tail _ m)]
theorem uM {a d : D} (e : yM a = some d) : ∃ xs, a = .list xs ∧ .list xs.reverse = d := by
  cases a with
  | list xs => exact ⟨xs, rfl, Option.some.inj e⟩
  | _ => exact nS e
theorem uL (nt : ∀ b, F b → NT s.heap b) {a d : D} {x : Value} {sl : Addr} {u : Tok} (e : yM a = some d) (ra : Rl rc s.heap F a x) (hs : s.heap.IsSliceOf sl .none .none (.int (-1) u)) :
    wpAny (model prog w) A (getItem x (.ref sl)) (fun v s' => Rd rc s'.heap F d v ∧ Gr s s') E s := by
  refine aA (uM e) fun xs e1_ e2_ => ?_; obtain rfl := e1_; obtain rfl := e2_; clear e
  · refine dw ra fun l vs e2_ hl hz r => ?_; obtain rfl := e2_; try clear ra
    refine wpAny_getItem_list_slice hl hs .none .none (.int _ _) (by simp) ⟨?_, .push _ _ _⟩ (Nat.le_trans hz aa)
    have hp : slicePick vs none none (some (-1)) = vs.toList.reverse.toArray := by
      unfold slicePick sliceBounds
      simp only [Option.getD_some, show ¬ ((-1 : Int) > 0) by decide, if_false]
      apply Array.toList_inj.mp
      simp only [sliceRange, show ¬ ((-1 : Int) > 0) by decide, if_false]
      apply List.ext_getElem?
      intro i
      have hc : (if (vs.size : Int) - 1 > -1 then ((vs.size : Int) - 1 - -1 - -1 - 1) / (- -1) else 0).toNat = vs.size := by
        rw [show (- -1 : Int) = 1 from rfl, Int.ediv_one]
        split <;> (lia -abstractProof)
      rw [hc]
      have hf : ((List.range vs.size).map fun (k : Nat) => ((vs.size : Int) - 1 + -1 * (k : Int)).toNat).filterMap (vs[·]?) = vs.toList.reverse := by
        apply List.ext_getElem?
        intro j
        rw [List.filterMap_map]
        have : (List.range vs.size).filterMap ((fun x => vs[x]?) ∘ fun (k : Nat) => ((vs.size : Int) - 1 + -1 * (k : Int)).toNat) = (List.range vs.size).map fun k => (vs[vs.size - 1 - k]?).getD .none := by
          refine gY _ fun k hk => ?_
          have hk' : k < vs.size := List.mem_range.mp hk
          have e1 : ((vs.size : Int) - 1 + -1 * (k : Int)).toNat = vs.size - 1 - k := by (lia -abstractProof)
          have e2 : vs.size - 1 - k < vs.size := by (lia -abstractProof)
          simp only [Function.comp, e1]
          rw [Array.getElem?_eq_getElem e2]; rfl
        rw [this]
        by_cases hj : j < vs.size
        · have e2 : vs.size - 1 - j < vs.size := by (lia -abstractProof)
          rw [List.getElem?_map, List.getElem?_range hj, List.getElem?_reverse (by simpa using hj)]
          simp [e2]
        · rw [List.getElem?_eq_none (by simp; exact Nat.le_of_not_lt (by assumption)), List.getElem?_eq_none (by simp; exact Nat.le_of_not_lt (by assumption))]
      simpa using congrArg (·[i]?) hf
    rw [hp]
    exact fQ (.refl _) nt (by simpa using hz) r.reverse _ rfl _ rfl
end
end Mine
namespace Mine
open PySem PySem.Calls PyProof.Rows

theorem lt_irrefl : ∀ a : List Int, aW a a = false
  | [] => rfl
  | a :: r => by simp [ch, lt_irrefl r]
theorem dy : ∀ {a b c : List Int}, aW a b = true → aW b c = true → aW a c = true
  | [], [], _, h, _ => fT h
  | [], _ :: _, [], _, h => fT h
  | [], _ :: _, _ :: _, _, _ => rfl
  | _ :: _, [], _, h, _ => fT h
  | _ :: _, _ :: _, [], _, h => fT h
  | a :: r, b :: t, c :: u, h, k => by
    rw [ch] at h k ⊢
    by_cases e : a = b
    · subst e
      rw [if_pos rfl] at h
      by_cases e2 : a = c
      · rw [if_pos e2] at k ⊢; exact dy h k
      · rw [if_neg e2] at k ⊢; exact k
    · rw [if_neg e] at h
      by_cases e2 : b = c
      · subst e2; rw [if_neg e]; exact h
      · rw [if_neg e2] at k
        have h1 := of_decide_eq_true h
        have h2 := of_decide_eq_true k
        rw [if_neg (by omega)]; exact decide_eq_true (by omega)
theorem e8 : ∀ {a b : List Int}, aW a b = false → aW b a = false → a = b
  | [], [], _, _ => rfl
  | [], _ :: _, h, _ => tF h
  | _ :: _, [], _, h => tF h
  | a :: r, b :: t, h, k => by
    rw [ch] at h k
    by_cases e : a = b
    · subst e
      rw [if_pos rfl] at h k
      rw [e8 h k]
    · rw [if_neg e] at h; rw [if_neg (Ne.symm e)] at k
      have h1 := of_decide_eq_false h
      have h2 := of_decide_eq_false k
      (lia -abstractProof)
theorem qP {a b : List Int} (h : aW a b = true) : aW b a = false := by
  cases k : aW b a with
  | false => rfl
  | true => rw [← lt_irrefl a, dy h k]

noncomputable abbrev iA (l : List (List Int)) : Prop := l.Pairwise fun a b => aW b a = false
theorem iF : ∀ {l₁ l₂ : List (List Int)}, l₁.Perm l₂ → iA l₁ → iA l₂ → l₁ = l₂
  | [], l₂, p, _, _ => (List.Perm.nil_eq p)
  | a :: t₁, l₂, p, s1, s2 => by
    cases l₂ with
    | nil => exact absurd p.length_eq (by simp)
    | cons b t₂ =>
      have hab : a = b := by
        have ha : a ∈ b :: t₂ := p.mem_iff.mp (.head _)
        have hb : b ∈ a :: t₁ := p.mem_iff.mpr (.head _)
        rcases List.mem_cons.mp ha with e | ha
        · exact e
        · rcases List.mem_cons.mp hb with e | hb
          · exact e.symm
          · exact e8 ((List.pairwise_cons.mp s2).1 a ha) ((List.pairwise_cons.mp s1).1 b hb)
      subst hab
      rw [iF ((List.perm_cons a).mp p) (List.pairwise_cons.mp s1).2 (List.pairwise_cons.mp s2).2]
theorem j0 (a : List Int) : ∀ l, (qW a l).Perm (a :: l)
  | [] => .refl _
  | b :: r => by
    rw [sJ]
    split
    · exact ((j0 a r).cons b).trans (.swap ..)
    · exact .refl _
theorem kS (a : List Int) : ∀ {l}, iA l → iA (qW a l)
  | [], _ => List.pairwise_singleton ..
  | b :: r, s => by
    rw [sJ]
    obtain ⟨s1, s2⟩ := List.pairwise_cons.mp s
    split
    · rename_i h
      refine List.pairwise_cons.mpr ⟨fun c hc => ?_, kS a s2⟩
      rcases List.mem_cons.mp ((j0 a r).mem_iff.mp hc) with rfl | hc
      · exact qP h
      · exact s1 c hc
    · rename_i h
      have h' : aW b a = false := by simpa using h
      refine List.pairwise_cons.mpr ⟨fun c hc => ?_, s⟩
      rcases List.mem_cons.mp hc with rfl | hc
      · exact h'
      · cases k : aW c a with
        | false => rfl
        | true =>
          have := s1 c hc
          cases q : aW a b with
          | true => rw [dy k q] at this; exact tF this
          | false => rw [e8 q h'] at k; rw [k] at this; exact tF this
theorem ic : ∀ l, (i9 l).Perm l
  | [] => .refl _
  | a :: r => (j0 a _).trans ((ic r).cons a)
theorem i8 : ∀ l, iA (i9 l)
  | [] => .nil
  | a :: r => kS a (i8 r)

noncomputable def iB {α : Type} (lt : Nat → Nat → Bool) : KasT α → α
  | .ret a => a
  | .ask i j k => iB lt (k (lt i j))
theorem runT_c {α : Type} (lt i j) (k : Bool → KasT α) : iB lt (.ask i j k) = iB lt (k (lt i j)) := rfl
noncomputable def inT {α : Type} (n : Nat) : Nat → KasT α → Bool
  | _, .ret _ => true
  | 0, _ => false
  | d + 1, .ask i j k => decide (i < n) && decide (j < n) && inT n d (k true) && inT n d (k false)
theorem inT_r {α : Type} (n k) (a : α) : inT n k (.ret a) = true := by cases k <;> rfl
theorem inT_z {α : Type} (n i j) (k : Bool → KasT α) : inT n 0 (.ask i j k) = false := rfl
theorem inT_c {α : Type} (n d i j) (k : Bool → KasT α) : inT n (d + 1) (.ask i j k) = (decide (i < n) && decide (j < n) && inT n d (k true) && inT n d (k false)) := rfl
noncomputable def dk (n : Nat) : Nat → List (List Nat)
  | 0 => [[]]
  | k + 1 => (dk n k).flatMap fun t => (List.range n).map fun x => x :: t
theorem tuplesOf_c (n k) : dk n (k + 1) = (dk n k).flatMap fun t => (List.range n).map fun x => x :: t := rfl
noncomputable def dN (l : List Nat) : List Nat → Bool
  | [] => true
  | [_] => true
  | i :: j :: r => decide (l.getD i 0 ≤ l.getD j 0) && dN l (j :: r)
theorem mh (l i j r) : dN l (i :: j :: r) = (decide (l.getD i 0 ≤ l.getD j 0) && dN l (j :: r)) := rfl
noncomputable def rn (n : Nat) (l : List Nat) : Bool :=
  let p := (iB (fun i j => decide (l.getD i 0 < l.getD j 0)) (kas_sort n)).toList
  dN l p && p.isPerm (List.range n)
noncomputable def okN (n : Nat) : Bool := inT n 12 (kas_sort n) && (dk n n).all (rn n)
theorem ok2 : okN 2 = true := by decide +kernel
theorem ok3 : okN 3 = true := by decide +kernel
theorem ok4 : okN 4 = true := by decide +kernel

theorem fU (n : Nat) : ∀ l : List Nat, (∀ x ∈ l, x < n) → l ∈ dk n l.length
  | [], _ => .head _
  | x :: t, h => by
    exact List.mem_flatMap.mpr ⟨t, fU n t fun y hy => h y (.tail _ hy), List.mem_map.mpr ⟨x, List.mem_range.mpr (h x (.head _)), rfl⟩⟩
theorem fO {α : Type} {f g : Nat → Nat → Bool} {n : Nat} (h : ∀ i j, i < n → j < n → f i j = g i j) : ∀ (d : Nat) (t : KasT α), inT n d t = true → iB f t = iB g t
  | _, .ret _, _ => rfl
  | 0, .ask _ _ _, e => fT e
  | d + 1, .ask i j k, e => by
    simp only [inT_c, Bool.and_eq_true, decide_eq_true_eq] at e
    show iB f (k (f i j)) = iB g (k (g i j))
    rw [h i j e.1.1.1 e.1.1.2]
    cases g i j
    · exact fO h d _ e.2
    · exact fO h d _ e.1.2
noncomputable def ce (rs : List (List Int)) (r : List Int) : Nat := (rs.filter fun x => aW x r).length
theorem j8 {α : Type} {p q : α → Bool} : ∀ l : List α, (∀ x ∈ l, p x = true → q x = true) → (l.filter p).length ≤ (l.filter q).length
  | [], _ => Nat.le_refl _
  | x :: r, h => by
    have ih := j8 r fun y m => h y (.tail _ m)
    rw [List.filter_cons, List.filter_cons]
    cases hp : p x with
    | false =>
      simp only [Bool.false_eq_true, if_false]
      split
      · rw [List.length_cons]; lia
      · exact ih
    | true =>
      rw [if_pos rfl, if_pos (h x (.head _) hp), List.length_cons, List.length_cons]; exact Nat.lt_succ_of_le (by assumption)
theorem j7 {α : Type} {p q : α → Bool} : ∀ l : List α, (∀ x ∈ l, p x = true → q x = true) → (∃ x ∈ l, p x = false ∧ q x = true) → (l.filter p).length < (l.filter q).length
  | [], _, ⟨_, m, _⟩ => nomatch m
  | x :: r, h, ⟨y, m, e1, e2⟩ => by
    have hr := fun z m => h z (List.Mem.tail _ m)
    rw [List.filter_cons, List.filter_cons]
    rcases List.mem_cons.mp m with rfl | m
    · rw [e1, e2, if_neg (by simp), if_pos rfl, List.length_cons]
      have := j8 r hr; exact Nat.lt_succ_of_le (by assumption)
    · have ih := j7 r hr ⟨y, m, e1, e2⟩
      cases hp : p x with
      | false =>
        simp only [Bool.false_eq_true, if_false]
        split
        · rw [List.length_cons]; exact Nat.lt_succ_of_lt (by assumption)
        · exact ih
      | true =>
        rw [if_pos rfl, if_pos (h x (.head _) hp), List.length_cons, List.length_cons]; exact Nat.lt_succ_of_le (by assumption)
theorem oq {rs : List (List Int)} {a b : List Int} (ha : a ∈ rs) : decide (ce rs a < ce rs b) = aW a b := by
  cases h : aW a b with
  | true => exact decide_eq_true (j7 rs (fun x Z e => dy e h) ⟨a, ha, lt_irrefl a, h⟩)
  | false =>
    refine decide_eq_false (Nat.not_lt.mpr (j8 rs fun x Z e => ?_))
    cases k : aW b a with
    | true => exact dy e k
    | false => rw [e8 h k]; exact e
theorem lj {rs : List (List Int)} {a : List Int} (ha : a ∈ rs) : ce rs a < rs.length := by
  have := j7 (p := fun x => aW x a) (q := fun Z => true) rs (fun Z Z Z => rfl) ⟨a, ha, lt_irrefl a, rfl⟩
  rwa [List.filter_eq_self.mpr fun Z Z => rfl] at this
theorem dh {α β : Type} (f : α → β) (l : List α) (i : Nat) (d : α) (e : β) (h : i < l.length) : (l.map f).getD i e = f (l.getD i d) := by
  simp [List.getD, h]
theorem l5 {α : Type} (d : α) (l : List α) : (List.range l.length).map (fun i => l.getD i d) = l := by
  apply List.ext_getElem
  · simp
  · intro i h1 h2; simp [List.getD, h2]
theorem fq {rs : List (List Int)} : ∀ p : List Nat, (∀ i ∈ p, i < rs.length) → dN (rs.map (ce rs)) p = true → iA (p.map fun i => rs.getD i [])
  | [], _, _ => .nil
  | [_], _, _ => List.pairwise_singleton ..
  | i :: j :: r, hi, e => by
    simp only [mh, Bool.and_eq_true, decide_eq_true_eq] at e
    have ih := fq (j :: r) (fun x m => hi x (.tail _ m)) e.2
    have key : ∀ x y : Nat, x < rs.length → y < rs.length → (rs.map (ce rs)).getD x 0 ≤ (rs.map (ce rs)).getD y 0 → aW (rs.getD y []) (rs.getD x []) = false := fun x y hx hy h => by
      rw [dh _ _ _ [] _ hx, dh _ _ _ [] _ hy] at h
      rw [← oq (rs := rs) (by simp [List.getD, hy])]
      exact decide_eq_false (by (lia -abstractProof))
    have hij := key i j (hi i (.head _)) (hi j (.tail _ (.head _))) e.1
    rw [List.map_cons]
    refine List.pairwise_cons.mpr ⟨fun c hc => ?_, ih⟩
    rw [List.map_cons] at ih hc
    rcases List.mem_cons.mp hc with rfl | hc
    · exact hij
    · have := (List.pairwise_cons.mp ih).1 c hc
      cases k : aW c (rs.getD i []) with
      | false => rfl
      | true =>
        cases q : aW (rs.getD i []) (rs.getD j []) with
        | true => rw [dy k q] at this; exact tF this
        | false => rw [e8 q hij] at k; rw [k] at this; exact tF this
theorem pr {rs : List (List Int)} (ok : okN rs.length = true) :
    (iB (fun i j => aW (rs.getD i []) (rs.getD j [])) (kas_sort rs.length)).toList.map (fun i => rs.getD i []) = i9 rs := by
  unfold okN at ok
  rw [Bool.and_eq_true] at ok
  have hmem : rs.map (ce rs) ∈ dk rs.length rs.length := by
    have := fU rs.length (rs.map (ce rs)) fun x hx => by
      obtain ⟨a, ha, rfl⟩ := List.mem_map.mp hx
      exact lj ha
    rwa [List.length_map] at this
  have h := List.all_eq_true.mp ok.2 _ hmem
  unfold rn at h
  rw [Bool.and_eq_true] at h
  have e : iB (fun i j => aW (rs.getD i []) (rs.getD j [])) (kas_sort rs.length) = iB (fun i j => decide ((rs.map (ce rs)).getD i 0 < (rs.map (ce rs)).getD j 0)) (kas_sort rs.length) := by
    refine fO (n := rs.length) (fun i j hi hj => ?_) 12 _ ok.1
    rw [dh _ _ _ [] _ hi, dh _ _ _ [] _ hj, oq (by simp [List.getD, hi])]
  rw [e]
  have hp := List.isPerm_iff.mp h.2
  refine iF ?_ (fq _ (fun i m => List.mem_range.mp (hp.mem_iff.mp m)) h.1) (i8 rs)
  refine (hp.map _).trans ?_
  rw [l5]
  exact (ic rs).symm
end Mine
namespace Mine
open PySem PySem.Calls PyProof.Rows

noncomputable abbrev zj := aR → aR → List D → Heap → Prop
structure It (prog : Program) (w : World) (A : Around) (rc : Addr) (t : Expr) (I : Addr) (W : aR) (St : zj) : Prop where
  step : ∀ {M F M' F' : aR} {ds : List D} {h h' : Heap}, St M F ds h → aU M h h' → bu M h M' → bu F h F' → (∀ b, M b → F b) → (∀ b, W b → F' b) → St M' F' ds h'
  live : ∀ {M F : aR} {ds : List D} {h : Heap}, St M F ds h → ∀ b, W b → NT h b ∧ F b ∧ ¬ M b
  item : ∀ {M F : aR} {d : D} {ds : List D} {s : Shared} {Q : Option Value → Shared → Prop} {E : Value → Shared → Prop}, St M F (d :: ds) s.heap → (∀ b, F b → NT s.heap b) →
    (∀ v h' tk, (∀ (Q' : Unit → Shared → Prop) (E' : Value → Shared → Prop), (∀ h'', St M F ds h'' → Rd rc h'' F d v → aU W s.heap h'' → Q' () { s with heap := h'', toks := tk }) →
      wpAny (model prog w) A (letOwnedTupleGo t (.ref I) v) Q' E' { s with heap := h', toks := tk }) → Q (some v) { s with heap := h', toks := tk }) → wpAny (model prog w) A (pyNext (.ref I)) Q E s
  done : ∀ {M F : aR} {s : Shared} {Q : Option Value → Shared → Prop} {E : Value → Shared → Prop}, St M F [] s.heap → (∀ h' tk, aU W s.heap h' → Q none { s with heap := h', toks := tk }) →
    wpAny (model prog w) A (pyNext (.ref I)) Q E s
  self : ∀ {M F : aR} {ds : List D} {s : Shared} {Q : Value → Shared → Prop} {E : Value → Shared → Prop}, St M F ds s.heap → Q (.ref I) s → wpAny (model prog w) A (pyIter (.ref I)) Q E s

section
variable {prog : Program} {w : World} {A : Around} {E : Value → Shared → Prop} {s : Shared} {rc : Addr}

noncomputable def jx (n : String) : Bool := !(["enumerate", "zip", "dict_itemiterator", "dict_reverseitemiterator", "odict_iterator", "itertools.zip_longest", "itertools.pairwise"].contains n)
theorem wk {t : Expr} {I : Addr} {o : Obj} {n : String} {v : Value} {Q : Unit → Shared → Prop} (ho : s.heap.get? I = some o) (hc : o.cls = .type n) (hn : jx n = true) (hQ : Q () s) :
    wpAny (model prog w) A (letOwnedTupleGo t (.ref I) v) Q E s := by
  unfold jx at hn
  rw [Bool.not_eq_true'] at hn
  have K : wpAny (model prog w) A (letOwnedTupleGo (.Tuple [] 0 t.pos) (.ref I) v) Q E s := by
    cases v with
    | ref a =>
      refine wpAny_bind (wpAny_load ho ?_)
      obtain ⟨oc, x, od, y⟩ := o
      cases (show oc = .type n from hc)
      cases od with
      | fields vs =>
        show wpAny (model prog w) A (ite ((_ && _) = true) _ _) Q E s
        rw [hn, Bool.false_and, if_neg (by decide)]
        exact wpAny_pure hQ
      | _ => exact wpAny_pure hQ
    | _ => exact wpAny_pure hQ
  cases t with
  | Tuple es k p => exact K
  | List es p => exact K
  | _ => exact wpAny_pure hQ

noncomputable def WSt (rc : Addr) (fp wr : List Addr) (n : Nat) (P : Nat → Value → Prop) (St₀ : Nat → Heap → Prop) : zj := fun M F ds h =>
  ∃ i, St₀ i h ∧ i + ds.length = n ∧ (∀ j d v, ds[j]? = some d → P (i + j) v → Rd rc h F d v) ∧ (∀ b ∈ fp, ¬ M b) ∧ (∀ b ∈ wr, F b)
theorem It.of {t : Expr} {I : Addr} {fp wr : List Addr} {n : Nat} {P : Nat → Value → Prop} {St₀ : Nat → Heap → Prop} (W : Walks prog w A I fp wr n P St₀)
    (hl : ∀ i h, St₀ i h → ∀ b ∈ fp, ∃ o, h.get? b = some o) (hn : ∀ i h, St₀ i h → ∀ b ∈ wr, NT h b) (hc : ∀ i h, St₀ i h → ∃ o k, h.get? I = some o ∧ o.cls = .type k ∧ jx k = true) :
    It prog w A rc t I (fun b => b ∈ wr) (WSt rc fp wr n P St₀) where
  step := by
    rintro M F M' F' ds h h' ⟨i, h1, h2, h3, h4, h5⟩ ag tM tF sub wF
    have agF : aU F h h' := ag.more sub
    refine ⟨i, W.frame i h h' h1 fun b hb o eo => ag b o (h4 b hb) eo, h2, fun j d v ed ep => (h3 j d v ed ep).step agF tF, fun b hb => ?_, fun b hb => wF b hb⟩
    obtain ⟨o, eo⟩ := hl i h h1 b hb
    exact tM.out (h4 b hb) eo
  live := by
    rintro M F ds h ⟨i, h1, h2, h3, h4, h5⟩ b hb
    exact ⟨hn i h h1 b hb, h5 b hb, h4 b (W.sub b hb)⟩
  item := by
    rintro M F d ds s Q E ⟨i, h1, h2, h3, h4, h5⟩ _ hQ
    refine W.item i s Q E (by rw [List.length_cons] at h2; (lia -abstractProof)) h1 fun v h' tk hp hs hk => ?_
    refine hQ v h' tk fun Q' E' hQ' => ?_
    refine bm (hc _ _ hs) fun o k eo ec ek => ?_
    have agF : aU F s.heap h' := fun b o n eo => hk b o (fun hb => n (h5 b hb)) eo
    refine wk (s := { s with heap := h', toks := tk }) eo ec ek (hQ' h' ⟨i + 1, hs, by rw [List.length_cons] at h2; (lia -abstractProof), fun j d' v' ed ep => ?_, h4, h5⟩ ((h3 0 d v rfl hp).step agF (.refl _ _)) fun b o n eo => hk b o n eo)
    exact (h3 (j + 1) d' v' ed (by rwa [show i + (j + 1) = i + 1 + j by (lia -abstractProof)])).step agF (.refl _ _)
  done := by
    rintro M F s Q E ⟨i, h1, h2, _⟩ hQ
    have : i = n := by simpa using h2
    subst this
    exact W.done s Q E h1 fun h' tk hk => hQ h' tk fun b o n eo => hk b o n eo
  self := by
    rintro M F ds s Q E ⟨i, h1, _⟩ hQ
    exact W.self i s Q E h1 hQ

theorem kL {h : Heap} {b : Addr} {o : Obj} {n : String} (e : h.get? b = some o) (hc : o.cls = .type n) (hn : n ≠ "tuple") : NT h b := ⟨o, e, .inl (by rw [hc]; intro q; exact hn (by injection q))⟩
theorem cP {h : Heap} {F : aR} (nt : ∀ b, F b → NT h b) {b : Addr} (e : h.get? b = none) : ¬ F b := fun q => by
  refine aA (nt b q) fun o eo Z => ?_
  rw [e] at eo; exact nS eo
theorem get?_size (h : Heap) : h.get? h.objs.size = none := by
  cases e : h.get? h.objs.size with
  | none => rfl
  | some o => exact absurd (Heap.lt_size e) (Nat.lt_irrefl _)


noncomputable def gB (prog : Program) (w : World) (A : Around) (rc : Addr) (t : Expr) (h : Heap) (M F : aR) (ds : List D) (v : Value) (s' : Shared) : Prop :=
  ∃ I W St, v = .ref I ∧ It prog w A rc t I W St ∧ (∀ b, W b → h.get? b = none) ∧ ds.length ≤ aF ∧ St M (fun b => F b ∨ W b) ds s'.heap

theorem cV {h : Heap} {F W : aR} {ds : List D} {vs : List Value} (r : RdAll rc h F ds vs) (n : ∀ b, W b → h.get? b = none) : RdAll rc h (fun b => F b ∨ W b) ds vs :=
  RdAll.step (.refl _ _) (fun b q => q.imp id (n b)) _ _ r

theorem jJ {h : Heap} {F : aR} {ds : List D} {vs : List Value} (r : RdAll rc h F ds vs) : ∀ j d v, ds[j]? = some d → vs[0 + j]? = some v → Rd rc h F d v := fun j d v e1 e2 => by
  rw [Nat.zero_add] at e2
  exact (dg.mp r).2 j d v e1 e2

theorem uY {t : Expr} {F : aR} {ds : List D} {x : Value} (hh : A.handled = none) (ra : Rl rc s.heap F (.list ds) x) :
    wpAny (model prog w) A (pyIter x) (fun v s' => gB prog w A rc t s.heap gR F ds v s' ∧ Gr s s') E s := by
  refine dw ra fun ax vs e2_ hl hz r => ?_; obtain rfl := e2_; try clear ra
  refine wpAny_pyIter_list hl ?_
  have hne : ax ≠ s.heap.objs.size := by refine aA hl fun o ho Z => ?_; exact Nat.ne_of_lt (Heap.lt_size ho)
  have hit : (s.heap.push { cls := .type "list_iterator", data := .fields #[.ref ax, .int 0 0] }).IsListIter s.heap.objs.size ax 0 := ⟨_, Heap.get?_push_size _ rfl, rfl, rfl⟩
  have len := r.len
  refine ⟨⟨_, _, _, rfl, It.of (Walks.list hh s.heap.objs.size ax hne vs) (fun i h st b hb => ?_) (fun i h st b hb => ?_) (fun i h st => ?_), fun b hb => ?_, ?_, ?_⟩, .push _ _ _⟩
  · simp at hb
    obtain ⟨⟨o, h1, _⟩, ⟨o', h2, _⟩⟩ := st
    rcases hb with rfl | rfl
    · exact ⟨o, h1⟩
    · exact ⟨o', h2⟩
  · obtain ⟨⟨o, h1, h2, _⟩, _⟩ := st
    simp at hb; subst hb
    exact kL h1 h2 (by decide)
  · obtain ⟨⟨o, h1, h2, _⟩, _⟩ := st
    exact ⟨o, _, h1, h2, by decide⟩
  · simp at hb; subst hb; exact get?_size _
  · simp at len; lia
  · refine ⟨0, ⟨hit, hl.push _⟩, by simp at len; lia, ?_, fun Z Z => id, fun b hb => .inr (by simpa using hb)⟩
    have r' := cV (W := fun b => b ∈ [s.heap.objs.size]) r (fun b hb => by simp at hb; subst hb; exact get?_size _)
    intro j d v e1 e2
    refine (jJ r' j d v e1 ?_).grow (.push _)
    simpa using e2
theorem sF {t : Expr} {F : aR} {ds : List D} {x : Value} (hh : A.handled = none) (ra : Rl rc s.heap F (.tuple ds) x) :
    wpAny (model prog w) A (pyIter x) (fun v s' => gB prog w A rc t s.heap gR F ds v s' ∧ Gr s s') E s := by
  have ra' : Rd rc s.heap F (.tuple ds) x := ra
  refine cW ra' fun ax vs e2_ hl hF hz r => ?_; obtain rfl := e2_
  refine wpAny_pyIter_tuple hl ?_
  have hne : ax ≠ s.heap.objs.size := by refine aA hl fun o ho Z => ?_; exact Nat.ne_of_lt (Heap.lt_size ho)
  have hit : (s.heap.push { cls := .type "tuple_iterator", data := .fields #[.ref ax, .int 0 0] }).IsTupleIter s.heap.objs.size ax 0 := ⟨_, Heap.get?_push_size _ rfl, rfl, rfl⟩
  have len := r.len
  refine ⟨⟨_, _, _, rfl, It.of (Walks.tuple hh s.heap.objs.size ax hne vs) (fun i h st b hb => ?_) (fun i h st b hb => ?_) (fun i h st => ?_), fun b hb => ?_, ?_, ?_⟩, .push _ _ _⟩
  · simp at hb
    obtain ⟨⟨o, h1, _⟩, ⟨o', h2, _⟩⟩ := st
    rcases hb with rfl | rfl
    · exact ⟨o, h1⟩
    · exact ⟨o', h2⟩
  · obtain ⟨⟨o, h1, h2, _⟩, _⟩ := st
    simp at hb; subst hb
    exact kL h1 h2 (by decide)
  · obtain ⟨⟨o, h1, h2, _⟩, _⟩ := st
    exact ⟨o, _, h1, h2, by decide⟩
  · simp at hb; subst hb; exact get?_size _
  · simp at len; lia
  · refine ⟨0, ⟨hit, hl.at fun o e => Heap.get?_push_of_some _ e⟩, by simp at len; lia, ?_, fun Z Z => id, fun b hb => .inr (by simpa using hb)⟩
    have r' := cV (W := fun b => b ∈ [s.heap.objs.size]) r (fun b hb => by simp at hb; subst hb; exact get?_size _)
    intro j d v e1 e2
    refine (jJ r' j d v e1 ?_).grow (.push _)
    simpa using e2

theorem m9 {t : Expr} {M F : aR} {ds : List D} {x : Value} (hh : A.handled = none) (ra : Rd rc s.heap F (.list ds) x) (sub : ∀ b, M b → F b) (nt : ∀ b, F b → NT s.heap b) :
    wpAny (model prog w) A (pyIter x) (fun v s' => gB prog w A rc t s.heap M F ds v s' ∧ Gr s s') E s := by
  refine cW ra fun ax vs e2_ hl hF hz r => ?_; obtain rfl := e2_; try clear ra
  refine wpAny_pyIter_list hl ?_
  have hne : ax ≠ s.heap.objs.size := by refine aA hl fun o ho Z => ?_; exact Nat.ne_of_lt (Heap.lt_size ho)
  have hit : (s.heap.push { cls := .type "list_iterator", data := .fields #[.ref ax, .int 0 0] }).IsListIter s.heap.objs.size ax 0 := ⟨_, Heap.get?_push_size _ rfl, rfl, rfl⟩
  have len := r.len
  refine ⟨⟨_, _, _, rfl, It.of (Walks.list hh s.heap.objs.size ax hne vs) (fun i h st b hb => ?_) (fun i h st b hb => ?_) (fun i h st => ?_), fun b hb => ?_, ?_, ?_⟩, .push _ _ _⟩
  · simp at hb
    obtain ⟨⟨o, h1, _⟩, ⟨o', h2, _⟩⟩ := st
    rcases hb with rfl | rfl
    · exact ⟨o, h1⟩
    · exact ⟨o', h2⟩
  · obtain ⟨⟨o, h1, h2, _⟩, _⟩ := st
    simp at hb; subst hb
    exact kL h1 h2 (by decide)
  · obtain ⟨⟨o, h1, h2, _⟩, _⟩ := st
    exact ⟨o, _, h1, h2, by decide⟩
  · simp at hb; subst hb; exact get?_size _
  · simp at len; lia
  · refine ⟨0, ⟨hit, hl.push _⟩, by simp at len; lia, ?_, fun b hb q => ?_, fun b hb => .inr (by simpa using hb)⟩
    · have r' := cV (W := fun b => b ∈ [s.heap.objs.size]) r (fun b hb => by simp at hb; subst hb; exact get?_size _)
      intro j d v e1 e2
      refine (jJ r' j d v e1 ?_).grow (.push _)
      simpa using e2
    · simp at hb
      rcases hb with rfl | rfl
      · exact cP nt (get?_size _) (sub _ q)
      · exact hF (sub _ q)
theorem mA {t : Expr} {M F : aR} {ds : List D} {x : Value} (hh : A.handled = none) (ra : Rd rc s.heap F (.tuple ds) x) (sub : ∀ b, M b → F b) (nt : ∀ b, F b → NT s.heap b) :
    wpAny (model prog w) A (pyIter x) (fun v s' => gB prog w A rc t s.heap M F ds v s' ∧ Gr s s') E s := by
  refine cW ra fun ax vs e2_ hl hF hz r => ?_; obtain rfl := e2_; try clear ra
  refine wpAny_pyIter_tuple hl ?_
  have hne : ax ≠ s.heap.objs.size := by refine aA hl fun o ho Z => ?_; exact Nat.ne_of_lt (Heap.lt_size ho)
  have hit : (s.heap.push { cls := .type "tuple_iterator", data := .fields #[.ref ax, .int 0 0] }).IsTupleIter s.heap.objs.size ax 0 := ⟨_, Heap.get?_push_size _ rfl, rfl, rfl⟩
  have len := r.len
  refine ⟨⟨_, _, _, rfl, It.of (Walks.tuple hh s.heap.objs.size ax hne vs) (fun i h st b hb => ?_) (fun i h st b hb => ?_) (fun i h st => ?_), fun b hb => ?_, ?_, ?_⟩, .push _ _ _⟩
  · simp at hb
    obtain ⟨⟨o, h1, _⟩, ⟨o', h2, _⟩⟩ := st
    rcases hb with rfl | rfl
    · exact ⟨o, h1⟩
    · exact ⟨o', h2⟩
  · obtain ⟨⟨o, h1, h2, _⟩, _⟩ := st
    simp at hb; subst hb
    exact kL h1 h2 (by decide)
  · obtain ⟨⟨o, h1, h2, _⟩, _⟩ := st
    exact ⟨o, _, h1, h2, by decide⟩
  · simp at hb; subst hb; exact get?_size _
  · simp at len; lia
  · refine ⟨0, ⟨hit, hl.at fun o e => Heap.get?_push_of_some _ e⟩, by simp at len; lia, ?_, fun b hb q => ?_, fun b hb => .inr (by simpa using hb)⟩
    · have r' := cV (W := fun b => b ∈ [s.heap.objs.size]) r (fun b hb => by simp at hb; subst hb; exact get?_size _)
      intro j d v e1 e2
      refine (jJ r' j d v e1 ?_).grow (.push _)
      simpa using e2
    · simp at hb
      rcases hb with rfl | rfl
      · exact cP nt (get?_size _) (sub _ q)
      · exact hF (sub _ q)

noncomputable def rgD (n : Nat) (a c : Int) : List D := (List.range n).map fun (k : Nat) => PyData.int (a + (k : Int) * c)
theorem ij {t : Expr} {M F : aR} {r : Addr} {a b c : Int} {u u' u'' : Tok} {n : Nat} (hh : A.handled = none) (hr : IsRange s.heap r a b c u u' u'') (hsm : Builtin.Range.small a b c = true)
    (hn : Builtin.Range.rangeSize a b c = (n : Int)) (hz : n ≤ aF) (sub : ∀ b, M b → F b) (nt : ∀ b, F b → NT s.heap b) :
    wpAny (model prog w) A (pyIter (.ref r)) (fun v s' => gB prog w A rc t s.heap M F (rgD n a c) v s' ∧ Gr s s') E s := by
  refine wpAny_pyIter_range hr hsm ?_
  have hit : IsRangeIter (s.heap.push { cls := .type "range_iterator", data := .fields #[rawInt a, rawInt (Builtin.Range.rangeSize a b c), rawInt c] }) s.heap.objs.size (a + ((0 : Nat) : Int) * c) ((n : Int) - ((0 : Nat) : Int)) c := by
    have e1 : a + ((0 : Nat) : Int) * c = a := by simp
    have e2 : ((n : Int) - ((0 : Nat) : Int)) = Builtin.Range.rangeSize a b c := by rw [hn]; simp
    rw [e1, e2]
    exact Heap.get?_push_size _ rfl
  refine ⟨⟨_, _, _, rfl, It.of (Walks.range hh s.heap.objs.size a c n) (fun i h st b hb => ?_) (fun i h st b hb => ?_) (fun i h st => ?_), fun b hb => ?_, ?_, ?_⟩, .push _ _ _⟩
  · simp at hb; subst hb; exact ⟨_, st⟩
  · simp at hb; subst hb; exact kL st rfl (by decide)
  · exact ⟨_, _, st, rfl, by decide⟩
  · simp at hb; subst hb; exact get?_size _
  · simp [rgD]; exact hz
  · refine ⟨0, hit, by simp [rgD], ?_, fun b hb q => ?_, fun b hb => .inr (by simpa using hb)⟩
    · rintro j d v e1 ⟨tk, rfl⟩
      rw [Nat.zero_add]
      have : d = .int (a + (j : Int) * c) := by
        unfold rgD at e1
        rw [List.getElem?_map] at e1
        refine aA (Option.map_eq_some_iff.mp e1) fun k e2 e2_ => ?_; obtain rfl := e2_
        have := List.getElem?_eq_some_iff.mp e2
        obtain ⟨h1, h2⟩ := this
        simp at h2
        subst h2; rfl
      subst this
      exact au
    · simp at hb; subst hb
      exact cP nt (get?_size _) (sub _ q)

noncomputable def ESt (rc : Addr) (e it l : Addr) (vs : Array Value) : zj := fun M F ds h =>
  ∃ i xs, (∃ old, IsEnum h e it ((i : Nat) : Int) old) ∧ h.IsListIter it l i ∧ h.IsList l vs ∧ ds = iR i xs ∧ i + xs.length = vs.size ∧ RdAll rc h F xs (vs.toList.drop i) ∧ ¬ M e ∧ ¬ M it ∧ ¬ M l ∧ F e ∧ F it
theorem It.enum {elts : List Expr} {x1 : Nat} {pos : Pos} {e it l : Addr} {vs : Array Value} (hh : A.handled = none) (hei : e ≠ it) (hle : l ≠ e) (hli : l ≠ it) :
    It prog w A rc (.Tuple elts x1 pos) e (fun b => b = e ∨ b = it) (ESt rc e it l vs) where
  step := by
    rintro M F M' F' ds h h' ⟨i, xs, ⟨old, h1⟩, h2, h3, h4, h5, h6, m1, m2, m3, f1, f2⟩ ag tM tF sub wF
    have agF : aU F h h' := ag.more sub
    refine aA (id h2) fun o2 e2 Z => ?_
    refine aA (id h3) fun o3 e3 Z => ?_
    exact ⟨i, xs, ⟨old, ag _ _ m1 h1⟩, h2.at fun o eo => ag _ _ m2 eo, h3.at fun o eo => ag _ _ m3 eo, h4, h5, RdAll.step agF tF _ _ h6, tM.out m1 h1, tM.out m2 e2, tM.out m3 e3, wF _ (.inl rfl), wF _ (.inr rfl)⟩
  live := by
    rintro M F ds h ⟨i, xs, ⟨old, h1⟩, ⟨o2, e2, c2, _⟩, h3, h4, h5, h6, m1, m2, m3, f1, f2⟩ b hb
    rcases hb with rfl | rfl
    · exact ⟨kL h1 rfl (by decide), f1, m1⟩
    · exact ⟨kL e2 c2 (by decide), f2, m2⟩
  item := by
    rintro M F d ds s Q E ⟨i, xs, ⟨old, h1⟩, h2, h3, h4, h5, h6, m1, m2, m3, f1, f2⟩ nt hQ
    cases xs with
    | nil => simp [zN] at h4
    | cons x xs =>
      simp only [lL, List.cons.injEq] at h4
      obtain ⟨rfl, rfl⟩ := h4
      have hi : i < vs.size := by rw [List.length_cons] at h5; (lia -abstractProof)
      have hx : vs[i]? = some vs[i] := Array.getElem?_eq_getElem hi
      have hd : vs.toList.drop i = vs[i] :: vs.toList.drop (i + 1) := by
        rw [List.drop_eq_getElem_cons (by simpa using hi)]; simp
      rw [hd] at h6
      refine bm h6 fun v rest e6 r1 r2 => ?_; try clear h6
      cases e6
      refine wpAny_pyNext_enum_item h1 h2 h3 hx hei fun h' ho hit' hT hsz hk => ?_
      have helt : e < s.heap.objs.size := Heap.lt_size h1
      refine hQ _ h' (s.toks + 1) fun Q' E' hQ' => ?_
      refine wpAny_letOwnedTupleGo_enum (s := { s with heap := h', toks := s.toks + 1 }) ho fun h'' he' hs' => ?_
      have agW : aU (fun b => b = e ∨ b = it) s.heap h'' := fun b o n eo => by
        rw [hs'.2 b fun q => n (.inl q)]
        exact hk b o (fun q => n (.inl q)) (fun q => n (.inr q)) eo
      have agF : aU F s.heap h'' := agW.more fun b q => by rcases q with rfl | rfl; exact f1; exact f2
      have hTe : s.heap.objs.size ≠ e := Nat.ne_of_gt helt
      refine hQ' h'' ⟨i + 1, xs, ⟨_, he'⟩, hit'.at fun o y => (hs'.2 it hei.symm).trans y, h3.at fun o y => agW _ _ (fun q => q.elim hle hli) y, rfl, by rw [List.length_cons] at h5; (lia -abstractProof), RdAll.step agF (.refl _ _) _ _ r2, m1, m2, m3, f1, f2⟩ ?_ agW
      refine ⟨_, #[.int i s.toks, vs[i]], rfl, ⟨_, (hs'.2 _ hTe).trans hT, rfl, _, rfl⟩, cP nt (get?_size _), by simp [aF], ?_⟩
      exact .cons au (.cons (r1.step agF (.refl _ _)) .nil)
  done := by
    rintro M F s Q E ⟨i, xs, ⟨old, h1⟩, h2, h3, h4, h5, h6, m1, m2, m3, f1, f2⟩ hQ
    cases xs with
    | cons x xs => simp [lL] at h4
    | nil =>
      have hi : vs.size ≤ i := by simpa using Nat.le_of_eq h5.symm
      exact wpAny_pyNext_enum_end hh h1 h2 h3 (Array.getElem?_eq_none hi) fun h' hx => hQ h' s.toks fun b o n eo => hx b o (fun q => n (.inr q)) eo
  self := by
    rintro M F ds s Q E ⟨i, xs, ⟨old, h1⟩, _⟩ hQ
    exact wpAny_pyIter_enum h1 hQ

theorem jV : ∀ (k : Nat) (ds : List D), (iR k ds).length = ds.length
  | _, [] => rfl
  | k, _ :: ds => by simp [lL, jV (k + 1) ds]
theorem uZ {elts : List Expr} {x1 : Nat} {pos : Pos} {M F : aR} {ds : List D} {x : Value} (hh : A.handled = none) (ra : Rd rc s.heap F (.list ds) x) (sub : ∀ b, M b → F b) (nt : ∀ b, F b → NT s.heap b) :
    wpAny (model prog w) A (call (.type "enumerate") [x]) (fun y s₁ => wpAny (model prog w) A (pyIter y) (fun v s' => gB prog w A rc (.Tuple elts x1 pos) s.heap M F (iR 0 ds) v s' ∧ Gr s s') E s₁) E s := by
  refine cW ra fun ax vs e2_ hl hF hz r => ?_; obtain rfl := e2_; try clear ra
  refine call_enumerate_list hl fun h' h1 h2 h3 h4 => ?_
  refine wpAny_pyIter_enum (s := { s with heap := h' }) h1 ?_
  have hlt : ax < s.heap.objs.size := by refine aA hl fun o ho Z => ?_; exact Heap.lt_size ho
  have fresh : ∀ b, s.heap.objs.size ≤ b → s.heap.get? b = none := fun b hb => by
    cases e : s.heap.get? b with
    | none => rfl
    | some o => exact absurd (Heap.lt_size e) (Nat.not_lt.mpr hb)
  have wn : ∀ b, (b = s.heap.objs.size + 1 ∨ b = s.heap.objs.size) → s.heap.get? b = none := fun b hb => fresh b (by (lia -abstractProof))
  have n1 : (s.heap.objs.size + 1 : Addr) ≠ s.heap.objs.size := Nat.succ_ne_self _
  have n2 : ax ≠ s.heap.objs.size + 1 := Nat.ne_of_lt (Nat.lt_succ_of_lt hlt)
  have n3 : ax ≠ s.heap.objs.size := Nat.ne_of_lt hlt
  refine ⟨⟨_, _, _, rfl, It.enum hh (vs := vs) (l := ax) n1 n2 n3, wn, (by rw [jV]; have := r.len; simp at this; (lia -abstractProof)), 0, ds, ⟨_, h1⟩, h2, hl.at fun o e => h4 _ _ e, rfl, ?_, ?_, fun q => ?_, fun q => ?_, fun q => hF (sub _ q), .inr (.inl rfl), .inr (.inr rfl)⟩, ⟨h4, rfl, rfl⟩⟩
  · have := r.len; simp at this; (lia -abstractProof)
  · exact (cV r wn).grow h4
  · exact cP nt (fresh _ (by (lia -abstractProof))) (sub _ q)
  · exact cP nt (fresh _ (by exact Nat.le_refl _)) (sub _ q)

theorem iH (a b : Int) : Builtin.Range.rangeSize a b (-1) = ((a - b).toNat : Int) := by
  unfold Builtin.Range.rangeSize
  simp only [show ¬ ((-1 : Int) > 0) by decide, if_false, show (- -1 : Int) = 1 from rfl, Int.ediv_one]
  split <;> lia
theorem uD {a b : Int} (ha : -100000 ≤ a) (ha' : a ≤ 100000) (hb : -100000 ≤ b) (hb' : b ≤ 100000) : Builtin.Range.small a b (-1) = true := by
  unfold Builtin.Range.small
  rw [iH]
  simp only [Builtin.Range.rangeFitsLong, Bool.and_eq_true, Bool.or_eq_true, decide_eq_true_eq, beq_iff_eq, show ¬ ((-1 : Int) > 0) by decide, if_false]
  omega
theorem iG (a b : Int) : Builtin.Range.rangeSize a b 1 = ((b - a).toNat : Int) := by rw [rangeSize_one]; split <;> (lia -abstractProof)
theorem vk (n : Nat) (a : Int) : rgD n a 1 = dZ n a := by
  unfold rgD dZ
  refine List.map_congr_left fun k Z => ?_
  rw [Int.mul_one]
theorem vm (n : Nat) (a : Int) : rgD n a (-1) = eh n a := by
  unfold rgD eh
  refine List.map_congr_left fun k Z => ?_
  congr 1; (lia -abstractProof)

theorem gB.before {t : Expr} {h h' : Heap} {M F : aR} {ds : List D} {v : Value} {s' : Shared} (x : gB prog w A rc t h' M F ds v s') (k : bD h h') : gB prog w A rc t h M F ds v s' := by
  refine v9 x fun I W St e it n z st => ?_; try clear x
  refine ⟨I, W, St, e, it, fun b hb => ?_, z, st⟩
  cases q : h.get? b with
  | none => rfl
  | some o => have := k b o q; rw [n b hb] at this; exact nS this

theorem o7 {h h' : Heap} {F : aR} (nt : ∀ b, F b → NT h b) (k : bD h h') : ∀ b, F b → NT h' b := fun b q => (nt b q).grow (k b)

theorem gn {h : Heap} {F : aR} {d : D} {vs : List Value} (r : RdAll rc h F [d] vs) : ∃ v, vs = [v] ∧ Rd rc h F d v := by
  refine bm r fun v l e2_ h1 h2 => ?_; obtain rfl := e2_; try clear r
  subst h2
  exact ⟨v, rfl, h1⟩
theorem dC {h : Heap} {F : aR} {d : D} {ds : List D} {vs : List Value} (r : RdAll rc h F (d :: ds) vs) : ∃ v l, vs = v :: l ∧ Rd rc h F d v ∧ RdAll rc h F ds l := by
  exact r

noncomputable def zf (args items : List D) : Prop := (∃ b, args = [.int b] ∧ (-100000 ≤ b ∧ b ≤ 100000) ∧ dZ b.toNat 0 = items) ∨ (∃ a b, args = [.int a, .int b] ∧ (-100000 ≤ a ∧ a ≤ 100000 ∧ -100000 ≤ b ∧ b ≤ 100000) ∧ dZ (b - a).toNat a = items) ∨
  ∃ a b, args = [.int a, .int b, .int (-1)] ∧ (-100000 ≤ a ∧ a ≤ 100000 ∧ -100000 ≤ b ∧ b ≤ 100000) ∧ eh (a - b).toNat a = items
theorem pz {args items : List D} (e : dD args = some items) : zf args items := by
  cases args with
  | nil => exact nS e
  | cons x r => cases x with
    | int a => cases r with
      | nil => exact .inl ⟨a, rfl, cJ e⟩
      | cons y r => cases y with
        | int b => cases r with
          | nil => exact .inr (.inl ⟨a, b, rfl, cJ e⟩)
          | cons z r => cases z with
            | int c => cases r with
              | nil =>
                obtain ⟨⟨rfl, h⟩, e2⟩ := cJ e
                exact .inr (.inr ⟨a, b, rfl, h, e2⟩)
              | cons _ _ => exact nS e
            | _ => cases r <;> exact nS e
        | _ => first | exact nS e | (cases r <;> first | exact nS e | (rename_i r; cases r <;> exact nS e))
    | _ => first | exact nS e | (cases r <;> first | exact nS e | (rename_i r; cases r <;> first | exact nS e | (rename_i r; cases r <;> exact nS e)))
theorem qU {t : Expr} {M F : aR} {args items : List D} {vs : List Value} (hh : A.handled = none) (e : dD args = some items) (ra : RdAll rc s.heap F args vs) (sub : ∀ b, M b → F b) (nt : ∀ b, F b → NT s.heap b) :
    wpAny (model prog w) A (call (.type "range") vs) (fun y s₁ => wpAny (model prog w) A (pyIter y) (fun v s' => gB prog w A rc t s.heap M F items v s' ∧ Gr s s') E s₁) E s := by
  rcases pz e with ⟨b, rfl, hb, rfl⟩ | ⟨a, b, rfl, hb, rfl⟩ | ⟨a, b, rfl, hb, rfl⟩
  · refine aA (gn ra) fun v e1_ r => ?_; obtain rfl := e1_
    obtain ⟨u, rfl⟩ := bw r
    refine call_range_1 ?_
    have k : Gr s { s with heap := s.heap.push { cls := .type "range", data := .fields #[.int 0 s.toks, .int b u, .int 1 (s.toks + 1)] }, toks := s.toks + 1 + 1 } := .push _ _ _
    refine wpAny_mono (ij (rc := rc) (t := t) (M := M) (F := F) hh (IsRange.new ..) (small_one (by decide) (by decide) (by lia) (by lia)) (n := b.toNat) (by rw [iG]; simp) (by have : aF = 1000000 := rfl; lia) sub (o7 nt k.grow)) (fun v s' h => ?_) fun Z Z x => x
    rw [vk] at h
    exact ⟨h.1.before k.grow, k.trans h.2⟩
  · obtain ⟨v, l, rfl, r, ra⟩ := dC ra
    obtain ⟨v', rfl, r'⟩ := gn ra
    obtain ⟨u, rfl⟩ := bw r
    obtain ⟨u', rfl⟩ := bw r'
    refine call_range_2 ?_
    have k : Gr s { s with heap := s.heap.push { cls := .type "range", data := .fields #[.int a u, .int b u', .int 1 s.toks] }, toks := s.toks + 1 } := .push _ _ _
    refine wpAny_mono (ij (rc := rc) (t := t) (M := M) (F := F) hh (IsRange.new ..) (small_one (by lia) (by lia) (by lia) (by lia)) (n := (b - a).toNat) (by rw [iG]) (by have : aF = 1000000 := rfl; lia) sub (o7 nt k.grow)) (fun v s' h => ?_) fun Z Z x => x
    rw [vk] at h
    exact ⟨h.1.before k.grow, k.trans h.2⟩
  · obtain ⟨v, l, rfl, r, ra⟩ := dC ra
    obtain ⟨v1, l1, rfl, r1, ra⟩ := dC ra
    refine aA (gn ra) fun v' e1_ r' => ?_; obtain rfl := e1_
    obtain ⟨u, rfl⟩ := bw r
    obtain ⟨u1, rfl⟩ := bw r1
    obtain ⟨u', rfl⟩ := bw r'
    refine call_range_3 (by decide) ?_ (.inl (PyProof.noPylong_small (by decide)))
    have k : Gr s { s with heap := s.heap.push { cls := .type "range", data := .fields #[.int a u, .int b u1, .int (-1) u'] }, toks := s.toks } := .push _ _ _
    refine wpAny_mono (ij (rc := rc) (t := t) (M := M) (F := F) hh (IsRange.new ..) (uD hb.1 hb.2.1 hb.2.2.1 hb.2.2.2) (n := (a - b).toNat) (by rw [iH]) (by have : aF = 1000000 := rfl; lia) sub (o7 nt k.grow)) (fun v s' h => ?_) fun Z Z x => x
    rw [vm] at h
    exact ⟨h.1.before k.grow, k.trans h.2⟩
end
end Mine
namespace Mine
open PySem PySem.Calls PyProof.Rows

theorem qG : Manifest.owners.lookup (String.ofList ['d', 'e', 's', 'r', 'e', 'v', 'e', 'r'].reverse) = some Manifest.sig_reversed := by kernel_rfl
theorem cb : Slot "reversed" "__next__" "reversed.__next__" :=
  .of (owner := "reversed") (n := "__next__") (by rw [typeLookup_type, builtinLookup_eq_fast]; kernel_rfl) (by decide +kernel) (by decide +kernel) (by decide +kernel)
    (by first | exact .inl (by decide +kernel) | exact .inr (by decide +kernel)) (by rw [isSubtype_type]; kernel_rfl)
theorem iS : entryFor table "reversed.__next__" = some Builtin.«reversed.__next__» := entryFor_of_tree (by kernel_rfl)
theorem gh (a : Value) : argsOk "reversed.__next__" ⟨[a], []⟩ := by
  unfold argsOk; rw [signature?_of (id := "reversed.__next__") (n := ['_', '_', 't', 'x', 'e', 'n', '_', '_']) (o := ['d', 'e', 's', 'r', 'e', 'v', 'e', 'r']) (by kernel_rfl) qG]; kernel_rfl
theorem jB : Slot "reversed" "__iter__" "reversed.__iter__" :=
  .of (owner := "reversed") (n := "__iter__") (by rw [typeLookup_type, builtinLookup_eq_fast]; kernel_rfl) (by decide +kernel) (by decide +kernel) (by decide +kernel)
    (by first | exact .inl (by decide +kernel) | exact .inr (by decide +kernel)) (by rw [isSubtype_type]; kernel_rfl)
theorem mX (a : Value) : argsOk "reversed.__iter__" ⟨[a], []⟩ := by
  unfold argsOk; rw [signature?_of (id := "reversed.__iter__") (n := ['_', '_', 'r', 'e', 't', 'i', '_', '_']) (o := ['d', 'e', 's', 'r', 'e', 'v', 'e', 'r']) (by kernel_rfl) qG]; kernel_rfl
theorem nC : entryFor table "reversed.__iter__" = some Builtin.«dict_keyiterator.__iter__» :=
  entryFor_alias (id' := "dict_keyiterator.__iter__") (by kernel_rfl) (by first | rfl | decide +kernel | (unfold String.splitOn; simp +decide [String.splitOnAux])) (by decide +kernel) (by kernel_rfl)
theorem iy : typeLookup (.type "tuple") "__reversed__" = pure none := by rw [typeLookup_type, builtinLookup_eq_fast]; kernel_rfl
theorem lV : isSubtype (.type "tuple") (.type "dict") = pure false := by rw [isSubtype_type]; kernel_rfl
theorem ob : Slot "reversed" "__init__" "object.__init__" :=
  .of (owner := "object") (n := "__init__") (by rw [typeLookup_type, builtinLookup_eq_fast]; kernel_rfl) (by decide +kernel) (by decide +kernel) (by decide +kernel)
    (by first | exact .inl (by decide +kernel) | exact .inr (by decide +kernel)) (by rw [isSubtype_type]; kernel_rfl)
theorem kC : TypeCalled "reversed" "reversed.__new__" "object.__init__" :=
  ⟨by decide +kernel, by decide +kernel, ⟨_, _, F.mro_reversed⟩, F.made_reversed, by decide +kernel, by rw [isSubtype_type]; kernel_rfl, ob⟩

section
variable {prog : Program} {w : World} {A : Around} {E : Value → Shared → Prop} {s : Shared} {rc : Addr}

noncomputable def mZ (h : Heap) (a t : Addr) (i : Int) : Prop := ∃ o, h.get? a = some o ∧ o.cls = .type "reversed" ∧ o.data = .fields #[.ref t, rawInt i]
theorem mZ.typeIs {a l : Addr} {i : Int} (x : mZ s.heap a l i) : s.TypeIs (.ref a) "reversed" := let ⟨o, ho, hc, _⟩ := x; ⟨o, ho, hc⟩
theorem mZ.at {h h' : Heap} {a l : Addr} {i : Int} (x : mZ h a l i) (e : ∀ o, h.get? a = some o → h'.get? a = some o) : mZ h' a l i := let ⟨o, ho, r⟩ := x; ⟨o, e _ ho, r⟩
theorem nr {it l : Addr} {i : Int} {Q : Value → Shared → Prop} (hit : mZ s.heap it l i) (h : Q (.ref it) s) : wpAny (model prog w) A (pyIter (.ref it)) Q E s := by
  refine wpAny_pyIter_slot hit.typeIs jB (wpAny_call_entry jB hit.typeIs nC ?_ (mX _))
  show wpAny _ _ (ret (.ref it)) _ _ s
  exact wpAny_pure ⟨_, rfl, "reversed", _, hit.typeIs, cb.lookup, h⟩

theorem ll {it l : Addr} {i : Nat} {items : Array Value} {x : Value} {Q : Option Value → Shared → Prop} (hit : mZ s.heap it l (i : Int)) (hl : s.heap.IsTuple l items) (hx : items[i]? = some x) (hz : items.size ≤ aF)
    (hQ : ∀ h' tk, mZ h' it l ((i : Int) - 1) → Heap.SameBut it s.heap h' → Q (some x) { s with heap := h', toks := tk }) : wpAny (model prog w) A (pyNext (.ref it)) Q E s := by
  refine cg (id hit) fun o ho hc hd => ?_
  have hi : i < items.size := (Array.getElem?_eq_some_iff.mp hx).1
  have hz' : aF = 1000000 := rfl
  unfold pyNext
  refine wpAny_bind (wpAny_attempt (wpAny_callSpecial?_slot (name := Str.ofString "__next__") hit.typeIs cb
    (wpAny_call_entry cb hit.typeIs iS ?_ (gh _))))
  unfold Builtin.«reversed.__next__»
  refine wpAny_bind (wpAny_of_eq (a := (Value.ref it, [])) rfl ?_)
  try dsimp only
  refine wpAny_bind (wpAny_field ho hd (x := .ref l) rfl ?_)
  refine wpAny_bind (wpAny_field ho hd (x := rawInt (i : Int)) rfl ?_)
  show wpAny _ _ (if (i : Int) < 0 then _ else _) _ _ s
  rw [if_neg (by (lia -abstractProof))]
  refine wpAny_bind (wpAny_specialOf hl.typeIs slot_tuple_getitem.lookup ?_)
  try dsimp only [Option.isNone_some]
  simp only [Option.isNone_some, Bool.false_eq_true, if_false]
  refine wpAny_bind (wpAny_mkInt ?_)
  have hj : seqIndex? (i : Int) items.size = some i := by
    unfold seqIndex?
    have h1 : ¬ ((i : Int) < 0) := by (lia -abstractProof)
    have h2 : ¬ ((i : Int) ≥ items.size) := by (lia -abstractProof)
    simp [h1, h2] <;> (assumption)
  refine wpAny_bind (wpAny_attempt (getItem_tuple (s := { s with toks := s.toks + 1 }) hl (by exact Int.natCast_nonneg _) (by (lia -abstractProof)) hj hx ?_))
  refine wpAny_bind (wpAny_field (s := { s with toks := s.toks + 1 }) ho hd (x := rawInt (i : Int)) rfl ?_)
  refine wpAny_bind (wpAny_setField (s := { s with toks := s.toks + 1 }) ho hd (by simp) ?_)
  first
  | refine wpAny_pure ⟨x, rfl, wpAny_pure (hQ _ _ ?_ (Heap.SameBut.update ..))⟩
  | refine wpAny_bind (wpAny_pure (wpAny_pure ⟨x, rfl, wpAny_pure (hQ _ _ ?_ (Heap.SameBut.update ..))⟩))
  exact ⟨_, Heap.get?_update_self _ ho (Obj.isFreed_of_fields (Obj.data_mapFields hd _)), (Obj.cls_mapFields ..).trans hc, by
    rw [Obj.data_mapFields hd]; simp⟩

theorem mz {it l : Addr} {Q : Option Value → Shared → Prop} (hh : A.handled = none) (hit : mZ s.heap it l (-1))
    (hQ : ∀ h', Heap.ExtBut it s.heap h' → Q none { s with heap := h' }) : wpAny (model prog w) A (pyNext (.ref it)) Q E s := by
  refine cg (id hit) fun o ho hc hd => ?_
  unfold pyNext
  refine wpAny_bind (wpAny_attempt (wpAny_callSpecial?_slot (name := Str.ofString "__next__") hit.typeIs cb
    (wpAny_call_entry cb hit.typeIs iS ?_ (gh _))))
  unfold Builtin.«reversed.__next__»
  refine wpAny_bind (wpAny_of_eq (a := (Value.ref it, [])) rfl ?_)
  try dsimp only
  refine wpAny_bind (wpAny_field ho hd (x := .ref l) rfl ?_)
  refine wpAny_bind (wpAny_field ho hd (x := rawInt (-1)) rfl ?_)
  show wpAny _ _ (if (-1 : Int) < 0 then _ else _) _ _ s
  rw [if_pos (by decide)]
  refine wpAny_bind (wpAny_rule ?_)
  refine wpAny_bind ?_
  show wpAny _ _ (setField (.ref it) 1 (rawInt (-1)) >>= _) _ _ s
  refine wpAny_bind (wpAny_setField ho hd (by simp) ?_)
  have ho2 := Heap.get?_update_self (f := Obj.mapFields fun x => x.setIfInBounds 1 (rawInt (-1))) ho (Obj.isFreed_of_fields (Obj.data_mapFields hd _))
  refine wpAny_setField (s := { s with heap := s.heap.update it (Obj.mapFields fun x => x.setIfInBounds 1 (rawInt (-1))) }) ho2 (Obj.data_mapFields hd _) (by simp) ?_
  refine wpAny_bind ?_
  show wpAny _ _ (newExc (.type "StopIteration") [] >>= _) _ _ _
  refine wpAny_bind ?_
  simp only [newExc, newTuple]
  refine wpAny_bind (wpAny_newObj_type ?_ (by size_fits))
  refine wpAny_bind (m := firstArgMember _ _) (wpAny_of_eq (a := Value.none) (by first | rfl | (simp only [firstArgMember]; rfl)) ?_)
  refine wpAny_newObj_type ?_ (by size_fits)
  simp only [raiseNew]
  refine wpAny_bind (wpAny_handled ?_)
  first | rw [show A.in1.handled = none from hh] | rw [hh]
  refine wpAny_bind (wpAny_pure (wpAny_throw ?_))
  refine wpAny_bind (wpAny_isInstance (T := "StopIteration") (b := true) ⟨_, Heap.get?_push_size _ rfl, rfl⟩ isSubtype_stop ?_)
  exact wpAny_pure (hQ _ ((((Heap.SameBut.update ..).trans (Heap.SameBut.update ..)).extBut.push _).push _))

theorem vC (hh : A.handled = none) (I l : Addr) (hne : l ≠ I) (items : Array Value) (hz : items.size ≤ aF) :
    Walks prog w A I [I, l] [I] items.size (fun i v => items[items.size - 1 - i]? = some v) (fun i h => i ≤ items.size ∧ mZ h I l ((items.size : Int) - 1 - (i : Int)) ∧ h.IsTuple l items) where
  sub := fun b hb => by simp at hb; simp [hb]
  frame := fun Z Z Z x hk => ⟨x.1, x.2.1.at fun o e => hk I (by simp) o e, x.2.2.at fun o e => hk l (by simp) o e⟩
  item := fun i s Q E hi x hQ => by
    have e : (items.size : Int) - 1 - (i : Int) = ((items.size - 1 - i : Nat) : Int) := by omega
    have hit := x.2.1
    rw [e] at hit
    have hx : items[items.size - 1 - i]? = some (items[items.size - 1 - i]'(by omega)) := Array.getElem?_eq_getElem (by omega)
    refine ll hit x.2.2 hx hz fun h' tk hit' hs' => ?_
    have e2 : ((items.size - 1 - i : Nat) : Int) - 1 = (items.size : Int) - 1 - ((i + 1 : Nat) : Int) := by omega
    rw [e2] at hit'
    exact hQ _ h' tk hx ⟨hi, hit', x.2.2.at fun o eo => (hs'.2 l hne).trans eo⟩ fun b o hb eo => hs'.extBut b o (fun h => hb (by simp [h])) eo
  done := fun s Q E x hQ => by
    have e : (items.size : Int) - 1 - (items.size : Int) = -1 := by omega
    have hit := x.2.1
    rw [e] at hit
    exact mz hh hit fun h' he' => hQ h' s.toks fun b o hb eo => he' b o (fun h => hb (by simp [h])) eo
  self := fun Z Z Z Z x hQ => nr x.2.1 hQ

noncomputable def lZ (l : Addr) (i : Int) : Obj := { cls := .type "reversed", data := .fields #[.ref l, rawInt i] }
theorem qo {l : Addr} {items : Array Value} {Q₁ : Value → Shared → Prop} (hl : s.heap.IsTuple l items) (hz : items.size ≤ aF)
    (h : ∀ tk, Q₁ (.ref s.heap.objs.size) { s with heap := s.heap.push (lZ l ((items.size : Int) - 1)), toks := tk }) :
    codeAny (model prog w) A (.call (.builtin "reversed.__new__") ⟨[.type "reversed", .ref l], []⟩) (wants Q₁ E) s := by
  have hz' : aF = 1000000 := rfl
  refine codeAny_of_tree ?_
  show wpAny _ A.in1 (do checkBuiltinCall "reversed.__new__" ⟨[.type "reversed", .ref l], []⟩; again (.builtin "reversed.__new__" ⟨[.type "reversed", .ref l], []⟩)) _ _ s
  refine wpAny_bind (wpAny_of_eq (F.newCall_reversed_1 _) (wpAny_pure ⟨plainId_quiet F.plain_reversed_new _, codeAny_builtin F.entry_reversed_new ?_⟩))
  rw [Around.under_plainId F.plain_reversed_new _]
  unfold Builtin.«reversed.__new__»
  refine wpAny_bind (wpAny_of_eq (newClass_reversed _) ?_)
  try dsimp only
  refine wpAny_bind (wpAny_of_eq (a := ()) (by first | rfl | kernel_rfl) ?_)
  refine wpAny_bind (wpAny_of_eq (a := ()) (by first | rfl | kernel_rfl) ?_)
  try dsimp only
  refine wpAny_bind (wpAny_specialOf hl.typeIs iy ?_)
  try dsimp only
  refine wpAny_bind ?_
  show wpAny _ _ (isInstance (.ref l) (.type "dict") >>= _) _ _ s
  refine wpAny_bind (wpAny_isInstance hl.typeIs lV ?_)
  simp only [Bool.false_eq_true, if_false]
  refine wpAny_bind (wpAny_specialOf hl.typeIs slot_tuple_getitem.lookup ?_)
  try dsimp only
  rw [if_pos (by decide +kernel)]
  refine wpAny_pure ?_
  simp only [Bool.not_true, Bool.false_eq_true, if_false]
  refine wpAny_bind (len_tuple hl (by lia) ?_)
  refine wpAny_bind (m := asInt? _) (wpAny_pure ?_)
  try dsimp only
  refine wpAny_bind (m := Builtin.SmallTypes.newRecord _ _) ?_
  unfold Builtin.SmallTypes.newRecord
  exact wpAny_newObj_type (wpAny_pure (h _))

theorem nI {T newId initId : String} {Bi : Builtin} {args : List Value} {Q Q₁ : Value → Shared → Prop} (ft : TypeCalled T newId initId)
    (hct : checkTypeCall T ⟨args, []⟩ = pure ()) (entryI : entryFor table initId = some Bi)
    (hnew : codeAny (model prog w) A.in1 (.call (.builtin newId) ⟨.type T :: args, []⟩) (wants Q₁ E) s)
    (hnext : ∀ obj s₁, Q₁ obj s₁ → s₁.TypeIs obj T ∧ argsOk initId ⟨obj :: args, []⟩ ∧ ∃ Si, Meets (Bi ⟨obj :: args, []⟩) Si ∧ Si A.in1 (wants (fun r s₂ => r = .none ∧ Q obj s₂) E) s₁) :
    wpAny (model prog w) A (call (.type T) args) Q E s := by
  refine cY ft.mro fun c tl hmro => ?_
  have hmade := ft.made
  have hsub := ft.sub
  refine wpAny_call (codeAny_of_tree ?_)
  show wpAny _ _ (callAny (.type T) _) _ _ _
  refine wpAny_pure ⟨Code.quiet_builtin _ (by decide +kernel), codeAny_builtin F.entry_type_call ?_⟩
  rw [Around.under_plain (weight_type_call_type T args []) (units_type_call_type T args [])]
  have h1 := ft.notType
  have h2 := ft.canCreate
  repeat (any_goals (first | assumption | wp_step))
  refine codeAny_mono hnew fun r s₁ hr => ?_
  cases r with
  | error e => exact hr
  | ok fl =>
    cases fl with
    | ret obj =>
      obtain ⟨hT, hok, Si, gi, hsi⟩ := hnext _ _ hr
      have hli := ft.init.lookup
      have hbi := ft.init.bind obj
      repeat (any_goals (first | assumption | wp_step))
      refine codeAny_mono (codeAny_call_builtin ft.init.plain entryI (ft.init.check _ _ _ _ _ _ _ _ hT hok (gi prog w A.in1 _ s₁ hsi))) fun r₂ s₂ hr₂ => ?_
      cases r₂ with
      | error e => exact hr₂
      | ok fl₂ =>
        cases fl₂ with
        | ret r =>
          obtain ⟨rfl, hq⟩ := hr₂
          repeat (any_goals (first | assumption | wp_step))
        | _ => exact hr₂.elim
    | _ => exact hr.elim

theorem nG {l : Addr} {items : Array Value} {Q : Value → Shared → Prop} (hl : s.heap.IsTuple l items) (hz : items.size ≤ aF)
    (h : ∀ tk, Q (.ref s.heap.objs.size) { s with heap := s.heap.push (lZ l ((items.size : Int) - 1)), toks := tk }) : wpAny (model prog w) A (call (.type "reversed") [.ref l]) Q E s := by
  refine nI (Q₁ := fun obj s₁ => obj = .ref s.heap.objs.size ∧ ∃ tk, s₁ = { s with heap := s.heap.push (lZ l ((items.size : Int) - 1)), toks := tk }) kC (F.typeCall_reversed_1 _) F.entry_object_init (qo hl hz fun tk => ⟨rfl, tk, rfl⟩) ?_
  rintro obj s₁ ⟨rfl, tk, rfl⟩
  have hT : Shared.TypeIs { s with heap := s.heap.push (lZ l ((items.size : Int) - 1)), toks := tk } (.ref s.heap.objs.size) "reversed" := ⟨_, Heap.get?_push_size _ rfl, rfl⟩
  exact ⟨hT, F.args_object_init_2 _ _, _, object_init_meets kC.init.lookup kC.made (by decide), hT, rfl, h tk⟩

theorem wU {t : Expr} {M F : aR} {ds : List D} {x : Value} (hh : A.handled = none) (ra : Rd rc s.heap F (.tuple ds) x) (sub : ∀ b, M b → F b) (nt : ∀ b, F b → NT s.heap b) :
    wpAny (model prog w) A (call (.type "reversed") [x]) (fun y s₁ => wpAny (model prog w) A (pyIter y) (fun v s' => gB prog w A rc t s.heap M F ds.reverse v s' ∧ Gr s s') E s₁) E s := by
  refine cW ra fun ax vs e2_ hl hF hz r => ?_; obtain rfl := e2_; try clear ra
  refine nG hl hz fun tk => ?_
  have hne : ax ≠ s.heap.objs.size := by refine aA hl fun o ho Z => ?_; exact Nat.ne_of_lt (Heap.lt_size ho)
  have hit : mZ (s.heap.push (lZ ax ((vs.size : Int) - 1))) s.heap.objs.size ax ((vs.size : Int) - 1 - ((0 : Nat) : Int)) := ⟨_, Heap.get?_push_size _ rfl, rfl, by simp [lZ]⟩
  refine nr (s := { s with heap := s.heap.push (lZ ax ((vs.size : Int) - 1)), toks := tk }) hit ?_
  have len := r.len
  refine ⟨⟨_, _, _, rfl, It.of (vC hh s.heap.objs.size ax hne vs hz) (fun i h st b hb => ?_) (fun i h st b hb => ?_) (fun i h st => ?_), fun b hb => ?_, ?_, ?_⟩, .push _ _ _⟩
  · simp at hb
    refine lr st fun Z z1_ z2_ => ?_; obtain ⟨o, h1, _⟩ := z1_; obtain ⟨o', h2, _⟩ := z2_; try clear st
    rcases hb with rfl | rfl
    · exact ⟨o, h1⟩
    · exact ⟨o', h2⟩
  · refine lr st fun Z z1_ Z => ?_; obtain ⟨o, h1, h2, _⟩ := z1_; try clear st
    simp at hb; subst hb
    exact kL h1 h2 (by decide)
  · refine lr st fun Z z1_ Z => ?_; obtain ⟨o, h1, h2, _⟩ := z1_; try clear st
    exact ⟨o, _, h1, h2, by decide⟩
  · simp at hb; subst hb; exact get?_size _
  · simp at len ⊢; (lia -abstractProof)
  · refine ⟨0, ⟨Nat.zero_le _, hit, hl.at fun o e => Heap.get?_push_of_some _ e⟩, by simp at len; simp; (lia -abstractProof), ?_, fun b hb q => ?_, fun b hb => .inr (by simpa using hb)⟩
    · have r' := (cV (W := fun b => b ∈ [s.heap.objs.size]) r (fun b hb => by simp at hb; subst hb; exact get?_size _)).reverse
      intro j d v e1 e2
      refine Rd.grow ?_ (.push _)
      refine (dg.mp r').2 j d v e1 ?_
      rw [Nat.zero_add] at e2
      have hj : j < vs.size := by
        have := (List.getElem?_eq_some_iff.mp e1).1
        simp at this len; (lia -abstractProof)
      rw [List.getElem?_reverse (by simpa using hj)]
      simpa using e2
    · simp at hb
      rcases hb with rfl | rfl
      · exact cP nt (get?_size _) (sub _ q)
      · exact hF (sub _ q)
end
end Mine
namespace Mine
open PySem PySem.Calls PyProof.Rows

theorem qT {α : Type} {ask : Nat → Nat → (Bool → Shared → Prop) → Shared → Prop} {lt : Nat → Nat → Bool} {n : Nat} {P : Shared → Prop} {G : α → Shared → Prop}
    (h : ∀ i j C s, i < n → j < n → P s → (∀ s', P s' → C (lt i j) s') → ask i j C s) : ∀ (d : Nat) (t : KasT α) (s : Shared), inT n d t = true → (∀ s, P s → G (iB lt t) s) → P s → t.kasWp ask G s
  | _, .ret a, s, _, g, p => g s p
  | 0, .ask _ _ _, _, e, _, _ => fT e
  | d + 1, .ask i j k, s, e, g, p => by
    simp only [inT_c, Bool.and_eq_true, decide_eq_true_eq] at e
    refine h i j _ s e.1.1.1 e.1.1.2 p fun s' p' => ?_
    have hk : inT n d (k (lt i j)) = true := by cases lt i j; exact e.2; exact e.1.2
    exact qT h d _ s' hk g p'

section
variable {prog : Program} {w : World} {A : Around} {E : Value → Shared → Prop} {s : Shared} {rc : Addr}

noncomputable def mY (h : Heap) (v : Value) (r : List Int) : Prop := ∃ a xs ts, v = .ref a ∧ h.IsTuple a xs ∧ ts.length = r.length ∧ xs.toList = (r.zip ts).map fun x => Value.int x.1 x.2
theorem rU {h h' : Heap} (k : ∀ b vs, h.IsTuple b vs → h'.IsTuple b vs) {v : Value} {r : List Int} (x : mY h v r) : mY h' v r := by
  refine wA x fun a xs ts e ht q => ?_; try clear x
  exact ⟨a, xs, ts, e, k a xs ht, q⟩

theorem qR {b : Bool} {C : Bool → Shared → Prop} : ∀ (r t : List Int) (ts us : List Tok) (i : Nat) (fin : Bool), ts.length = r.length → us.length = t.length → r.length = t.length → fin = false → b = true →
    C (aW r t) s → KatLex prog w A b fin C (((r.zip ts).map fun x => Value.int x.1 x.2).zip ((t.zip us).map fun x => Value.int x.1 x.2)) i s
  | [], [], _, _, _, _, _, _, _, hf, _, h => by
    subst hf
    simp only [List.zip_nil_left, List.map_nil]
    exact h
  | [], _ :: _, _, _, _, _, _, _, hl, _, _, _ => by simp at hl
  | _ :: _, [], _, _, _, _, _, _, hl, _, _, _ => by simp at hl
  | x :: r, y :: t, [], _, _, _, h1, _, _, _, _, _ => by simp at h1
  | x :: r, y :: t, _ :: _, [], _, _, _, h1, _, _, _, _ => by simp at h1
  | x :: r, y :: t, t1 :: ts, u1 :: us, i, fin, h1, h2, h3, hf, hb, h => by
    simp only [List.zip_cons_cons, List.map_cons]
    refine kat_cons (wpAny_eqBool_int ?_)
    simp only [List.length_cons, Nat.add_right_cancel_iff] at h1 h2 h3
    by_cases hxy : x = y
    · subst hxy
      rw [beq_self_eq_true]
      refine kat_yes (qR r t ts us (i + 1) fin h1 h2 h3 hf hb ?_)
      simpa [ch] using h
    · have : (x == y) = false := by simpa using hxy
      rw [this]
      refine kat_no ?_
      rw [ch, if_neg hxy] at h
      cases hbi : (b && i == 0) with
      | true => exact oneLt_int h
      | false => exact kat_one _ _ (P.lt_int h)

theorem vh {vs : List Value} {rs : List (List Int)} {k : Nat} (hl : vs.length = rs.length) (hk : ∀ r ∈ rs, r.length = k) (i j : Nat) (C : Bool → Shared → Prop) (hi : i < rs.length) (hj : j < rs.length)
    (hv : ∀ i, i < rs.length → mY s.heap (vs.getD i Value.none) (rs.getD i [])) (h : C (aW (rs.getD i []) (rs.getD j [])) s) : kas_ask prog w A (tuples' true) vs i j C s := by
  unfold kas_ask
  refine kK (hv i hi) fun a xs ts e z4_ h1 h2 => ?_; obtain ⟨o, ho, hc, n, hd⟩ := z4_
  refine kK (hv j hj) fun b ys us e' z4_ h1' h2' => ?_; obtain ⟨o', ho', hc', n', hd'⟩ := z4_
  rw [e, e']
  have ki : (rs.getD i []).length = k := hk _ (by simp [List.getD, hi])
  have kj : (rs.getD j []).length = k := hk _ (by simp [List.getD, hj])
  have sx : xs.size = k := by rw [← Array.length_toList, h2, List.length_map, List.length_zip, h1, ki]; simp
  have sy : ys.size = k := by rw [← Array.length_toList, h2', List.length_map, List.length_zip, h1', kj]; simp
  refine kat_lt ho hd ho' hd' ?_
  rw [h2, h2']
  exact qR _ _ ts us 0 _ h1 h1' (ki.trans kj.symm) (by rw [sx, sy]; simp) rfl h

theorem kN {a : Addr} {vs : List Value} {n : Nat} {P : PySem.Fin → Shared → Prop} (ho : s.heap.get? a = some (seqObj "list" vs.toArray n)) (hlt : vs.length < 2)
    (h : P (.done (.ret .none)) { s with heap := sortedHeap s.heap a vs vs.toArray }) : wpAny (model prog w) A (Builtin.«list.sort» ⟨[.ref a], []⟩) P E s := by
  rw [list_sort_plain]
  have ha : a < s.heap.objs.size := Heap.lt_size ho
  refine wpAny_bind (listItems_at ho rfl ?_)
  refine wpAny_bind (listUpdate_at ho rfl ?_ (by rw [List.size_toArray, sizeLine_eq]; exact nlw (by assumption) (by decide)) (Nat.zero_le _))
  obtain ⟨e1, ho1⟩ : ∃ e1, (s.heap.update a (Obj.mapSeq fun Z => #[])).get? a = some (seqObj "list" #[] e1) := ⟨_, get?_update_seq ho (fun Z => #[])⟩
  refine wpAny_bind (seqEpoch_at ho1 rfl ?_)
  refine wpAny_bind (wpAny_newTuple ?_ (by show vs.length ≤ _; rw [sizeLine_eq]; exact nlw (by assumption) (by decide)))
  refine wpAny_bind (wpAny_newList ?_ (Nat.zero_le _))
  refine wpAny_holding ?_
  have ho6 : (((s.heap.update a (Obj.mapSeq fun Z => #[])).push (seqObj "tuple" vs.toArray 0)).push (seqObj "list" #[] 0)).get? a = some (seqObj "list" #[] e1) := by
    rw [Heap.get?_push_ne _ _ _ (by rw [size_push', Heap.size_update]; exact Nat.ne_of_lt (Nat.lt_succ_of_lt ha)), Heap.get?_push_ne _ _ _ (by rw [Heap.size_update]; exact Nat.ne_of_lt ha)]
    exact ho1
  show wpAny (model prog w) A _ P E { s with heap := ((s.heap.update a (Obj.mapSeq fun Z => #[])).push (seqObj "tuple" vs.toArray 0)).push (seqObj "list" #[] 0) }
  dsimp only
  have h2 : vs.toArray.size < 2 := by simpa using hlt
  rw [if_pos h2, if_pos h2]
  refine wpAny_bind (wpAny_pure ?_)
  rw [StateT.run_pure]
  refine wpAny_bind (wpAny_pure ?_)
  dsimp only
  refine wpAny_bind (seqEpoch_at ho6 rfl ?_)
  have e2 : (arrOf (SortSt.mk' general' (vs.toArray.zip vs.toArray) #[] 7 none)).map (·.2) = vs.toArray := by
    show (vs.toArray.zip vs.toArray).map (·.2) = vs.toArray
    rw [← Array.toList_inj]
    simp [List.map_snd_zip]
  refine wpAny_bind (listUpdate_at ho6 rfl ?_ (Nat.zero_le _) (hsz2 := by rw [Array.size_map]; show (pairsOf vs).size ≤ _; rw [pairsOf_size, sizeLine_eq]; exact nlw (by assumption) (by decide)))
  simp only [bne_self_eq_false, Bool.false_eq_true, if_false]
  refine wpAny_pure ?_
  have e3 : (Array.map (fun x => x.2) (vs.toArray.zip vs.toArray)) = vs.toArray := e2
  unfold sortedHeap at h
  simp only [e3] at h ⊢
  exact h

theorem sC {M : Model} {h : Heap} {rs : List (List Int)} {vs : List Value} {k : Nat} (hv : ∀ i, i < rs.length → mY h (vs.getD i Value.none) (rs.getD i [])) (hl : vs.length = rs.length) (hk : ∀ r ∈ rs, r.length = k + 1) :
    ∃ fs, KatTups h vs fs ∧ fs.length = rs.length ∧ ∀ v ∈ fs, Looks M h (typeOf v) (.type "int") := by
  induction rs generalizing vs with
  | nil =>
    have : vs = [] := by simpa using hl
    subst this
    exact ⟨[], KatTups.nil, rfl, fun Z m => nomatch m⟩
  | cons r rs ih =>
    cases vs with
    | nil => simp at hl
    | cons v vs =>
      refine cg (ih (vs := vs) (fun i hi => by simpa using hv (i + 1) (by simpa using hi)) (by simpa using hl) (fun q m => hk q (.tail _ m))) fun fs h1 h2 h3 => ?_
      have h0 := hv 0 (by simp)
      refine kK h0 fun a xs ts e z4_ l1 l2 => ?_; obtain ⟨o, ho, hc, n, hd⟩ := z4_; try clear h0
      simp only [List.getD_cons_zero] at e l1 l2
      subst e
      have hr : r.length = k + 1 := hk r (.head _)
      obtain ⟨x, r', rfl⟩ : ∃ x r', r = x :: r' := by cases r with | nil => simp at hr | cons x r' => exact ⟨x, r', rfl⟩
      obtain ⟨t, ts', rfl⟩ : ∃ t ts', ts = t :: ts' := by cases ts with | nil => simp at l1 | cons x r' => exact ⟨x, r', rfl⟩
      simp only [List.zip_cons_cons, List.map_cons] at l2
      have hx : xs[0]? = some (.int x t) := by
        rw [← Array.getElem?_toList, l2]; rfl
      refine ⟨.int x t :: fs, KatTups.cons ho hc hd hx h1, by simp [h2], fun v m => ?_⟩
      rcases List.mem_cons.mp m with rfl | m
      · exact Looks.now
      · exact h3 v m

theorem r9 {a : Addr} {vs : List Value} {rs : List (List Int)} {k n : Nat} {P : PySem.Fin → Shared → Prop} (ho : s.heap.get? a = some (seqObj "list" vs.toArray n)) (hl : vs.length = rs.length) (h2 : 2 ≤ rs.length) (h64 : rs.length < 64)
    (ok : okN rs.length = true) (hk : ∀ r ∈ rs, r.length = k + 1) (hv : ∀ i, i < rs.length → mY s.heap (vs.getD i Value.none) (rs.getD i []))
    (h : ∀ p : List Nat, (∀ i ∈ p, i < rs.length) → p.map (fun i => rs.getD i []) = i9 rs → P (.done (.ret .none)) { s with heap := sortedHeap s.heap a vs (p.map fun i => vs.getD i Value.none).toArray }) :
    wpAny (model prog w) A (Builtin.«list.sort» ⟨[.ref a], []⟩) P E s := by
  rw [list_sort_plain]
  have ha : a < s.heap.objs.size := Heap.lt_size ho
  refine wpAny_bind (listItems_at ho rfl ?_)
  refine wpAny_bind (listUpdate_at ho rfl ?_ (by rw [List.size_toArray, sizeLine_eq]; lia) (Nat.zero_le _))
  obtain ⟨e1, ho1⟩ : ∃ e1, (s.heap.update a (Obj.mapSeq fun Z => #[])).get? a = some (seqObj "list" #[] e1) := ⟨_, get?_update_seq ho (fun Z => #[])⟩
  refine wpAny_bind (seqEpoch_at ho1 rfl ?_)
  refine wpAny_bind (wpAny_newTuple ?_ (by show vs.length ≤ _; rw [sizeLine_eq]; lia))
  refine wpAny_bind (wpAny_newList ?_ (Nat.zero_le _))
  refine wpAny_holding ?_
  have ho6 : (((s.heap.update a (Obj.mapSeq fun Z => #[])).push (seqObj "tuple" vs.toArray 0)).push (seqObj "list" #[] 0)).get? a = some (seqObj "list" #[] e1) := by
    rw [Heap.get?_push_ne _ _ _ (by rw [size_push', Heap.size_update]; exact Nat.ne_of_lt (Nat.lt_succ_of_lt ha)), Heap.get?_push_ne _ _ _ (by rw [Heap.size_update]; exact Nat.ne_of_lt ha)]
    exact ho1
  have hv6 : ∀ i, i < rs.length → mY (((s.heap.update a (Obj.mapSeq fun Z => #[])).push (seqObj "tuple" vs.toArray 0)).push (seqObj "list" #[] 0)) (vs.getD i Value.none) (rs.getD i []) := fun i hi => by
    refine rU (fun b xs ht => ?_) (hv i hi)
    obtain ⟨o, hb, hc, m, hd⟩ := ht
    have hne : b ≠ a := fun q => by rw [q, ho] at hb; obtain rfl := Option.some.inj hb; injection hc with hc; exact absurd hc (by decide)
    exact ⟨o, Heap.get?_push_of_some _ (Heap.get?_push_of_some _ (by rw [Heap.get?_update_ne _ _ _ _ hne]; exact hb)), hc, m, hd⟩
  show wpAny (model prog w) A _ P E { s with heap := ((s.heap.update a (Obj.mapSeq fun Z => #[])).push (seqObj "tuple" vs.toArray 0)).push (seqObj "list" #[] 0) }
  generalize hH : ((s.heap.update a (Obj.mapSeq fun Z => (#[] : Array Value))).push (seqObj "tuple" vs.toArray 0)).push (seqObj "list" #[] 0) = H at ho6 hv6
  dsimp only
  have hn2 : ¬ vs.toArray.size < 2 := by rw [List.size_toArray]; lia
  rw [if_neg hn2, if_neg hn2]
  obtain ⟨fs, t1, t2, t3⟩ := sC (M := model prog w) hv6 hl hk
  refine wpAny_bind (kat_kind (s := { s with heap := H }) (T := .type "int") t1 (by lia) t3 (by decide) ?_)
  rw [show ((Value.type "int" : Value) != Value.type "tuple") = true by decide]
  have run : (kas_sort vs.length).kasWp (kas_ask prog w A (tuples' true) vs) (fun p s' => s' = { s with heap := H } ∧ p = iB (fun i j => aW (rs.getD i []) (rs.getD j [])) (kas_sort vs.length)) { s with heap := H } := by
    have okk : inT rs.length 12 (kas_sort rs.length) = true := by unfold okN at ok; rw [Bool.and_eq_true] at ok; exact ok.1
    refine qT (n := rs.length) (lt := fun i j => aW (rs.getD i []) (rs.getD j [])) (P := fun s' => s' = { s with heap := H }) (fun i j C s' hi hj e hC => ?_) 12 _ _ (by rw [hl]; exact okk) (fun s' e => ⟨e, rfl⟩) rfl
    subst e
    exact vh (s := { s with heap := H }) hl hk i j C hi hj hv6 (hC _ rfl)
  refine wpAny_bind (wpAny_mono (kat_run (ks := vs) (vs := vs) (Q := fun st' s' => ∃ p : Array Nat, p.size = vs.length ∧ arrOf st' = p.map (kas_item (vs.toArray.zip vs.toArray)) ∧ failedOf st' = none ∧ s' = { s with heap := H } ∧ p = iB (fun i j => aW (rs.getD i []) (rs.getD j [])) (kas_sort vs.length))
    rfl (by exact Nat.le_of_not_lt (by assumption)) (by lia) (fun p' st' s' a1 a2 a3 a4 => ⟨p', a1, a2, a3, a4.1, a4.2⟩) run) ?_ fun Z Z e => e)
  rintro ⟨⟨⟩, st'⟩ s' ⟨p, hp, har, hf, rfl, hrun⟩
  dsimp only
  have hout := kat_snds (ks := vs) (vs := vs) rfl har
  rw [hout]
  have hsz : (List.toArray (p.toList.map fun i => vs.getD i Value.none)).size = vs.length := by rw [List.size_toArray, List.length_map, Array.length_toList, hp]
  refine wpAny_bind (seqEpoch_at (s := { s with heap := H }) ho6 rfl ?_)
  refine wpAny_bind (listUpdate_at (s := { s with heap := H }) ho6 rfl ?_ (Nat.zero_le _) (Nat.le_trans (Nat.le_of_eq hsz) (by rw [sizeLine_eq]; lia)))
  rw [hf]
  simp only [bne_self_eq_false, Bool.false_eq_true, if_false]
  refine wpAny_pure ?_
  have hs := pr ok
  rw [hl] at hrun
  have hperm : ∀ i ∈ p.toList, i < rs.length := by
    have okk := ok
    unfold okN at okk
    rw [Bool.and_eq_true] at okk
    have hmem : rs.map (ce rs) ∈ dk rs.length rs.length := by
      have := fU rs.length (rs.map (ce rs)) fun x hx => by
        obtain ⟨a, ha, rfl⟩ := List.mem_map.mp hx
        exact lj ha
      rwa [List.length_map] at this
    have h' := List.all_eq_true.mp okk.2 _ hmem
    unfold rn at h'
    rw [Bool.and_eq_true] at h'
    have e : iB (fun i j => aW (rs.getD i []) (rs.getD j [])) (kas_sort rs.length) = iB (fun i j => decide ((rs.map (ce rs)).getD i 0 < (rs.map (ce rs)).getD j 0)) (kas_sort rs.length) := by
      refine fO (n := rs.length) (fun i j hi hj => ?_) 12 _ okk.1
      rw [dh _ _ _ [] _ hi, dh _ _ _ [] _ hj, oq (by simp [List.getD, hi])]
    intro i m
    rw [hrun, e] at m
    exact List.mem_range.mp ((List.isPerm_iff.mp h'.2).mem_iff.mp m)
  have := h p.toList hperm (by rw [hrun]; exact hs)
  unfold sortedHeap at this
  rw [← hH]
  exact this

theorem jp {x : Addr} {T : String} {o : Obj} {vs : List Value} {n : Nat} {Q : Value → Shared → Prop} (hT : T = "list" ∨ T = "tuple") (ho : s.heap.get? x = some o) (hc : o.cls = .type T) (hd : o.data = .seq vs.toArray n) (hsz : vs.length ≤ aF)
    (h : ∀ (s' : Shared) (a : Addr) (P : PySem.Fin → Shared → Prop), Gr s s' → s'.heap.get? a = some (seqObj "list" vs.toArray 0) → s.heap.get? a = none → (∀ out, (∃ e, (sortedHeap s'.heap a vs out).get? a = some (seqObj "list" out e)) → Q (.ref a) { s' with heap := sortedHeap s'.heap a vs out } → P (.done (.ret .none)) { s' with heap := sortedHeap s'.heap a vs out }) →
      wpAny (model prog w) A.in1.in1 (Builtin.«list.sort» ⟨[.ref a], []⟩) P E s') :
    wpAny (model prog w) A (call (.builtin "sorted") [.ref x]) Q E s := by
  have hz : aF ≤ sizeLine := aa
  refine Calls.call_function_entry kind_sorted plain_sorted entry_sorted (args_sorted1 _) ?_
  unfold Builtin.«sorted»
  refine wpAny_bind (m := checkCount "sorted" 1 1 _) (wpAny_pure ?_)
  refine wpAny_bind (wpAny_collect_seq x hT ho hc hd (fun h' hk => ?_) (by rw [List.size_toArray]; exact nle (by assumption) (by decide)))
  refine wpAny_bind (wpAny_newList ?_ (by show vs.length ≤ _; exact nle (by assumption) (by decide)))
  have hoL : (h'.push (seqObj "list" vs.toArray 0)).get? h'.objs.size = some (seqObj "list" vs.toArray 0) := Heap.get?_push_size _ rfl
  have hfr : s.heap.get? h'.objs.size = none := by
    cases q : s.heap.get? h'.objs.size with
    | none => rfl
    | some o' => exact absurd (Heap.lt_size (hk _ _ q)) (Nat.lt_irrefl _)
  refine wpAny_bind (wpAny_holding (wpAny_call_entry slot_list_sort ⟨_, hoL, rfl⟩ entry_list_sort (h { s with heap := h'.push (seqObj "list" vs.toArray 0) } h'.objs.size _ ⟨fun b o e => Heap.get?_push_of_some _ (hk b o e), rfl, rfl⟩ hoL hfr fun out Z hq => ⟨_, rfl, ?_⟩) (args_list_sort _)))
  exact wpAny_pure ⟨_, rfl, hq⟩

theorem fA : ∀ {xs : List D} {is : List Int}, iN xs = some is → xs = is.map .int
  | [], is, e => by obtain rfl := Option.some.inj e; rfl
  | .int i :: r, is, e => by
    refine aA (Option.map_eq_some_iff.mp (show (iN r).map (i :: ·) = some is from e)) fun js e1 e2_ => ?_; obtain rfl := e2_
    rw [fA e1]; rfl
  | .none :: _, _, e | .bool _ :: _, _, e | .str _ :: _, _, e | .list _ :: _, _, e | .tuple _ :: _, _, e | .dict _ :: _, _, e => by exact nS e
theorem d7 {h : Heap} {F : aR} : ∀ {is : List Int} {vs : List Value}, RdAll rc h F (is.map .int) vs → IntsAre vs is
  | [], vs, r => by obtain rfl : vs = [] := r; exact .nil
  | i :: is, vs, r => by
    refine bm (dC r) fun v l e2_ h1 h2 => ?_; obtain rfl := e2_
    obtain ⟨t, rfl⟩ := bw h1
    exact .cons i t (d7 h2)
theorem yO {h : Heap} {F : aR} {vs : List Value} {is : List Int} (x : IntsAre vs is) : RdAll rc h F (is.map .int) vs := by
  induction x with
  | nil => exact .nil
  | cons n t _ ih => exact .cons au ih
theorem gS {vs : List Value} {is : List Int} (x : IntsAre vs is) : ∃ ts : List Tok, ts.length = is.length ∧ vs = (is.zip ts).map fun x => Value.int x.1 x.2 := by
  induction x with
  | nil => exact ⟨[], rfl, rfl⟩
  | cons n t _ ih => refine aA ih fun ts h1 h2 => ?_; exact ⟨t :: ts, by simp [h1], by simp [h2]⟩
set_option tactic.hygienic true in
theorem ng {k : Nat} : ∀ {xs : List D} {rs : List (List Int)}, lg k xs = some rs → xs = rs.map dG ∧ ∀ r ∈ rs, r.length = k
  | [], rs, e => by obtain rfl := Option.some.inj e; exact ⟨rfl, fun Z m => nomatch m⟩
  | .tuple ys :: r, rs, e => by
    rw [s5] at e
    split at e
    · rename_i is e1
      split at e
      · rename_i hk
        refine aA (Option.map_eq_some_iff.mp e) fun qs e2 e2_ => ?_; obtain rfl := e2_
        obtain ⟨e3, h3⟩ := ng e2
        refine ⟨by rw [e3, fA e1]; rfl, fun q m => ?_⟩
        rcases List.mem_cons.mp m with rfl | m
        · exact hk
        · exact h3 q m
      · exact nS e
    · exact nS e
  | .none :: _, _, e | .bool _ :: _, _, e | .str _ :: _, _, e | .list _ :: _, _, e | .int _ :: _, _, e | .dict _ :: _, _, e => by exact nS e
theorem vj {h : Heap} {F : aR} {r : List Int} {v : Value} (x : Rd rc h F (dG r) v) : mY h v r := by
  unfold dG at x
  refine cW x fun a vs e2_ ht Z Z h2 => ?_; obtain rfl := e2_; try clear x
  refine aA (gS (d7 h2)) fun ts h3 h4 => ?_
  exact ⟨a, vs, ts, rfl, ht, h3, h4⟩
theorem li {h : Heap} {F : aR} {xs : List D} {vs : List Value} (r : RdAll rc h F xs vs) : ∀ p : List Nat, (∀ i ∈ p, i < xs.length) → RdAll rc h F (p.map fun i => xs.getD i .none) (p.map fun i => vs.getD i Value.none)
  | [], _ => .nil
  | i :: p, hp => by
    have hi : i < xs.length := hp i (.head _)
    refine aA (r.get (List.getElem?_eq_getElem hi)) fun v hv rv => ?_
    refine .cons ?_ (li r p fun j m => hp j (.tail _ m))
    have e1 : xs.getD i .none = xs[i] := by simp [List.getD, hi]
    have e2 : vs.getD i Value.none = v := by simp [List.getD, hv]
    show Rd rc h F (xs.getD i .none) (vs.getD i Value.none)
    rw [e1, e2]; exact rv
theorem fM : ∀ l, (eZ l).Perm l
  | [] => .refl _
  | a :: r => by
    have ins : ∀ l, (ky a l).Perm (a :: l) := by
      intro l
      induction l with
      | nil => exact .refl _
      | cons b l ih =>
        rw [pB]
        split
        · exact .refl _
        · exact (ih.cons b).trans (.swap ..)
    exact (ins _).trans ((fM r).cons a)
theorem kU (a : Int) : ∀ {l : List Int}, l.Pairwise (· ≤ ·) → (ky a l).Pairwise (· ≤ ·)
  | [], _ => List.pairwise_singleton ..
  | b :: r, s => by
    rw [pB]
    obtain ⟨s1, s2⟩ := List.pairwise_cons.mp s
    have perm : ∀ l, ∀ x, x ∈ ky a l → x = a ∨ x ∈ l := by
      intro l
      induction l with
      | nil => intro x m; exact .inl (by simpa [insI_n] using m)
      | cons c l ih =>
        intro x m
        rw [pB] at m
        split at m
        · exact (List.mem_cons.mp m).imp id id
        · rcases List.mem_cons.mp m with rfl | m
          · exact .inr (.head _)
          · exact (ih x m).imp id (.tail _)
    split
    · rename_i h
      refine List.pairwise_cons.mpr ⟨fun c hc => ?_, s⟩
      rcases List.mem_cons.mp hc with rfl | hc
      · exact h
      · have := s1 c hc; exact Int.le_trans (by assumption) (by assumption)
    · rename_i h
      refine List.pairwise_cons.mpr ⟨fun c hc => ?_, kU a s2⟩
      rcases perm r c hc with rfl | hc
      · (lia -abstractProof)
      · exact s1 c hc
theorem dX : ∀ l : List Int, (eZ l).Pairwise (· ≤ ·)
  | [] => .nil
  | a :: r => kU a (dX r)

theorem gW {s s' : Shared} {a : Addr} {vs : List Value} {out : Array Value} (k : Gr s s') (hn : s.heap.get? a = none) : Gr s { s' with heap := sortedHeap s'.heap a vs out } := by
  refine ⟨fun b o e => ?_, k.gens, k.os⟩
  have hne : b ≠ a := fun q => by rw [q, hn] at e; exact nS e
  have hb := k.grow b o e
  show (sortedHeap s'.heap a vs out).get? b = some o
  rw [sortedHeap_old hne (Heap.lt_size hb)]; exact hb

theorem px {h h' : Heap} {F : aR} {ds : List D} {a : Addr} {out : List Value} {e : Nat} (nt : ∀ b, F b → NT h b) (hn : h.get? a = none) (ha : h'.get? a = some (seqObj "list" out.toArray e)) (hz : out.length ≤ aF) (r : RdAll rc h' F ds out) : Rd rc h' F (.list ds) (.ref a) := by
  exact ⟨a, out.toArray, rfl, ⟨_, ha, rfl, e, rfl⟩, cP nt hn, by simpa using hz, r⟩

set_option tactic.hygienic true in
theorem i7 {lst : Bool} {xs ys : List D} {x : Addr} {T : String} {o : Obj} {vs : List Value} {n : Nat} {F : aR} (e : gJ lst xs = some ys) (hT : T = "list" ∨ T = "tuple") (hlst : lst = true → T = "list") (ho : s.heap.get? x = some o) (hc : o.cls = .type T)
    (hd : o.data = .seq vs.toArray n) (nt : ∀ b, F b → NT s.heap b) (r : RdAll rc s.heap F xs vs) :
    wpAny (model prog w) A (call (.builtin "sorted") [.ref x]) (fun v s' => Rd rc s'.heap F (.list ys) v ∧ Gr s s') E s := by
  have len := r.len
  have hz' : aF = 1000000 := rfl
  unfold gJ at e
  split at e
  · rename_i hlen
    have viaI : ∀ is : List Int, lst = true → xs = is.map .int → ys = (eZ is).map .int → wpAny (model prog w) A (call (.builtin "sorted") [.ref x]) (fun v s' => Rd rc s'.heap F (.list ys) v ∧ Gr s s') E s := by
      rintro is hl rfl rfl
      have hI := d7 r
      have hTl := hlst hl
      subst hTl
      refine sorted_ints ⟨o, ho, hc, n, hd⟩ hI (by (lia -abstractProof)) fun out ns' h1 h2 h3 => ?_
      have eq : ns' = eZ is := lks_uniq (h2.trans (fM is).symm) h3 (dX is)
      subst eq
      obtain ⟨e1, ha⟩ := sortedAll_at s.heap vs out
      refine ⟨?_, fun b o e => sortedAll_old e, rfl, rfl⟩
      have fresh : s.heap.get? (s.heap.objs.size + 1) = none := by
        cases q : s.heap.get? (s.heap.objs.size + 1) with
        | none => rfl
        | some o' => exact absurd (Heap.lt_size q) (Nat.not_lt.mpr (Nat.le_succ _))
      have hl2 := h1.length
      have hl3 := h2.length_eq
      rw [List.length_map] at len hlen
      exact px (out := out.toList) nt fresh (by rw [Array.toArray_toList]; exact ha) (by (lia -abstractProof)) (yO h1)
    split at e
    · obtain rfl := Option.some.inj e
      have hv : vs = [] := by simpa using len
      subst hv
      refine jp hT ho hc hd (by simp) fun s' a P k ha hn hq => kN ha (by simp) ?_
      obtain ⟨e1, h1⟩ := sortedHeap_at (out := #[]) ha
      exact hq #[] ⟨e1, h1⟩ ⟨px (out := []) nt hn h1 (by simp) .nil, gW k hn⟩
    · rename_i i r'
      split at e
      · rename_i hl
        refine aA (Option.map_eq_some_iff.mp e) fun is e1 e2_ => ?_; obtain rfl := e2_
        exact viaI (i :: is) hl (by rw [fA e1]; rfl) rfl
      · exact nS e
    · rename_i ts r'
      split at e
      · rename_i hk
        refine aA (Option.map_eq_some_iff.mp e) fun rs e1 e2_ => ?_; obtain rfl := e2_
        obtain ⟨e2, hkk⟩ := ng e1
        have hrs : rs.length = r'.length + 1 := by simpa using (congrArg List.length e2).symm
        by_cases h2 : rs.length < 2
        · have h1 : rs.length = 1 := by (lia -abstractProof)
          obtain ⟨row, rfl⟩ : ∃ row, rs = [row] := by
            match rs, h1 with
            | [row], _ => exact ⟨row, rfl⟩
          rw [e2] at r len
          refine jp hT ho hc hd (by simp at len; (lia -abstractProof)) fun s' a P k ha hn hq => kN ha (by simp at len; (lia -abstractProof)) ?_
          obtain ⟨e3, h3⟩ := sortedHeap_at (out := vs.toArray) ha
          have g : Gr s { s' with heap := sortedHeap s'.heap a vs vs.toArray } := gW k hn
          refine hq vs.toArray ⟨e3, h3⟩ ⟨px nt hn h3 (by simp at len; (lia -abstractProof)) ?_, g⟩
          exact (show RdAll rc s.heap F ((i9 [row]).map dG) vs from r).grow g.grow
        · rw [e2] at r len
          have ok : okN rs.length = true := by
            have : rs.length = 2 ∨ rs.length = 3 ∨ rs.length = 4 := by (lia -abstractProof)
            rcases this with h | h | h <;> rw [h]
            · exact ok2
            · exact ok3
            · exact ok4
          rw [List.length_map] at len
          have hkk' : ∀ q ∈ rs, q.length = (ts.length - 1) + 1 := fun q m => by rw [hkk q m]; (lia -abstractProof)
          refine jp hT ho hc hd (by (lia -abstractProof)) fun s' a P k ha hn hq => r9 ha len (by exact Nat.le_of_not_lt (by assumption)) (by (lia -abstractProof)) ok hkk' (fun i hi => ?_) fun p hp hps => ?_
          · obtain ⟨v, hv, rv⟩ := r.get (i := i) (d := dG (rs.getD i [])) (by simp [List.getD, hi])
            have e2 : vs.getD i Value.none = v := by simp [List.getD, hv]
            rw [e2]
            exact vj (rv.grow k.grow)
          · obtain ⟨e3, h3⟩ := sortedHeap_at (out := (p.map fun i => vs.getD i Value.none).toArray) ha
            have g : Gr s { s' with heap := sortedHeap s'.heap a vs (p.map fun i => vs.getD i Value.none).toArray } := gW k hn
            have hpl : p.length = rs.length := by
              have := congrArg List.length hps
              rw [List.length_map, (ic rs).length_eq] at this
              exact this
            refine hq _ ⟨e3, h3⟩ ⟨px nt hn h3 (by rw [List.length_map]; (lia -abstractProof)) ?_, g⟩
            have := li r p (fun i m => by rw [List.length_map]; exact hp i m)
            have e4 : (p.map fun i => (rs.map dG).getD i .none) = (i9 rs).map dG := by
              rw [← hps, List.map_map]
              refine List.map_congr_left fun i m => ?_
              have hi := hp i m
              simp [List.getD, hi]
            rw [e4] at this
            exact this.grow g.grow
      · exact nS e
    · exact nS e
  · exact nS e
end
end Mine
namespace Mine
open PySem PySem.Calls PyProof.Rows

theorem ny : ∀ (l : List Int) (a b : Int), qL a (l ++ [b]) = if b < qL a l then b else qL a l
  | [], a, b => rfl
  | c :: l, a, b => by simp only [List.cons_append, minL_c]; exact ny l _ b
theorem nz : ∀ (l : List Int) (a b : Int), qN a (l ++ [b]) = if b > qN a l then b else qN a l
  | [], a, b => rfl
  | c :: l, a, b => by simp only [List.cons_append, maxL_c]; exact nz l _ b
theorem kh (a : Int) (l : List Int) (num : Nat → Int) : ∀ k, k ≤ l.length → (∀ j, j ≤ k → num j = (a :: l).getD j 0) → num (argBest (fun i j => decide (num i < num j)) k) = qL a (l.take k)
  | 0, _, h => h 0 (Nat.le_refl _)
  | k + 1, hk, h => by
    have ih := kh a l num k (by exact Nat.le_of_lt (by assumption)) fun j hj => h j (by (lia -abstractProof))
    have hb : num (k + 1) = l[k] := by rw [h (k + 1) (Nat.le_refl _)]; simp [List.getD, show k < l.length by assumption]
    rw [List.take_succ_eq_append_getElem (by assumption), ny, ← hb, ← ih]
    have eq : argBest (fun i j => decide (num i < num j)) (k + 1) = if decide (num (k + 1) < num (argBest (fun i j => decide (num i < num j)) k)) = true then k + 1 else argBest (fun i j => decide (num i < num j)) k := rfl
    rw [eq]
    by_cases q : num (k + 1) < num (argBest (fun i j => decide (num i < num j)) k)
    · rw [if_pos q, if_pos (decide_eq_true q)]
    · rw [if_neg q, if_neg (fun z => q (of_decide_eq_true z))]
theorem km (a : Int) (l : List Int) (num : Nat → Int) : ∀ k, k ≤ l.length → (∀ j, j ≤ k → num j = (a :: l).getD j 0) → num (argBest (fun i j => decide (num i > num j)) k) = qN a (l.take k)
  | 0, _, h => h 0 (Nat.le_refl _)
  | k + 1, hk, h => by
    have ih := km a l num k (by exact Nat.le_of_lt (by assumption)) fun j hj => h j (by lia)
    have hb : num (k + 1) = l[k] := by rw [h (k + 1) (Nat.le_refl _)]; simp [List.getD, show k < l.length by assumption]
    rw [List.take_succ_eq_append_getElem (by assumption), nz, ← hb, ← ih]
    have eq : argBest (fun i j => decide (num i > num j)) (k + 1) = if decide (num (k + 1) > num (argBest (fun i j => decide (num i > num j)) k)) = true then k + 1 else argBest (fun i j => decide (num i > num j)) k := rfl
    rw [eq]
    by_cases q : num (k + 1) > num (argBest (fun i j => decide (num i > num j)) k)
    · rw [if_pos q, if_pos (decide_eq_true q)]
    · rw [if_neg q, if_neg (fun z => q (of_decide_eq_true z))]

section
variable {prog : Program} {w : World} {A : Around} {E : Value → Shared → Prop} {s : Shared} {rc : Addr} {F : aR}

theorem kR {is : List Int} {ts : List Tok} (h : ts.length = is.length) : (is.zip ts).map (fun x => Value.int x.1 x.2) = (intItems (is.zip ts).toArray).toList := by
  simp [intItems]

theorem nw {is : List Int} {ts : List Tok} {j : Nat} (h : ts.length = is.length) (hj : j < is.length) : numAt (is.zip ts).toArray j = is.getD j 0 := by
  have hj2 : j < ts.length := by (lia -abstractProof)
  have e : (is.zip ts)[j]? = some (is[j], ts[j]) := by
    rw [List.getElem?_eq_getElem (by rw [List.length_zip]; (lia -abstractProof))]
    simp
  simp [numAt, e, List.getD, hj]

noncomputable def je : Bi → Value
  | .len => .builtin "len"
  | .list => .type "list"
  | .tuple => .type "tuple"
  | .sorted => .builtin "sorted"
  | .min => .builtin "min"
  | .max => .builtin "max"
  | .region => .none

theorem eD {ds : List D} {v : Value} {h : Heap} (r : Rl rc h F (.list ds) v) : ∃ a vs, v = .ref a ∧ h.IsList a vs ∧ vs.size ≤ aF ∧ RdAll rc h F ds vs.toList := r
theorem gM {ds : List D} {v : Value} {h : Heap} (r : Rl rc h F (.tuple ds) v) : ∃ a vs, v = .ref a ∧ h.IsTuple a vs ∧ ¬ F a ∧ vs.size ≤ aF ∧ RdAll rc h F ds vs.toList := by
  have r' : Rd rc h F (.tuple ds) v := r
  exact r'

theorem gv {d : D} {xs : List D} {v : Value} {h : Heap} (e : ba d = some xs) (r : Rl rc h F d v) : ∃ a T o vs n, v = .ref a ∧ (T = "list" ∨ T = "tuple") ∧ h.get? a = some o ∧ o.cls = .type T ∧ o.data = .seq vs.toArray n ∧ vs.length ≤ aF ∧ RdAll rc h F xs vs := by
  cases d with
  | list ds =>
    obtain rfl := Option.some.inj e
    refine dw (eD r) fun a vs e2_ z3_ hz hr => ?_; obtain rfl := e2_; obtain ⟨o, ho, hc, n, hd⟩ := z3_
    exact ⟨a, "list", o, vs.toList, n, rfl, .inl rfl, ho, hc, by rw [Array.toArray_toList]; exact hd, by simpa using hz, hr⟩
  | tuple ds =>
    obtain rfl := Option.some.inj e
    refine cW (gM r) fun a vs e2_ z3_ Z hz hr => ?_; obtain rfl := e2_; obtain ⟨o, ho, hc, n, hd⟩ := z3_
    exact ⟨a, "tuple", o, vs.toList, n, rfl, .inr rfl, ho, hc, by rw [Array.toArray_toList]; exact hd, by simpa using hz, hr⟩
  | _ => exact nS e

inductive RlAll (rc : Addr) (h : Heap) (F : aR) : List D → List Value → Prop where
  | nil : RlAll rc h F [] []
  | cons {d v ds vs} : Rl rc h F d v → RlAll rc h F ds vs → RlAll rc h F (d :: ds) (v :: vs)
theorem dB {h : Heap} {d : D} {vs : List Value} (r : RlAll rc h F [d] vs) : ∃ v, vs = [v] ∧ Rl rc h F d v := by
  cases r with | cons a b => cases b; exact ⟨_, rfl, a⟩
theorem nh {h : Heap} {d e : D} {vs : List Value} (r : RlAll rc h F [d, e] vs) : ∃ v u, vs = [v, u] ∧ Rl rc h F d v ∧ Rl rc h F e u := by
  cases r with | cons a b => cases b with | cons c d => cases d; exact ⟨_, _, rfl, a, c⟩

theorem en {f : D → Option D} {ds : List D} {d : D} (e : rm f ds = some d) : ∃ x, ds = [x] ∧ f x = some d := by
  cases ds with
  | nil => exact nS e
  | cons x r => cases r with
    | nil => exact ⟨x, rfl, e⟩
    | cons _ _ => exact nS e
theorem bi_len (nt : ∀ b, F b → NT s.heap b) (hh : A.handled = none) {ds : List D} {d : D} {vs : List Value} (e : biD .len ds = some d) (ra : RlAll rc s.heap F ds vs) :
    wpAny (model prog w) A (call (je .len) vs) (fun v s' => Rd rc s'.heap F d v ∧ Gr s s') E s := by
  have hz' : aF = 1000000 := rfl
  have hz'' : aF ≤ sizeLine := aa
  refine aA (en e) fun x e1_ e => ?_; obtain rfl := e1_
  refine aA (dB ra) fun v e1_ r => ?_; obtain rfl := e1_
  refine aA (Option.map_eq_some_iff.mp (show (ba _).map _ = some d from e)) fun xs e1 e2_ => ?_; obtain rfl := e2_
  refine tI (gv e1 r) fun a T o us n e5_ hT ho hc hd hz hr => ?_; obtain rfl := e5_
  have hl := hr.len
  have hsz : us.toArray.size = xs.length := by simpa using hl
  rcases hT with rfl | rfl
  · refine call_len_list (items := us.toArray) ⟨o, ho, hc, n, hd⟩ (by (lia -abstractProof)) ⟨?_, .toks _ _⟩
    rw [hsz]; exact au
  · refine len_tuple (items := us.toArray) ⟨o, ho, hc, n, hd⟩ (by (lia -abstractProof)) ⟨?_, .toks _ _⟩
    rw [hsz]; exact au
theorem zc (nt : ∀ b, F b → NT s.heap b) (hh : A.handled = none) {ds : List D} {d : D} {vs : List Value} (e : biD .list ds = some d) (ra : RlAll rc s.heap F ds vs) :
    wpAny (model prog w) A (call (je .list) vs) (fun v s' => Rd rc s'.heap F d v ∧ Gr s s') E s := by
  have hz' : aF = 1000000 := rfl
  have hz'' : aF ≤ sizeLine := aa
  refine aA (en e) fun x e1_ e => ?_; obtain rfl := e1_
  refine aA (dB ra) fun v e1_ r => ?_; obtain rfl := e1_
  refine aA (Option.bind_eq_some_iff.mp e) fun xs e1 e2 => ?_
  split at e2
  · obtain rfl := Option.some.inj e2
    refine tI (gv e1 r) fun a T o us n e5_ hT ho hc hd hz hr => ?_; obtain rfl := e5_
    refine call_list_seq a hT ho hc hd (fun h' c' k hg => ?_) (by rw [List.size_toArray]; exact nle (by assumption) (by decide))
    exact ⟨px nt (get?_size _) hg hz (hr.grow k), k, rfl, rfl⟩
  · exact nS e2
theorem xX (nt : ∀ b, F b → NT s.heap b) (hh : A.handled = none) {ds : List D} {d : D} {vs : List Value} (e : biD .tuple ds = some d) (ra : RlAll rc s.heap F ds vs) :
    wpAny (model prog w) A (call (je .tuple) vs) (fun v s' => Rd rc s'.heap F d v ∧ Gr s s') E s := by
  have hz' : aF = 1000000 := rfl
  have hz'' : aF ≤ sizeLine := aa
  refine aA (en e) fun x e1_ e => ?_; obtain rfl := e1_
  refine aA (dB ra) fun v e1_ r => ?_; obtain rfl := e1_
  refine aA (Option.bind_eq_some_iff.mp e) fun xs e1 e2 => ?_
  split at e2
  · obtain rfl := Option.some.inj e2
    refine tI (gv e1 r) fun a T o us n e5_ hT ho hc hd hz hr => ?_; obtain rfl := e5_
    cases x with
    | list ds =>
      refine dw (eD r) fun a' vs' e3 z3_ hz3 hr' => ?_; obtain ⟨o', ho', hc', n', hd'⟩ := z3_
      cases e3; obtain rfl := Option.some.inj e1
      refine call_tuple_list ⟨o', ho', hc', n', hd'⟩ (fun h' k => ?_) (by exact nle (by assumption) (by decide))
      refine ⟨eE (vs := vs'.toList) (h₀ := s.heap) k nt (by simpa using hz3) (hr'.grow k) _ (by simp) _ rfl, fun b o e => Heap.get?_push_of_some _ (k b o e), rfl, rfl⟩
    | tuple ds =>
      have r' : Rd rc s.heap F (.tuple ds) (.ref a) := r
      refine bm (gM r) fun a' vs' e3 ht Z => ?_
      cases e3; obtain rfl := Option.some.inj e1
      exact call_tuple_same ht ⟨r', .refl _⟩
    | _ => exact nS e1
  · exact nS e2
theorem uy (nt : ∀ b, F b → NT s.heap b) (hh : A.handled = none) {ds : List D} {d : D} {vs : List Value} (e : biD .sorted ds = some d) (ra : RlAll rc s.heap F ds vs) :
    wpAny (model prog w) A (call (je .sorted) vs) (fun v s' => Rd rc s'.heap F d v ∧ Gr s s') E s := by
  have hz' : aF = 1000000 := rfl
  have hz'' : aF ≤ sizeLine := aa
  refine aA (en e) fun x e1_ e => ?_; obtain rfl := e1_
  cases x with
  | list zs =>
    refine aA (dB ra) fun v e1_ r => ?_; obtain rfl := e1_
    refine aA (Option.map_eq_some_iff.mp e) fun ys e1 e2_ => ?_; obtain rfl := e2_
    refine dw (eD r) fun a us e2_ z3_ hz hr => ?_; obtain rfl := e2_; obtain ⟨o, ho, hc, n, hd⟩ := z3_
    exact i7 (vs := us.toList) e1 (.inl rfl) (fun Z => rfl) ho hc (by rw [Array.toArray_toList]; exact hd) nt hr
  | tuple zs =>
    refine aA (dB ra) fun v e1_ r => ?_; obtain rfl := e1_
    refine aA (Option.map_eq_some_iff.mp e) fun ys e1 e2_ => ?_; obtain rfl := e2_
    refine cW (gM r) fun a us e2_ z3_ Z hz hr => ?_; obtain rfl := e2_; obtain ⟨o, ho, hc, n, hd⟩ := z3_
    exact i7 (vs := us.toList) e1 (.inr rfl) (fun h => by exact fT h) ho hc (by rw [Array.toArray_toList]; exact hd) nt hr
  | _ => exact nS e
theorem bi_min (nt : ∀ b, F b → NT s.heap b) (hh : A.handled = none) {ds : List D} {d : D} {vs : List Value} (e : biD .min ds = some d) (ra : RlAll rc s.heap F ds vs) :
    wpAny (model prog w) A (call (je .min) vs) (fun v s' => Rd rc s'.heap F d v ∧ Gr s s') E s := by
  have hz' : aF = 1000000 := rfl
  have hz'' : aF ≤ sizeLine := aa
  cases ds with
  | nil => exact nS e
  | cons x r => cases r with
    | nil => cases x with
      | list xs =>
          refine aA (dB ra) fun v e1_ r => ?_; obtain rfl := e1_
          refine dw (eD r) fun a us e2_ hl hz hr => ?_; obtain rfl := e2_
          refine aA (Option.bind_eq_some_iff.mp e) fun il e1 e => ?_
          cases il with
          | nil => exact nS e
          | cons i l =>
              obtain rfl := (cJ e).2
              have e2 := fA e1
              rw [e2] at hr
              refine aA (gS (d7 hr)) fun ts h1 h2 => ?_
              have e3 : us = intItems ((i :: l).zip ts).toArray := by
                apply Array.toList_inj.mp; rw [h2, kR h1]
              rw [e3] at hl
              have hsz : ((i :: l).zip ts).toArray.size = l.length + 1 := by
                rw [List.size_toArray, List.length_zip, h1]; simp
              refine min_intList hh hl (by rw [hsz]; (lia -abstractProof)) fun v h' tk hv k => ⟨?_, k, rfl, rfl⟩
              obtain ⟨t, rfl⟩ := intItems_at hv
              rw [hsz]
              have := kh i l (numAt ((i :: l).zip ts).toArray) l.length (Nat.le_refl _) fun j hj => by
                exact nw h1 (by simp; exact Nat.lt_succ_of_le (by assumption))
              rw [show l.length + 1 - 1 = l.length by (lia -abstractProof), this, List.take_length]
              exact au
      | _ => exact nS e
    | cons y r' => cases r' with
      | cons _ _ => exact nS e
      | nil => cases x with
        | int i => cases y with
          | int j =>
            obtain rfl := Option.some.inj e
            refine bm (nh ra) fun v u e2_ r1 r2 => ?_; obtain rfl := e2_
            obtain ⟨t, rfl⟩ := fP r1
            obtain ⟨t', rfl⟩ := fP r2
            refine min_two_ints hh fun h' tk k => ⟨?_, k, rfl, rfl⟩
            dsimp only
            split <;> exact au
          | _ => exact nS e
        | _ => exact nS e
theorem bi_max (nt : ∀ b, F b → NT s.heap b) (hh : A.handled = none) {ds : List D} {d : D} {vs : List Value} (e : biD .max ds = some d) (ra : RlAll rc s.heap F ds vs) :
    wpAny (model prog w) A (call (je .max) vs) (fun v s' => Rd rc s'.heap F d v ∧ Gr s s') E s := by
  have hz' : aF = 1000000 := rfl
  have hz'' : aF ≤ sizeLine := aa
  cases ds with
  | nil => exact nS e
  | cons x r => cases r with
    | nil => cases x with
      | list xs =>
          refine aA (dB ra) fun v e1_ r => ?_; obtain rfl := e1_
          refine dw (eD r) fun a us e2_ hl hz hr => ?_; obtain rfl := e2_
          refine aA (Option.bind_eq_some_iff.mp e) fun il e1 e => ?_
          cases il with
          | nil => exact nS e
          | cons i l =>
              obtain rfl := (cJ e).2
              have e2 := fA e1
              rw [e2] at hr
              refine aA (gS (d7 hr)) fun ts h1 h2 => ?_
              have e3 : us = intItems ((i :: l).zip ts).toArray := by
                apply Array.toList_inj.mp; rw [h2, kR h1]
              rw [e3] at hl
              have hsz : ((i :: l).zip ts).toArray.size = l.length + 1 := by
                rw [List.size_toArray, List.length_zip, h1]; simp
              refine max_intList hh hl (by rw [hsz]; lia) fun v h' tk hv k => ⟨?_, k, rfl, rfl⟩
              obtain ⟨t, rfl⟩ := intItems_at hv
              rw [hsz]
              have := km i l (numAt ((i :: l).zip ts).toArray) l.length (Nat.le_refl _) fun j hj => by
                exact nw h1 (by simp; exact Nat.lt_succ_of_le (by assumption))
              rw [show l.length + 1 - 1 = l.length by lia, this, List.take_length]
              exact au
      | _ => exact nS e
    | cons y r' => cases r' with
      | cons _ _ => exact nS e
      | nil => cases x with
        | int i => cases y with
          | int j =>
            obtain rfl := Option.some.inj e
            refine bm (nh ra) fun v u e2_ r1 r2 => ?_; obtain rfl := e2_
            obtain ⟨t, rfl⟩ := fP r1
            obtain ⟨t', rfl⟩ := fP r2
            refine max_two_ints hh fun h' tk k => ⟨?_, k, rfl, rfl⟩
            dsimp only
            split <;> exact au
          | _ => exact nS e
        | _ => exact nS e
theorem xY (nt : ∀ b, F b → NT s.heap b) (hh : A.handled = none) {b : Bi} {ds : List D} {d : D} {vs : List Value} (hb : b ≠ .region) (e : biD b ds = some d) (ra : RlAll rc s.heap F ds vs) :
    wpAny (model prog w) A (call (je b) vs) (fun v s' => Rd rc s'.heap F d v ∧ Gr s s') E s := by
  cases b with
  | len => exact bi_len nt hh e ra
  | list => exact zc nt hh e ra
  | tuple => exact xX nt hh e ra
  | sorted => exact uy nt hh e ra
  | min => exact bi_min nt hh e ra
  | max => exact bi_max nt hh e ra
  | region => exact absurd rfl hb
end
end Mine
namespace Mine
open PySem PySem.Calls PyProof.Rows

theorem fC {α β : Type} {f g : α → Option β} : ∀ {l : List α}, (∀ x ∈ l, f x = g x) → l.filterMap f = l.filterMap g
  | [], _ => rfl
  | x :: r, h => by rw [List.filterMap_cons, List.filterMap_cons, h x (.head _), fC fun y m => h y (.tail _ m)]
theorem lN : ∀ (ns : List Str) (vs : List Value), vs.length = ns.length → ns.Nodup → (∀ n ∈ ns, ((ns.zip vs).lookup n).isSome = true) ∧ ns.filterMap (fun n => ((ns.zip vs).lookup n).map (n, ·)) = ns.zip vs
  | [], _, _, _ => ⟨fun Z m => (nomatch m), rfl⟩
  | n :: ns, [], h, _ => by simp at h
  | n :: ns, v :: vs, h, hn => by
    obtain ⟨h1, h2⟩ := List.nodup_cons.mp hn
    obtain ⟨i1, i2⟩ := lN ns vs (by simpa using h) h2
    have other : ∀ m ∈ ns, ((n :: ns).zip (v :: vs)).lookup m = (ns.zip vs).lookup m := fun m hm => by
      have hne : (m == n) = false := by
        cases q : m == n with
        | false => rfl
        | true => exact absurd (beq_iff_eq.mp q ▸ hm) h1
      rw [List.zip_cons_cons, List.lookup_cons, hne]
    have self : ((n :: ns).zip (v :: vs)).lookup n = some v := by rw [List.zip_cons_cons, List.lookup_cons, beq_self_eq_true]
    refine ⟨fun m hm => ?_, ?_⟩
    · rcases List.mem_cons.mp hm with rfl | hm
      · rw [self]; rfl
      · rw [other m hm]; exact i1 m hm
    · rw [List.filterMap_cons, self]
      have : ns.filterMap (fun m => (((n :: ns).zip (v :: vs)).lookup m).map (m, ·)) = ns.filterMap (fun m => ((ns.zip vs).lookup m).map (m, ·)) := by
        exact fC fun m hm => by rw [other m hm]
      rw [Option.map_some]
      dsimp only
      rw [this, i2, List.zip_cons_cons]
theorem if_no {α : Type} {p : Prop} [Decidable p] {a b c : α} (h : ¬ p) (k : b = c) : ite p a b = c := (if_neg h).trans k
theorem jb {fd : FuncData} {vs : List Value} (h1 : fd.params.posonlyargs = []) (h2 : fd.params.kwonlyargs = []) (h3 : fd.params.vararg = none) (h4 : fd.params.kwarg = none) (h5 : fd.defaults = .none)
    (hl : vs.length = fd.params.args.length) (hn : (fd.params.args.map (·.arg)).Nodup) : bindArgs fd ⟨vs, []⟩ = pure ((fd.params.args.map (·.arg)).zip vs) := by
  obtain ⟨n, q, ⟨po, ar, va, ko, kd, kw, df⟩, b, sc, g, cl, d, kwd⟩ := fd
  dsimp only at h1 h2 h3 h4 h5 hl hn ⊢
  subst h1 h2 h3 h4 h5
  have hl' : vs.length = (ar.map fun a : Arg => a.arg).length := hl.trans (List.length_map ..).symm
  obtain ⟨z1, z2⟩ := lN (ar.map fun a : Arg => a.arg) vs hl' hn
  refine if_no (fun h => absurd (of_decide_eq_true (Bool.and_eq_true_iff.mp h).1) (by show ¬ (vs.length > (ar.map fun a : Arg => a.arg).length); rw [hl']; exact Nat.lt_irrefl _)) ?_
  rw [show List.drop (((none : Option (Array Value)).getD #[]).toList.length - (List.map (fun a : Arg => a.arg) [] ++ List.map (fun a : Arg => a.arg) ar).length) ((none : Option (Array Value)).getD #[]).toList = [] from List.drop_nil, List.zip_nil_right]
  refine if_no (fun h => ?_) ?_
  rotate_left
  · exact congrArg (pure : List (Str × Value) → Sem _) ((congrArg (List.filterMap fun n => ((((ar.map fun a : Arg => a.arg).zip vs).lookup n).map (n, ·))) (List.append_nil _)).trans z2)
  have h : (!((List.take (ar.map fun a : Arg => a.arg).length (ar.map fun a : Arg => a.arg)).filter fun n => (((ar.map fun a : Arg => a.arg).zip vs).lookup n).isNone).isEmpty) = true := h
  rw [List.take_length, List.filter_eq_nil_iff.mpr fun n m => by rw [Option.isNone_eq_false_iff.mpr (z1 n m)]; decide] at h
  exact fT h

noncomputable def fb (p : Arguments) (sc : Scope) : Bool :=
  p.posonlyargs.isEmpty && p.kwonlyargs.isEmpty && p.vararg.isNone && p.kwarg.isNone && decide (p.args.map (·.arg)).Nodup && decide (sc.names.map (·.1)).Nodup &&
  (match sc.kind with | .function => true | _ => false) && !sc.isGenerator && !sc.isCoroutine &&
  (p.args.all fun a => sc.names.lookup a.arg == some .local || sc.names.lookup a.arg == some .cell) && (sc.names.all fun x => x.2 != .free)

noncomputable def kF (h : Heap) (a : Addr) (fn : Fn) : Prop :=
  ∃ o fd p sc code, h.get? a = some o ∧ o.data = .func fd ∧ fd.params = p ∧ fd.scope = sc ∧ fd.code = code ∧ fd.body = .stmts fn.body ∧ fd.globals = mainGlobals ∧ fd.closure = [] ∧ fd.defaults = .none ∧ fd.builtins = builtinsNs ∧
    h.CodeRec code fd.qualname ∧ fb p sc = true ∧ fn.ps = p.args.map (·.arg) ∧ ∀ x, fn.sc.lookup x = sc.names.lookup x

noncomputable def d8 (h : Heap) (rc x dx : Addr) (u : Value) : Prop := ∃ hs t n, h.get? x = some (instObj rc dx) ∧ h.get? dx = some (dictOf [⟨hs, .str "clauses" t, u⟩] n)

structure Wd (prog : Program) (w : World) (rc : Addr) (hB : Heap) (mg : Str → Option Value) : Prop where
  tree : prog.given.tree = none
  g : hB.Ns mainGlobals mg
  b : ∃ mb, hB.Ns builtinsNs mb ∧ ∀ x : Str, x ≠ "__name__" → mb x = bootBuiltins x
  nolimit : hB.NoLimit
  seer : hB.NoSeer
  const : ∀ x d, (litsOf prog).lookup x = some d → ∃ v, mg x = some v ∧ ∀ h F, Rd rc h F d v
  free : ∀ x, ["len", "list", "tuple", "sorted", "min", "max", "range", "enumerate", "reversed"].contains x = true → mg (Str.ofString x) = none
  region : mg "RegionTable" = some (.ref rc)
  fns : ∀ k d, nth (recsOf prog) k = some d → ∃ a, mg d.name = some (.ref a) ∧ kF hB a (fc d)
  attr : ∀ (A : Around) (E : Value → Shared → Prop) (s : Shared) (x dx : Addr) (u : Value) (Q : Value → Shared → Prop), bD hB s.heap → d8 s.heap rc x dx u → (∀ tk, Q u { s with toks := tk }) → (∃ b, u = .ref b) →
    wpAny (model prog w) A (getAttr (.ref x) "clauses" true) Q E s
  meth : ∀ k m fn, nth (cD prog "RegionTable") k = some (m, fn) → ∃ a, kF hB a fn ∧ ∀ (A : Around) (E : Value → Shared → Prop) (s : Shared) (x dx : Addr) (u : Value) (pl : Sem Bool) (Q : Value × List Value → Shared → Prop), bD hB s.heap → d8 s.heap rc x dx u →
    Q (.ref a, [.ref x]) s → wpAny (model prog w) A (getMethod (.ref x) m pl) Q E s
  make : ∀ (A : Around) (E : Value → Shared → Prop) (s : Shared) (b : Addr) (Q : Value → Shared → Prop), bD hB s.heap → Room A 3 → (∃ outer, A.frames = some outer) →
    (∀ s' x dx, Gr s s' → s.heap.get? x = none → s.heap.get? dx = none → d8 s'.heap rc x dx (.ref b) → Q (.ref x) s') → wpAny (model prog w) A (call (.ref rc) [.ref b]) Q E s
  keep : ∀ (h : Heap), bD hB h → Looks (model prog w) h (keeperOf (.ref rc)) .machine

theorem cj {α : Type} {l : List (Str × α)} (hn : (l.map (·.1)).Nodup) {x : Str} {v : α} (m : (x, v) ∈ l) : l.lookup x = some v := by
  induction l with
  | nil => cases m
  | cons y r ih =>
    obtain ⟨y1, y2⟩ := y
    rw [List.map_cons, List.nodup_cons] at hn
    rw [List.lookup_cons]
    rcases List.mem_cons.mp m with e | m
    · cases e; rw [beq_self_eq_true]
    · have : (x == y1) = false := by
        cases q : x == y1 with
        | false => rfl
        | true => exact absurd (List.mem_map.mpr ⟨_, m, by rw [beq_iff_eq.mp q]⟩) hn.1
      rw [this]
      exact ih hn.2 m

theorem ka (k : Str → Option NameKind) (x : Str) : ∀ (l : List (Str × Value)) (m : Str → Option Value), x ∉ l.map (·.1) → bindL k l m x = m x
  | [], _, _ => rfl
  | (y, v) :: r, m, h => by
    unfold bindL
    rw [List.map_cons, List.mem_cons] at h
    rw [ka k x r _ fun q => h (.inr q)]
    split
    · show (if x = y then some v else m x) = m x; rw [if_neg fun q => h (.inl q)]
    · rfl
theorem ke (k : Str → Option NameKind) (x : Str) : ∀ (l : List (Str × Value)) (m : Str → Option Value), x ∉ l.map (·.1) → bindC k l m x = m x
  | [], _, _ => rfl
  | (y, v) :: r, m, h => by
    unfold bindC
    rw [List.map_cons, List.mem_cons] at h
    rw [ke k x r _ fun q => h (.inr q)]
    split
    · rfl
    · show (if x = y then some v else m x) = m x; rw [if_neg fun q => h (.inl q)]
theorem jc (k : Str → Option NameKind) (x : Str) (v : Value) (hk : k x = some .local) : ∀ (l : List (Str × Value)) (m : Str → Option Value), (l.map (·.1)).Nodup → (x, v) ∈ l → bindL k l m x = some v
  | [], _, _, h => nomatch h
  | (y, u) :: r, m, hn, h => by
    rw [List.map_cons, List.nodup_cons] at hn
    unfold bindL
    rcases List.mem_cons.mp h with e | h
    · cases e
      rw [ka k x r _ hn.1, if_pos hk, if_pos rfl]
    · exact jc k x v hk r _ hn.2 h
theorem q8 (k : Str → Option NameKind) (x : Str) (v : Value) (hk : k x ≠ some .local) : ∀ (l : List (Str × Value)) (m : Str → Option Value), (l.map (·.1)).Nodup → (x, v) ∈ l → bindC k l m x = some v
  | [], _, _, h => nomatch h
  | (y, u) :: r, m, hn, h => by
    rw [List.map_cons, List.nodup_cons] at hn
    unfold bindC
    rcases List.mem_cons.mp h with e | h
    · cases e
      rw [ke k x r _ hn.1, if_neg hk, if_pos rfl]
    · exact q8 k x v hk r _ hn.2 h

theorem eM : ∀ (names : List (Str × NameKind)) (n : Nat) (acc : List (Str × Addr)) (x : Str) (c : Addr), (x, c) ∈ cellsFrom n names acc → (x, c) ∈ acc ∨ ((x, NameKind.cell) ∈ names ∧ n ≤ c)
  | [], _, _, _, _, h => .inl h
  | (y, k) :: r, n, acc, x, c, h => by
    unfold cellsFrom at h
    split at h
    · rename_i hk
      rcases eM r _ _ x c h with h | h
      · rcases List.mem_cons.mp h with e | h
        · cases e
          refine .inr ⟨?_, Nat.le_refl _⟩
          have : k = .cell := by simpa using hk
          subst this; exact .head _
        · exact .inl h
      · exact .inr ⟨.tail _ h.1, by (lia -abstractProof)⟩
    · exact (eM r _ _ x c h).imp id fun h => ⟨.tail _ h.1, h.2⟩
end Mine
namespace Mine
open PySem PySem.Calls PyProof.Rows

theorem bj {h h' : Heap} (k : bD h h') {b : Addr} (e : h'.get? b = none) : h.get? b = none := by
  cases q : h.get? b with
  | none => rfl
  | some o => rw [k b o q] at e; exact sN e

theorem u7 {ps : List Str} {avs : List AV} {vs : List Value} (hlv : vs.length = ps.length) {y : Str} {av : AV} (hy : (ps.zip avs).lookup y = some av) : ∃ (i : Nat) (v : Value), avs[i]? = some av ∧ vs[i]? = some v ∧ (y, v) ∈ ps.zip vs := by
  obtain ⟨i, e⟩ := List.getElem?_of_mem (mem_of_lookup hy)
  obtain ⟨e1, e2⟩ := List.getElem?_zip_eq_some.mp e
  have hiv : i < vs.length := by rw [hlv]; exact (List.getElem?_eq_some_iff.mp e1).1
  exact ⟨i, vs[i], e2, List.getElem?_eq_getElem hiv, List.mem_of_getElem? (List.getElem?_zip_eq_some.mpr ⟨e1, List.getElem?_eq_getElem hiv⟩)⟩
section
variable {prog : Program} {w : World} {rc : Addr} {hB : Heap} {mg : Str → Option Value}

theorem uw (htr : prog.given.tree = none) (hnl : hB.NoLimit) {a : Addr} {fn : Fn} (fi : kF hB a fn) {A : Around} {s : Shared} {n : Nat} {R : Result → Shared → Prop} (room : Room A (n + 1)) (fo : ∃ outer, A.frames = some outer) (gw : bD hB s.heap)
    {avs : List AV} {vs : List Value} {X F₀ : aR} (hl : avs.length = fn.ps.length) (hlv : vs.length = fn.ps.length)
    (rd : ∀ (i : Nat) (av : AV) (v : Value), avs[i]? = some av → vs[i]? = some v → RdV prog w rc s.heap (fun b => F₀ b ∨ bT (fn.ps.zip avs) b) v av)
    (hX : ∀ b, bT (fn.ps.zip avs) b → X b ∧ hB.get? b = none) (off : ∀ b, F₀ b → ¬ bT (fn.ps.zip avs) b) (nt : ∀ b, F₀ b → NT s.heap b)
    (apart : ∀ x y av av' b, (fn.ps.zip avs).lookup x = some av → (fn.ps.zip avs).lookup y = some av' → av.has b → av'.has b → x = y) (ok : ∀ x av, (fn.ps.zip avs).lookup x = some av → av.Ok)
    (body : ∀ (C : Cx) (A' : Around) (s' : Shared), C.Ok → (∀ y, C.sc.lookup y ≠ some .free) → C.sc = fn.sc → C.hB = hB → C.h₀ = s.heap → C.X = X → C.F₀ = F₀ → C.gens = s.gens → C.os = s.os → Rel prog w rc C (fn.ps.zip avs) s' → Room A' n → Fra prog A' →
      wpAny (model prog w) A' (execs fn.body C.env) (fun fl s'' => R (.ok (.ret (match fl with | .ret v => v | _ => .none))) s'') Bad s') :
    codeAny (model prog w) A (.call (.ref a) ⟨vs, []⟩) R s := by
  obtain ⟨o, fd, p, sc, code, ho, hd, rfl, rfl, rfl, hbody, hglob, hclos, hdef, hbui, hcr, hst, hps, hsc⟩ := fi
  unfold fb at hst
  simp only [Bool.and_eq_true, Bool.not_eq_true', List.isEmpty_iff, Option.isNone_iff_eq_none, decide_eq_true_eq] at hst
  obtain ⟨⟨⟨⟨⟨⟨⟨⟨⟨⟨st1, st2⟩, st3⟩, st4⟩, st5⟩, st6⟩, st7⟩, st8⟩, st9⟩, st10⟩, st11⟩ := hst
  have hkind : fd.scope.kind = .function := by cases q : fd.scope.kind <;> simp_all
  have hvl : vs.length = fd.params.args.length := by rw [hlv, hps, List.length_map]
  have hlook : ∀ x ∈ fn.ps, fd.scope.names.lookup x = some .local ∨ fd.scope.names.lookup x = some .cell := fun x hx => by
    rw [hps] at hx
    refine aA (List.mem_map.mp hx) fun b hb e2_ => ?_; obtain rfl := e2_
    have := List.all_eq_true.mp st10 b hb
    simpa using this
  have cellSome : ∀ n x, fd.scope.names.lookup x = some .cell → ((cellsFrom n fd.scope.names []).lookup x).isSome = true := fun n x hx => cellsFrom_some _ _ _ (.inl hx)
  refine codeAny_call_function (by have := room.depth; lia) (gw _ _ ho) hd st9 st8 hbody (hcr.keeps gw) ?_
  rw [jb st1 st2 st3 st4 hdef hvl st5, ← hps]
  refine wpAny_pure ?_
  rw [hclos]
  have hbl : ∀ x ∈ fn.ps.zip vs, x.1 ∈ fn.ps := fun x hx => (List.of_mem_zip hx).1
  refine wpAny_newFunctionEnv_cells hkind (fun x hx => (hlook x.1 (hbl x hx)).imp id fun h => ⟨h, cellSome _ _ h⟩) fun env he s' x => ?_
  have gr : bD s.heap s'.heap := x.toInCall.keep
  refine cY x.toInCall.same fun h₁ tk hs' => ?_
  refine ⟨(hnl.keeps gw).keeps gr, codeAny_func ?_⟩
  have eL : env.locals = s.heap.objs.size := by rw [he]; rfl
  have eg : env.globals = mainGlobals := by rw [he]; exact hglob
  have eb : env.builtins = builtinsNs := by rw [he]; exact hbui
  have esc : env.scope = fd.scope := by rw [he]; rfl
  have ec : env.cells = cellsFrom (s.heap.objs.size + 1) fd.scope.names [] := by rw [he]; rfl
  have ek : ∀ y, env.kindOf y = fn.sc.lookup y := fun y => by unfold Env.kindOf; rw [esc, hsc]
  have cm : ∀ y c, env.cells.lookup y = some c → fn.sc.lookup y = some .cell ∧ s.heap.objs.size < c := fun y c e => by
    rw [ec] at e
    rcases eM _ _ _ _ _ (mem_of_lookup e) with h | h
    · cases h
    · exact ⟨by rw [hsc]; exact cj st6 h.1, h.2⟩
  have cd : ∀ x y c, env.cells.lookup x = some c → env.cells.lookup y = some c → x = y := fun y z c e1 e2 => name_of_addr x.apart (mem_of_lookup e1) (mem_of_lookup e2)
  have nofree : ∀ y, fn.sc.lookup y ≠ some .free := fun y q => by
    rw [hsc] at q
    have := List.all_eq_true.mp st11 _ (mem_of_lookup q)
    simp at this
  have fxN : ∀ b, (b = env.locals ∨ ∃ x, fn.sc.lookup x = some .cell ∧ env.cells.lookup x = some b) → s.heap.get? b = none := fun b hb => by
    refine Heap.get?_none_of_le ?_
    rcases hb with rfl | ⟨y, _, hy⟩
    · rw [eL]; exact Nat.le_refl _
    · exact Nat.le_of_lt (cm y b hy).2
  let C : Cx := { env := env, sc := fn.sc, hB := hB, h₀ := s.heap, X := X, F₀ := F₀, gens := s.gens, os := s.os }
  have hasLive : ∀ b, bT (fn.ps.zip avs) b → NT s.heap b := fun b ⟨y, av, hy, hb⟩ => by
    refine bm (u7 hlv hy) fun i v e2 e3 Z => ?_
    exact (rd i av v e2 e3).nt b hb
  have CF : ∀ b, C.F (fn.ps.zip avs) b → (F₀ b ∨ bT (fn.ps.zip avs) b) ∨ s.heap.get? b = none := fun b q => by
    rcases q with q | q | q
    · exact .inl (.inl q)
    · exact .inr (fxN b q)
    · exact .inl (.inr q)
  have pnd : (fn.ps.zip vs).map (·.1) = fn.ps := by rw [List.map_fst_zip]; lia
  refine wpAny_mono (body C (A.deeper env) s' ⟨?_, ?_, ?_, ?_, ?_, eg, eb, ?_, ?_, ?_, ?_⟩ nofree rfl rfl rfl rfl rfl rfl rfl ⟨gw.trans gr, gr.agree _, by rw [hs'], by rw [hs'], ?_, ?_, apart, ok, ?_, ?_, ?_, ?_⟩ room.deeper ⟨htr, ?_⟩) (fun fl s'' h => ?_) fun Z Z f => f.elim
  · show env.scope.kind = .function
    rw [esc]; exact hkind
  · intro y e; exact (ek y).trans e
  · intro y e; exact (ek y).trans e
  · intro y e
    refine ⟨(ek y).trans e, ?_⟩
    have := cellSome (s.heap.objs.size + 1) y (by rw [← hsc]; exact e)
    rw [← ec] at this
    exact Option.isSome_iff_exists.mp this
  · intro y e; exact absurd e (nofree y)
  · intro y z c _ _ e1 e2; exact cd y z c e1 e2
  · intro y e q
    have := (cm y _ q).2
    rw [show C.env.locals = env.locals from rfl, eL] at this
    exact Nat.lt_irrefl _ this
  · intro y c e; exact absurd e (nofree y)
  · intro y c e; exact absurd e (nofree y)
  · refine ⟨_, x.toInCall.ns, fun y av hy => ?_⟩
    refine bm (u7 hlv hy) fun i v e2 e3 hmem => ?_
    refine ⟨v, ?_, (rd i av v e2 e3).step (gr.agree _) (fun b q => (CF b q)) fun b Z o => gr b o⟩
    rcases hlook y (hbl _ hmem) with hk | hk
    · have hk' : env.kindOf y = some .local := by unfold Env.kindOf; rw [esc]; exact hk
      exact .inl ⟨by show fn.sc.lookup y = _; rw [hsc]; exact hk, jc _ _ _ hk' _ _ (by rw [pnd]; rw [hps]; exact st5) hmem⟩
    · have hk' : env.kindOf y = some .cell := by unfold Env.kindOf; rw [esc]; exact hk
      obtain ⟨c, hc⟩ := Option.isSome_iff_exists.mp (cellSome (s.heap.objs.size + 1) y hk)
      rw [← ec] at hc
      have := x.cell y c hc
      rw [q8 _ _ _ (by rw [hk']; decide) _ _ (by rw [pnd]; rw [hps]; exact st5) hmem] at this
      exact .inr ⟨.inl (by show fn.sc.lookup y = _; rw [hsc]; exact hk), c, hc, this⟩
  · intro y c _ e2
    exact ⟨_, x.cell y c e2⟩
  · intro b hb q
    refine aA (hasLive b q) fun o e Z => ?_
    rw [fxN b hb] at e; exact nS e
  · intro b q
    rcases q with q | q | q
    · exact (nt b q).grow (gr b)
    · rcases q with rfl | ⟨y, _, hy⟩
      · exact .ns x.toInCall.ns
      · exact .cell (x.cell y b hy)
    · exact (hasLive b q).grow (gr b)
  · intro b q
    rcases q with q | q
    · have := fxN b q
      exact ⟨bj gw this, .inr this⟩
    · exact ⟨(hX b q).2, .inl (hX b q).1⟩
  · intro b hb q
    rcases q with q | q
    · refine aA (nt b hb) fun o e Z => ?_
      rw [fxN b q] at e; exact nS e
    · exact off b hb q
  · obtain ⟨outer, fo⟩ := fo
    exact ⟨env, outer, Around.frames_deeper fo, by rw [esc]; exact st8, by rw [esc]; exact st9, eb, eg⟩
  · cases fl <;> exact h

theorem za (W : Wd prog w rc hB mg) {a : Addr} {fn : Fn} (fi : kF hB a fn) {A : Around} {s : Shared} {n : Nat} {Q : Value → Shared → Prop} (room : Room A (n + 1)) (fo : ∃ outer, A.frames = some outer) (gw : bD hB s.heap)
    {avs : List AV} {vs : List Value} {X F₀ : aR} (hl : avs.length = fn.ps.length) (hlv : vs.length = fn.ps.length)
    (rd : ∀ (i : Nat) (av : AV) (v : Value), avs[i]? = some av → vs[i]? = some v → RdV prog w rc s.heap (fun b => F₀ b ∨ bT (fn.ps.zip avs) b) v av)
    (hX : ∀ b, bT (fn.ps.zip avs) b → X b ∧ hB.get? b = none) (off : ∀ b, F₀ b → ¬ bT (fn.ps.zip avs) b) (nt : ∀ b, F₀ b → NT s.heap b)
    (apart : ∀ x y av av' b, (fn.ps.zip avs).lookup x = some av → (fn.ps.zip avs).lookup y = some av' → av.has b → av'.has b → x = y) (ok : ∀ x av, (fn.ps.zip avs).lookup x = some av → av.Ok)
    (body : ∀ (C : Cx) (A' : Around) (s' : Shared), C.Ok → (∀ y, C.sc.lookup y ≠ some .free) → C.sc = fn.sc → C.hB = hB → C.h₀ = s.heap → C.X = X → C.F₀ = F₀ → C.gens = s.gens → C.os = s.os → Rel prog w rc C (fn.ps.zip avs) s' → Room A' n → Fra prog A' →
      wpAny (model prog w) A' (execs fn.body C.env) (fun fl s'' => Q (match fl with | .ret v => v | _ => .none) s'') Bad s') :
    wpAny (model prog w) A (call (.ref a) vs) Q Bad s :=
  wpAny_call (uw W.tree W.nolimit fi room fo gw hl hlv rd hX off nt apart ok body)
end
end Mine
namespace Mine
open PySem PySem.Calls PyProof.Rows

noncomputable abbrev pwP : Program := PySem.Challenge.pw_xm0262_01
noncomputable def txP : TX := txOf pwP
structure Cfg where
  w : World
  hB : Heap
  mg : Str → Option Value
  g : G
  n : Nat
noncomputable abbrev Cfg.M (K : Cfg) := model pwP K.w

structure CallOK (K : Cfg) : Prop where
  three : 3 ≤ K.n
  call : ∀ k ds d d0, nth (recsOf pwP) k = some d0 → K.g.call k ds = some d → ∃ a o fd, K.mg d0.name = some (.ref a) ∧ K.hB.get? a = some o ∧ o.data = .func fd ∧ ∀ (A : Around) (s : Shared) (F : aR) (vs : List Value), Room A K.n → (∃ outer, A.frames = some outer) → bD K.hB s.heap →
    (∀ b, F b → NT s.heap b) → RdAll 66 s.heap F ds vs → wpAny K.M A (call (.ref a) vs) (fun v s' => Rd 66 s'.heap F d v ∧ Gr s s') Bad s
  meth : ∀ k m fn ds d, nth (cD pwP "RegionTable") k = some (m, fn) → K.g.meth k ds = some d → ∃ a o fd, K.hB.get? a = some o ∧ o.data = .func fd ∧ (∀ (A : Around) (E : Value → Shared → Prop) (s : Shared) (x dx : Addr) (u : Value) (pl : Sem Bool) (Q : Value × List Value → Shared → Prop), bD K.hB s.heap → d8 s.heap 66 x dx u →
      Q (.ref a, [.ref x]) s → wpAny K.M A (getMethod (.ref x) m pl) Q E s) ∧
    ∀ (A : Around) (s : Shared) (F : aR) (vs : List Value), Room A K.n → (∃ outer, A.frames = some outer) → bD K.hB s.heap →
      (∀ b, F b → NT s.heap b) → RdAll 66 s.heap F ds vs → wpAny K.M A (PySem.call (.ref a) vs) (fun v s' => Rd 66 s'.heap F d v ∧ Gr s s') Bad s
structure Lw (K : Cfg) : Prop where
  W : Wd pwP K.w 66 K.hB K.mg
  CK : CallOK K

structure At (K : Cfg) (f : FX) (C : Cx) (A : Around) (τ : aQ) (s : Shared) : Prop where
  ok : C.Ok
  hB : C.hB = K.hB
  rel : Rel pwP K.w 66 C τ s
  room : Room A K.n
  fra : Fra pwP A
  sc : C.sc = f.sc

noncomputable def Al {α : Type} (X : Option α) (P : α → Prop) : Prop := match X with
  | some a => P a
  | none => True
theorem Al.bind {α β : Type} {X : Option α} {k : α → Option β} {P : β → Prop} (h : Al X fun a => Al (k a) P) : Al (X.bind k) P := by cases X <;> exact h
theorem Al.map {α β : Type} {X : Option α} {k : α → β} {P : β → Prop} (h : Al X fun a => P (k a)) : Al (X.map k) P := by cases X <;> exact h
theorem Al.guard {α : Type} {b : Bool} {X : Option α} {P : α → Prop} (h : b = true → Al X P) : Al (ak b X) P := by
  cases b
  · exact trivial
  · exact h rfl
theorem Al.mono {α : Type} {X : Option α} {P P' : α → Prop} (h : Al X P) (k : ∀ a, P a → P' a) : Al X P' := by
  cases X
  · exact trivial
  · exact k _ h
theorem Al.of {α : Type} {X : Option α} {P : α → Prop} (h : ∀ a, X = some a → P a) : Al X P := by
  cases X
  · exact trivial
  · exact h _ rfl
theorem Al.get {α : Type} {X : Option α} {P : α → Prop} (h : Al X P) {a : α} (e : X = some a) : P a := by rw [e] at h; exact h
theorem Al.eq {α : Type} {X Y : Option α} {P : α → Prop} (e : X = Y) (h : Al Y P) : Al X P := by rw [e]; exact h
theorem fX {α : Type} {b : Bool} {X : Option α} {a : α} (h : ak b X = some a) : b = true ∧ X = some a := by
  cases b
  · exact nS h
  · exact ⟨rfl, h⟩

section
variable {K : Cfg} {f : FX} {C : Cx} {A : Around} {τ : aQ} {s s' : Shared}

theorem At.gr (a : At K f C A τ s) (k : Gr s s') : At K f C A τ s' := ⟨a.ok, a.hB, a.rel.grow k.grow k.gens k.os, a.room, a.fra, a.sc⟩
theorem At.world (a : At K f C A τ s) : bD K.hB s.heap := a.hB ▸ a.rel.world
theorem At.nt (a : At K f C A τ s) : ∀ b, C.F τ b → NT s.heap b := a.rel.live
theorem At.frames (a : At K f C A τ s) : ∃ outer, A.frames = some outer := let ⟨env, outer, h, _⟩ := a.fra.fr; ⟨env :: outer, h⟩
theorem At.nolimit (W : Lw K) (a : At K f C A τ s) : s.heap.NoLimit := W.W.nolimit.keeps a.world
theorem At.seer (W : Lw K) (a : At K f C A τ s) : s.heap.NoSeer := W.W.seer.keeps a.world

noncomputable def ji (C : Cx) (τ : aQ) (s : Shared) (Q : Value → Shared → Prop) (d : D) : Prop := ∀ v s', Rd 66 s'.heap (C.F τ) d v → Gr s s' → Q v s'
noncomputable def oV (C : Cx) (τ : aQ) (s : Shared) (Q : Value → Shared → Prop) (p : D × Bool) : Prop := ∀ v s', Rl 66 s'.heap (C.F τ) p.1 v → (p.2 = false → Rd 66 s'.heap (C.F τ) p.1 v) → Gr s s' → Q v s'
noncomputable def jg (s : Shared) (Q : Bool → Shared → Prop) (b : Bool) : Prop := ∀ s', Gr s s' → Q b s'
noncomputable def RlsOf (rc : Addr) (F : aR) (p : List D × Bool) (vs : List Value) (h : Heap) : Prop := RlAll rc h F p.1 vs ∧ (p.2 = false → RdAll rc h F p.1 vs)
noncomputable def PostA (C : Cx) (τ : aQ) (s : Shared) (Q : List Value → Shared → Prop) (p : List D × Bool) : Prop := ∀ vs s', RlsOf 66 (C.F τ) p vs s'.heap → Gr s s' → Q vs s'
theorem ji.gr {Q : Value → Shared → Prop} {d : D} (h : ji C τ s Q d) (g : Gr s s') : ji C τ s' Q d := fun v s'' r k => h v s'' r (g.trans k)
theorem jg.gr {Q : Bool → Shared → Prop} {b : Bool} (h : jg s Q b) (g : Gr s s') : jg s' Q b := fun s'' k => h s'' (g.trans k)

noncomputable def EOk (K : Cfg) (f : FX) (e : Expr) (i : IE) : Prop := ∀ {C : Cx} {A : Around} {τ : aQ} {s : Shared} {Q : Value → Shared → Prop}, At K f C A τ s → Ok (evI K.g (aV f.ns τ) i) (ji C τ s Q) → wpAny K.M A (eval e C.env) Q Bad s
noncomputable def POk (K : Cfg) (f : FX) (e : Expr) (i : IE) : Prop := ∀ {C : Cx} {A : Around} {τ : aQ} {s : Shared} {Q : Value → Shared → Prop}, At K f C A τ s → Ok (bW (aV f.ns τ) (evI K.g (aV f.ns τ) i) i) (oV C τ s Q) → wpAny K.M A (eval e C.env) Q Bad s
noncomputable def TOk (K : Cfg) (f : FX) (e : Expr) (i : IE) : Prop := ∀ {C : Cx} {A : Around} {τ : aQ} {s : Shared} {Q : Bool → Shared → Prop}, At K f C A τ s → Ok (evT K.g (aV f.ns τ) (evI K.g (aV f.ns τ) i) i) (jg s Q) → wpAny K.M A (isTrue e C.env (eval e C.env)) Q Bad s
structure EP (K : Cfg) (f : FX) (e : Expr) (i : IE) : Prop where
  ev : EOk K f e i
  pk : POk K f e i
  ts : TOk K f e i
  it : ∀ g ρ own w, evIter g ρ own w i = (bW ρ w i).bind fun a => bif a.2 && !own then none else ba a.1

theorem iz {d : D} {v : Value} {F : aR} {Q : Bool → Shared → Prop} (h : Ok (c7 d) (jg s Q)) (r : Rl 66 s.heap F d v) : wpAny K.M A (truthy v) Q Bad s :=
  h.out fun b e k => wpAny_mono (pc e r) (fun c s' q => q.1 ▸ k s' q.2) fun Z Z x => x

noncomputable def re : Expr → Bool
  | .UnaryOp .Not _ _ => false
  | .BoolOp _ _ _ => false
  | .IfExp _ _ _ _ => false
  | .Compare _ _ _ _ => false
  | _ => true
set_option tactic.hygienic true in
theorem o9 {e : Expr} {whole : Sem Value} (h : re e = true) : isTrue e C.env whole = (do let v ← whole; standAt e.pos; holding [v] (truthy v)) := by
  cases e <;> first | rfl | (cases h) | skip
  rename_i op x p
  cases op <;> first | rfl | exact fT h
theorem kI {e : Expr} {i : IE} (hp : ∀ ρ w, bW ρ w i = w.map (·, false)) (h : EOk K f e i) : POk K f e i := fun a q => h a (by
  rw [hp] at q
  exact (aq.mp q).mono fun d k v s' r g => k v s' r.rl (fun Z => r) g)
theorem vI {e : Expr} {i : IE} (ht : ∀ g ρ w, evT g ρ w i = (bW ρ w i).bind fun x => c7 x.1) (hp : re e = true) (h : POk K f e i) : TOk K f e i := fun {C _ _ _ _} a q => wpAny_isTrue_value (h a (by
  rw [ht] at q
  exact (aC.mp q).mono fun p k v s' r Z g => iz (k.mono fun b z => jg.gr z g) r)) (o9 (C := C) hp)
theorem EP.of {e : Expr} {i : IE} (hp : ∀ ρ w, bW ρ w i = w.map (·, false)) (ht : ∀ g ρ w, evT g ρ w i = (bW ρ w i).bind fun x => c7 x.1) (hi : ∀ g ρ own w, evIter g ρ own w i = (bW ρ w i).bind fun a => bif a.2 && !own then none else ba a.1) (hq : re e = true) (h : EOk K f e i) : EP K f e i :=
  ⟨h, kI hp h, vI ht hq (kI hp h), hi⟩

theorem gt {x : Str} (h : eH x = false) : (x == Str.ofString "__debug__") = false := h
theorem co {x : Str} {p : Pos} {av : AV} {Q : Value → Shared → Prop} (a : At K f C A τ s) (hd : eH x = false) (e : τ.lookup x = some av) (h : ∀ v, RdV pwP K.w 66 s.heap (C.F τ) v av → Q v s) :
    wpAny K.M A (eval (.Name x p) C.env) Q Bad s := by
  refine aA a.rel.ns fun m hn hv => ?_
  refine aA (hv x av e) fun v h1 h2 => ?_
  refine wpAny_Name ?_ (gt hd)
  rcases h1 with ⟨k, hm⟩ | ⟨k, c, hc, hcell⟩
  · exact wpAny_loadName_local a.ok.kind (a.ok.loc x k) hn hm (h v h2)
  · exact wpAny_loadName_cell a.ok.kind (k.elim (fun k => (a.ok.cell x k).1) fun k => (a.ok.free x k).1) hc hcell (h v h2)
theorem qV {sc : cL} {x : Str} (h : wW sc x = true) : sc.lookup x = some .globalImplicit := by
  replace h : (match sc.lookup x with | some .globalImplicit => true | _ => false) = true := h
  cases q : sc.lookup x with
  | none => rw [q] at h; exact fT h
  | some k =>
    rw [q] at h
    cases k with
    | globalImplicit => rfl
    | _ => exact fT h
theorem hJ {x : Str} (h : f.glob x = true) : f.sc.lookup x = some .globalImplicit ∧ eH x = false := by
  unfold FX.glob at h
  rw [Bool.and_eq_true, Bool.and_eq_true, Bool.not_eq_true'] at h
  exact ⟨qV h.1.1, h.1.2⟩
theorem bp {x : Str} {i : Nat} (h : f.at x = some i) : pos f.ns x 0 = some i ∧ eH x = false := by
  obtain ⟨h1, h2⟩ := fX h
  exact ⟨h2, by simpa using h1⟩
theorem e9 (W : Lw K) {x : Str} {p : Pos} {v : Value} {Q : Value → Shared → Prop} (a : At K f C A τ s) (hx : f.glob x = true) (hv : K.mg x = some v) (h : Q v s) :
    wpAny K.M A (eval (.Name x p) C.env) Q Bad s :=
  Name_function_global a.ok.kind (a.ok.glob x (a.sc ▸ (hJ hx).1)) (loadGlobal_global (mg := K.mg) (by rw [a.ok.globals]; exact W.W.g.keeps a.world) hv h) (gt (hJ hx).2)
theorem bx (W : Lw K) {x : Str} {p : Pos} {v : Value} {Q : Value → Shared → Prop} (a : At K f C A τ s) (hx : f.glob x = true) (hm : K.mg x = none) (hn : x ≠ "__name__") (hv : bootBuiltins x = some v) (h : Q v s) :
    wpAny K.M A (eval (.Name x p) C.env) Q Bad s := by
  refine aA W.W.b fun mb hb hbb => ?_
  exact Name_function_global a.ok.kind (a.ok.glob x (a.sc ▸ (hJ hx).1)) (loadGlobal_builtin (mg := K.mg) (mb := mb) (by rw [a.ok.globals]; exact W.W.g.keeps a.world) hm (by rw [a.ok.builtins]; exact hb.keeps a.world) ((hbb x hn).trans hv) h) (gt (hJ hx).2)

theorem RdV.rl_own {h : Heap} {F : aR} {v : Value} {b : Addr} {ds : List D} (r : RdV pwP K.w 66 h F v (.own b ds)) : Rl 66 h F (.list ds) v := by
  obtain ⟨rfl, vs, hl, hz, hr, _⟩ := r
  exact ⟨b, vs, rfl, hl.isList, hz, hr⟩
theorem RdA.rl_own {h : Heap} {F : aR} {v : Value} {b : Addr} {ds : List D} (r : RdA 66 h F v (.own b ds)) : Rl 66 h F (.list ds) v := by
  obtain ⟨rfl, vs, hl, hz, hr, _⟩ := r
  exact ⟨b, vs, rfl, hl.isList, hz, hr⟩
theorem jF {x : Str} {k p} {Q : Value → Shared → Prop} (h : Q (.str x s.toks) { s with toks := s.toks + 1 }) : wpAny K.M A (eval (.Constant (.str x) k p) C.env) Q Bad s := wpAny_Constant_str h
theorem jG {x k : Str} {p1 p2 p : Pos} {u : Nat} {b : Addr} {es : List (Str × EA)} {ea : EA} {Q : Value → Shared → Prop} (a : At K f C A τ s) (hd : eH x = false) (e : τ.lookup x = some (.dct b es)) (ek : es.lookup k = some ea)
    (h : ∀ v s', Gr s s' → RdA 66 s'.heap (C.F τ) v ea → Q v s') : wpAny K.M A (eval (.Subscript (.Name x p1) (.Constant (.str k) u p2) p) C.env) Q Bad s := by
  refine Subscript_ (co a hd e fun v r => jF ?_)
  obtain ⟨rfl, kvs, hdct, hlen, kk⟩ := r
  refine aA (kk k ea ek) fun u' hu hr => ?_
  have hm : s.heap.MapOf (PySem.strKind pwP K.w) b _ := hdct.mapOf
  refine tail_any hm.typeIs slot_dict_getitem.lookup (wpAny_getItem_of (knd := PySem.strKind pwP K.w) (k := k) (by simp [PySem.strKind, Value.isStrOf]) hm hu ?_) rfl
  exact h _ _ ⟨.refl _, rfl, rfl⟩ hr

theorem ep_int {i : Int} {k p} : EP K f (.Constant (.int i) k p) (.k (.int i)) := .of (fun Z Z => rfl) (fun Z Z Z => rfl) (fun Z Z Z Z => rfl) rfl fun Z h => wpAny_Constant_int (h _ _ au (.toks _ _))
theorem zG {b : Bool} {k p} : EP K f (.Constant (.bool b) k p) (.k (.bool b)) := .of (fun Z Z => rfl) (fun Z Z Z => rfl) (fun Z Z Z Z => rfl) rfl fun Z h => wpAny_Constant_bool (h _ _ dt (.refl _))
theorem ep_v {x : Str} {i : Nat} {p : Pos} (h : f.at x = some i) : EP K f (.Name x p) (.v i) := by
  have pk : POk K f (.Name x p) (.v i) := fun {C A τ s Q} a q => by
    replace q : Ok (tB (aV f.ns τ i)) (oV C τ s Q) := q
    rw [dI (bp h).1] at q
    cases e : τ.lookup x with
    | none => rw [e] at q; exact False.elim q
    | some av =>
      rw [e] at q
      refine co a (bp h).2 e fun v r => ?_
      cases av with
      | val d => exact q v s (Rd.rl r) (fun Z => r) (.refl _)
      | own b ds => exact q v s r.rl_own (fun z => Bool.noConfusion z) (.refl _)
      | dct b es => exact False.elim q
  refine ⟨fun {C A τ s Q} a q => pk a ?_, pk, vI (fun Z Z Z => rfl) rfl pk, fun Z Z Z Z => rfl⟩
  replace q : Ok (yu (aV f.ns τ i)) (ji C τ s Q) := q
  show Ok (tB (aV f.ns τ i)) (oV C τ s Q)
  cases e : aV f.ns τ i with
  | none => rw [e] at q; exact False.elim q
  | some lv =>
    rw [e] at q
    cases lv with
    | val d => exact fun v s' Z r g => q v s' (r rfl) g
    | own ds => exact False.elim q
    | dct es => exact False.elim q
theorem zI (W : Lw K) {x : Str} {d : D} {p : Pos} (h : f.glob x = true) (hd : (litsOf pwP).lookup x = some d) : EP K f (.Name x p) (.k d) := .of (fun Z Z => rfl) (fun Z Z Z => rfl) (fun Z Z Z Z => rfl) rfl fun a q => by
  refine aA (W.W.const x d hd) fun v hv hr => ?_
  exact e9 W a h hv (q v _ (hr _ _) (.refl _))
theorem ep_ent {x k : Str} {w j : Nat} {u : Nat} {p1 p2 p : Pos} (h : f.at x = some w) (hk : pos bZ k 0 = some j) : EP K f (.Subscript (.Name x p1) (.Constant (.str k) u p2) p) (.ent w j) := by
  have pk : POk K f (.Subscript (.Name x p1) (.Constant (.str k) u p2) p) (.ent w j) := fun {C A τ s Q} a q => by
    replace q : Ok (tC (oI j (aV f.ns τ w))) (oV C τ s Q) := q
    rw [dI (bp h).1] at q
    cases e : τ.lookup x with
    | none => rw [e] at q; exact False.elim q
    | some av =>
      rw [e] at q
      cases av with
      | val d => exact False.elim q
      | own b ds => exact False.elim q
      | dct b es =>
        replace q : Ok (tC (lk j (erD es))) (oV C τ s Q) := q
        rw [l6 hk] at q
        cases e2 : es.lookup k with
        | none => rw [e2] at q; exact False.elim q
        | some ea =>
          rw [e2] at q
          refine jG a (bp h).2 e e2 fun v s' g r => ?_
          cases ea with
          | val d => exact q v s' (Rd.rl r) (fun Z => r) g
          | own b ds => exact q v s' r.rl_own (fun z => Bool.noConfusion z) g
  refine ⟨fun {C A τ s Q} a q => pk a ?_, pk, vI (fun Z Z Z => rfl) rfl pk, fun Z Z Z Z => rfl⟩
  replace q : Ok (wl (oI j (aV f.ns τ w))) (ji C τ s Q) := q
  show Ok (tC (oI j (aV f.ns τ w))) (oV C τ s Q)
  cases e : oI j (aV f.ns τ w) with
  | none => rw [e] at q; exact False.elim q
  | some ev =>
    rw [e] at q
    cases ev with
    | val d => exact fun v s' Z r g => q v s' (r rfl) g
    | own ds => exact False.elim q

theorem ep_bin (W : Lw K) {l r : Expr} {op : Operator} {p : Pos} {i j : IE} (hl : EP K f l i) (hr : EP K f r j) : EP K f (.BinOp l op r p) (.bin op i j) := .of (fun Z Z => rfl) (fun Z Z Z => rfl) (fun Z Z Z Z => rfl) rfl fun a h =>
  wpAny_BinOp (hl.pk a ((aC.mp h).mono fun x h x' s₁ rx Z k1 => hr.ev (a.gr k1) ((aC.mp h).mono fun y h y' s₂ ry k2 =>
    have a2 := (a.gr k1).gr k2
    xV (a2.nolimit W) (a2.seer W) a2.fra a2.room a2.nt (h.mono fun d h v s' r g => h v s' r (k1.trans (k2.trans g))) (rx.grow k2.grow) ry.rl)))
theorem ep_rep {x r : Expr} {p q : Pos} {i j : IE} (hs : ∀ y q, x ≠ .Starred y q) (hx : EP K f x i) (hr : EP K f r j) : EP K f (.BinOp (.List [x] q) .Mult r p) (.rep i j) := .of (fun Z Z => rfl) (fun Z Z Z => rfl) (fun Z Z Z Z => rfl) rfl fun {C A τ s Q} a h => by
  have hst : starEach [x] C.env = (false, eval x C.env) :: starEach [] C.env := by
    cases x <;> first | rfl | exact absurd rfl (hs _ _)
  refine wpAny_BinOp (wpAny_List_spliced (wpAny_items_cons (hx.ev a ((aC.mp h).mono fun d h v s₁ rv k1 => wpAny_items_nil ⟨by show 1 ≤ sizeLine; decide, ?_⟩)) hst))
  have kp : Gr s₁ { s₁ with heap := s₁.heap.push { cls := .type "list", data := .seq [v].toArray } } := .push _ _ _
  refine hr.ev ((a.gr k1).gr kp) ((aC.mp h).mono fun b h y s₂ ry k2 => ?_)
  have k02 := k1.trans (kp.trans k2)
  have hl : s₂.heap.get? s₁.heap.objs.size = some { cls := .type "list", data := .seq #[v] 0 } := k2.grow _ _ (Heap.get?_push_size _ rfl)
  exact h.out fun d e h => wpAny_mono (uN e hl (a.gr k02).nt (rv.grow (kp.trans k2).grow) ry) (fun v s' q => h v s' q.1 (k02.trans q.2)) fun Z Z x => x
theorem ep_no {x : Expr} {p : Pos} {i : IE} (hx : EP K f x i) : EP K f (.UnaryOp .Not x p) (.no i) := by
  have ev : EOk K f (.UnaryOp .Not x p) (.no i) := fun a h => UnaryOp_ (hx.ev a ((aC.mp (aq.mp h)).mono fun d h v s₁ r k => not_of (iz (h.mono fun b h s' g => h _ s' dt (k.trans g)) r.rl)))
  exact ⟨ev, kI (fun Z Z => rfl) ev, fun a h => wpAny_isTrue_Not (hx.ts a (((aq (f := (!·))).mp h).mono fun b h s' g => h s' g)), fun Z Z Z Z => rfl⟩
theorem ep_neg {x : Expr} {p : Pos} {i : IE} (hx : EP K f x i) : EP K f (.UnaryOp .USub x p) (.neg i) := .of (fun Z Z => rfl) (fun Z Z Z => rfl) (fun Z Z Z Z => rfl) rfl fun a h => UnaryOp_ (hx.ev a ((aC.mp h).mono fun d h v s₁ r k => by
  cases d with
  | int i =>
    obtain ⟨t, rfl⟩ := bw r
    exact P.neg_int (h _ _ au (k.trans (.toks _ _)))
  | _ => exact False.elim h))
theorem ep_ite {t b o : Expr} {p : Pos} {i j k : IE} (ht : EP K f t i) (hb : EP K f b j) (ho : EP K f o k) : EP K f (.IfExp t b o p) (.ite i j k) := by
  have ev : EOk K f (.IfExp t b o p) (.ite i j k) := fun a h => wpAny_IfExp (ht.ts a ((aC.mp h).mono fun c h s' g => by
    cases c
    · exact ho.ev (a.gr g) (h.mono fun d h => h.gr g)
    · exact hb.ev (a.gr g) (h.mono fun d h => h.gr g)))
  exact ⟨ev, kI (fun Z Z => rfl) ev, fun a h => False.elim h, fun Z Z Z Z => rfl⟩
end
end Mine
namespace Mine
open PySem PySem.Calls PyProof.Rows
theorem nO {sl : Expr} (h : ∀ lo hi st p, sl ≠ .Slice lo hi st p) (o i : Value) : subscripted sl false o i = operate [o, i] (getItem o i) := by
  cases sl <;> first | rfl | exact absurd rfl (h _ _ _ _)

theorem mV {f : Str} {b : Bi} (h : mW.lookup f = some b) : (f = "len" ∧ b = .len) ∨ (f = "list" ∧ b = .list) ∨ (f = "tuple" ∧ b = .tuple) ∨ (f = "sorted" ∧ b = .sorted) ∨ (f = "min" ∧ b = .min) ∨ (f = "max" ∧ b = .max) ∨ (f = "RegionTable" ∧ b = .region) := by
  have m := mem_of_lookup h
  unfold mW at m
  simp only [List.mem_cons, Prod.mk.injEq, List.not_mem_nil, or_false] at m
  exact m

section
variable {K : Cfg} {f : FX} {C : Cx} {A : Around} {τ : aQ} {s s' : Shared} {rc : Addr}
theorem cM {o : Expr} {attr : Str} {env : Env} {whole : Sem Value} (h : gu o = true) : attributeBase o attr env whole = whole := by
  cases o with
  | Call g as kw p => cases g with
    | Name x q => cases as with
      | nil => cases kw with
        | nil => exact fT h
        | cons _ _ => rfl
      | cons _ _ => rfl
    | _ => rfl
  | _ => rfl

theorem fK : ∀ (es : List Expr) (env : Env) (pos : Pos), (∀ e ∈ es, ∀ x p, e ≠ .Starred x p) → (backTo pos (starEach es env)).any (·.1) = false ∧ (backTo pos (starEach es env)).all (fun x => !x.1) = true
  | [], _, _, _ => ⟨rfl, rfl⟩
  | e :: es, env, pos, h => by
    have he : starEach (e :: es) env = (false, eval e env) :: starEach es env := by
      cases e <;> first | rfl | exact absurd rfl (h _ (.head _) _ _)
    obtain ⟨h1, h2⟩ := fK es env pos fun x m => h x (.tail _ m)
    have hb : backTo pos (starEach (e :: es) env) = backTo pos ((false, eval e env) :: starEach es env) := by rw [he]
    rw [hb]
    constructor
    · show (false || (backTo pos (starEach es env)).any (·.1)) = false
      rw [h1]; rfl
    · show (true && (backTo pos (starEach es env)).all (fun x => !x.1)) = true
      rw [h2]; rfl

theorem bM {f : Value} {first : List Value} {args : List Expr} {pos : Pos} {Q : Value → Shared → Prop} {P : Heap → Prop} (hp : ∀ e ∈ args, ∀ x p, e ≠ .Starred x p)
    (hk : ∀ h, P h → ∃ k, (k = Keeper.frame ∨ k = Keeper.machine ∨ k = Keeper.boundFrame) ∧ Looks (K.M) h (keeperOf f) k)
    (h : wpAny (K.M) A (spliced (backTo pos (starEach args C.env))) (fun vs s₁ => P s₁.heap ∧ wpAny (K.M) A (call f (first ++ vs)) Q Bad s₁) Bad s) :
    wpAny (K.M) A (callWith pos f first (backTo pos (starEach args C.env)) []) Q Bad s := by
  refine callWith_of (P := P) (by rw [(fK args C.env pos hp).1]; rfl) hk ?_
  cases args with
  | nil =>
    have h' : wpAny (K.M) A (spliced []) (fun vs s₁ => P s₁.heap ∧ wpAny (K.M) A (call f (first ++ vs)) Q Bad s₁) Bad s := h
    show wpAny (K.M) A (evalArgs f true [] []) _ _ s
    unfold evalArgs
    show wpAny (K.M) A (spliced [] >>= _) _ _ s
    refine wpAny_bind (wpAny_mono h' (fun vs s' h' => ?_) fun Z Z x => x)
    refine wpAny_bind (wpAny_pure ?_)
    refine wpAny_holding ?_
    exact wpAny_bind (wpAny_pure (wpAny_bind (wpAny_pure (wpAny_pure h'))))
  | cons e es =>
    have he : starEach (e :: es) C.env = (false, eval e C.env) :: starEach es C.env := by
      cases e <;> first | rfl | exact absurd rfl (hp _ (.head _) _ _)
    rw [he] at h ⊢
    exact evalArgs_plain h
theorem fV {a : Addr} {o : Obj} {fd : FuncData} (hd : o.data = .func fd) : ∀ h : Heap, h.get? a = some o → ∃ k, (k = Keeper.frame ∨ k = Keeper.machine ∨ k = Keeper.boundFrame) ∧ Looks (K.M) h (keeperOf (.ref a)) k := fun h e => by
  refine ⟨.frame, .inl rfl, ?_⟩
  unfold keeperOf
  refine (Looks.ld (part := none) e).andThen ?_
  rw [hd]
  exact Looks.now
theorem cI {v : Value} (hv : ∀ a, v ≠ .ref a) : ∀ h : Heap, True → ∃ k, (k = Keeper.frame ∨ k = Keeper.machine ∨ k = Keeper.boundFrame) ∧ Looks (K.M) h (keeperOf v) k := fun h Z => by
  refine ⟨.machine, .inr (.inl rfl), ?_⟩
  cases v <;> first | exact Looks.now | exact absurd rfl (hv _)

theorem rV {h : Heap} {F : aR} {ds : List D} {vs : List Value} (r : RlAll rc h F ds vs) : RdAll rc h gR ds vs := by
  induction r with
  | nil => exact .nil
  | cons a _ ih => exact .cons a.free ih

theorem kg {b : Bi} : ∀ a, je b ≠ .ref a := by intro a; cases b <;> (intro h; cases h)

theorem yP {h h' : Heap} {F : aR} {x dx b : Addr} {ds : List D} (nt : ∀ b, F b → NT h b) (n1 : h.get? x = none) (n2 : h.get? dx = none) (i : d8 h' rc x dx (.ref b)) (r : Rd rc h' F (.list ds) (.ref b)) : Rd rc h' F (iO (.list ds)) (.ref x) := by
  refine nv i fun hs t k e1 e2 => ?_; try clear i
  unfold iO
  exact ⟨x, dx, hs, t, .ref b, k, rfl, e1, e2, cP nt n1, cP nt n2, r⟩
set_option backward.match.sparseCases true in
theorem qz {op : BoolOp} {x y : Expr} {r : List Expr} {pos : Pos} {Q : Value → Shared → Prop}
    (h : wpAny (K.M) A (eval x C.env) (fun v s₁ => wpAny (K.M) A (truthy v) (fun c s₂ => if c = (match op with | .And => true | .Or => false) then wpAny (K.M) A (eval (.BoolOp op (y :: r) pos) C.env) Q Bad s₂ else Q v s₂) Bad s₁) Bad s) :
    wpAny (K.M) A (eval (.BoolOp op (x :: y :: r) pos) C.env) Q Bad s := by
  show wpAny (K.M) A (do
    let v ← eval x C.env
    standAt pos
    let c ← holding [v] (truthy v)
    match op, c with
    | .And, false | .Or, true => pure v
    | _, _ => boolOp pos op (eval y C.env :: evalEach r C.env)) Q Bad s
  refine wpAny_bind (wpAny_mono h (fun v s₁ h₁ => wpAny_bind (wpAny_standAt (wpAny_bind (wpAny_holding (wpAny_mono h₁ (fun c s₂ h₂ => ?_) fun Z Z x => x))))) fun Z Z x => x)
  cases op <;> cases c
  · exact wpAny_pure h₂
  · exact h₂
  · exact h₂
  · exact wpAny_pure h₂


theorem rt {op : CmpOp} {r : Expr} (h : e7 r = true) : lastMarks [op] [r] = false := by
  show behindInMarks op r = false
  cases r <;> first | rfl | exact fT h
theorem kB {n : Nat} (room : Room A n) {F : aR} {op : CmpOp} {d e : D} {x y : Value} {Q : Value → Shared → Prop} (h : Ok (be op d e) fun c => ∀ s', Gr s s' → Q (.bool c) s') (rx : Rl 66 s.heap F d x) (ry : Rl 66 s.heap F e y) : wpAny K.M A (compareOp op x y) Q Bad s :=
  h.out fun c e k => wpAny_mono (ur room e rx ry) (fun v s' q => q.1 ▸ k s' q.2) fun Z Z x => x
theorem ep_cmp {l r : Expr} {op : CmpOp} {p : Pos} {i j : IE} (hs : e7 r = true) (hl : EP K f l i) (hr : EP K f r j) : EP K f (.Compare l [op] [r] p) (.cmp op i j) := by
  have ev : EOk K f (.Compare l [op] [r] p) (.cmp op i j) := fun {C A τ s Q} a h => by
    rw [arm_eval_Compare, markedEach_of_false _ _ _ (rt hs)]
    exact wpAny_bind (hl.pk a ((aC.mp (aq.mp h)).mono fun x h x' s₁ rx Z k => chain_last (hr.pk (a.gr k) ((aC.mp h).mono fun y h y' s₂ ry Z k2 => kB ((a.gr k).gr k2).room (h.mono fun c h s' g => h _ s' dt (k.trans (k2.trans g))) (rx.grow k2.grow) ry))))
  refine ⟨ev, kI (fun Z Z => rfl) ev, fun {C A τ s Q} a h => ?_, fun Z Z Z Z => rfl⟩
  rw [arm_isTrue_Compare, markedEach_of_false _ _ _ (rt hs)]
  exact wpAny_bind (hl.pk a ((aC.mp h).mono fun x h x' s₁ rx Z k => test_last (hr.pk (a.gr k) ((aC.mp h).mono fun y h y' s₂ ry Z k2 => kB ((a.gr k).gr k2).room (h.mono fun c h s' g => wpAny_truthy_bool (h s' (k.trans (k2.trans g)))) (rx.grow k2.grow) ry))))
theorem zK {l m r : Expr} {op op' : CmpOp} {p : Pos} {i j o : IE} (hs : e7 m = true ∧ e7 r = true) (hl : EP K f l i) (hm : EP K f m j) (hr : EP K f r o) : EP K f (.Compare l [op, op'] [m, r] p) (.cmp2 op op' i j o) := by
  have mk : lastMarks [op, op'] [m, r] = false := rt (op := op') hs.2
  have ev : EOk K f (.Compare l [op, op'] [m, r] p) (.cmp2 op op' i j o) := fun {C A τ s Q} a h => by
    rw [arm_eval_Compare, markedEach_of_false _ _ _ mk]
    refine wpAny_bind (hl.pk a ((aC.mp (aq.mp h)).mono fun x h x' s₁ rx Z k => chain_link (hm.pk (a.gr k) ((aC.mp h).mono fun y h y' s₂ ry Z k2 => kB ((a.gr k).gr k2).room ((aC.mp h).mono fun c h s₃ k3 => wpAny_truthy_bool ?_) (rx.grow k2.grow) ry))))
    cases c
    · exact h _ s₃ dt (k.trans (k2.trans k3))
    · exact chain_last (hr.pk (((a.gr k).gr k2).gr k3) ((aC.mp h).mono fun z h z' s₄ rz Z k4 => kB ((((a.gr k).gr k2).gr k3).gr k4).room (h.mono fun c h s' g => h _ s' dt (k.trans (k2.trans (k3.trans (k4.trans g))))) (ry.grow (k3.trans k4).grow) rz))
  refine ⟨ev, kI (fun Z Z => rfl) ev, fun {C A τ s Q} a h => ?_, fun Z Z Z Z => rfl⟩
  rw [arm_isTrue_Compare, markedEach_of_false _ _ _ mk]
  refine wpAny_bind (hl.pk a ((aC.mp h).mono fun x h x' s₁ rx Z k => test_link (hm.pk (a.gr k) ((aC.mp h).mono fun y h y' s₂ ry Z k2 => kB ((a.gr k).gr k2).room ((aC.mp h).mono fun c h s₃ k3 => wpAny_truthy_bool ?_) (rx.grow k2.grow) ry))))
  cases c
  · exact h s₃ (k.trans (k2.trans k3))
  · exact test_last (hr.pk (((a.gr k).gr k2).gr k3) ((aC.mp h).mono fun z h z' s₄ rz Z k4 => kB ((((a.gr k).gr k2).gr k3).gr k4).room (h.mono fun c h s' g => wpAny_truthy_bool (h s' (k.trans (k2.trans (k3.trans (k4.trans g)))))) (ry.grow (k3.trans k4).grow) rz))

inductive LP (K : Cfg) (f : FX) : List Expr → List IE → Prop where
  | nil : LP K f [] []
  | cons {e i es is} : (∀ x p, e ≠ .Starred x p) → EP K f e i → LP K f es is → LP K f (e :: es) (i :: is)
theorem LP.ns {es : List Expr} {is : List IE} (h : LP K f es is) : ∀ e ∈ es, ∀ x p, e ≠ .Starred x p := by
  induction h with
  | nil => exact fun Z m => nomatch m
  | cons a _ _ ih => exact fun e m => (List.mem_cons.mp m).elim (fun q => q ▸ a) (ih e)
theorem de {e : Expr} {es : List Expr} {env : Env} (h : ∀ x p, e ≠ .Starred x p) : starEach (e :: es) env = (false, eval e env) :: starEach es env := by
  cases e <;> first | rfl | exact absurd rfl (h _ _)
theorem LP.es {es : List Expr} {is : List IE} (l : LP K f es is) : ∀ {C : Cx} {A : Around} {τ : aQ} {s : Shared} {Q : List Value → Shared → Prop}, At K f C A τ s → Ok (evEs K.g (aV f.ns τ) is) (fun ds => ∀ vs s', RdAll 66 s'.heap (C.F τ) ds vs → vs.length = es.length → Gr s s' → Q vs s') →
    ∀ p, wpAny K.M A (spliced (backTo p (starEach es C.env))) Q Bad s := by
  induction l with
  | nil => exact fun a h p => wpAny_items_nil (h _ _ .nil rfl (.refl _))
  | cons hs he _ ih => exact fun a h p => wpAny_items_cons (he.ev a ((aC.mp h).mono fun d h v s₁ r g => ih (a.gr g) ((aq.mp h).mono fun ds h vs s₂ rs hl g2 => h _ _ (.cons (r.grow g2.grow) rs) (congrArg (· + 1) hl) (g.trans g2)) p)) (de hs)
theorem LP.as {es : List Expr} {is : List IE} (l : LP K f es is) : ∀ {C : Cx} {A : Around} {τ : aQ} {s : Shared} {Q : List Value → Shared → Prop}, At K f C A τ s → Ok (evArgs K.g (aV f.ns τ) is) (PostA C τ s Q) →
    ∀ p, wpAny K.M A (spliced (backTo p (starEach es C.env))) Q Bad s := by
  induction l with
  | nil => exact fun a h p => wpAny_items_nil (h _ _ ⟨.nil, fun Z => .nil⟩ (.refl _))
  | cons hs he _ ih => exact fun a h p => wpAny_items_cons (he.pk a ((aC.mp h).mono fun d h v s₁ r r' g => ih (a.gr g) ((aq.mp h).mono fun ds h vs s₂ rs g2 => h _ _ ⟨.cons (r.grow g2.grow) rs.1, fun z => .cons ((r' (Bool.or_eq_false_iff.mp z).1).grow g2.grow) (rs.2 (Bool.or_eq_false_iff.mp z).2)⟩ (g.trans g2)) p)) (de hs)
theorem LP.all {es : List Expr} {is : List IE} (l : LP K f es is) : ∀ {C : Cx} {A : Around} {τ : aQ} {s : Shared} {Q : Bool → Shared → Prop}, At K f C A τ s → Ok (allT K.g (aV f.ns τ) is) (jg s Q) → wpAny K.M A (allTrue .And es C.env) Q Bad s := by
  induction l with
  | nil => exact fun a h => wpAny_allTrue_And_nil (h _ (.refl _))
  | cons _ he _ ih => exact fun a h => wpAny_allTrue_And_cons (he.ts a ((aC.mp h).mono fun b h s₁ g => by
      cases b
      · exact h s₁ g
      · exact ih (a.gr g) (h.mono fun b h => h.gr g)))
theorem LP.any {es : List Expr} {is : List IE} (l : LP K f es is) : ∀ {C : Cx} {A : Around} {τ : aQ} {s : Shared} {Q : Bool → Shared → Prop}, At K f C A τ s → Ok (anyT K.g (aV f.ns τ) is) (jg s Q) → wpAny K.M A (allTrue .Or es C.env) Q Bad s := by
  induction l with
  | nil => exact fun a h => wpAny_allTrue_Or_nil (h _ (.refl _))
  | cons _ he _ ih => exact fun a h => wpAny_allTrue_Or_cons (he.ts a ((aC.mp h).mono fun b h s₁ g => by
      cases b
      · exact ih (a.gr g) (h.mono fun b h => h.gr g)
      · exact h s₁ g))
theorem LP.band {es : List Expr} {is : List IE} (l : LP K f es is) : ∀ {C : Cx} {A : Around} {τ : aQ} {s : Shared} {Q : Value → Shared → Prop}, At K f C A τ s → Ok (evAnd K.g (aV f.ns τ) is) (ji C τ s Q) → ∀ p, wpAny K.M A (eval (.BoolOp .And es p) C.env) Q Bad s := by
  induction l with
  | nil => exact fun Z h => False.elim h
  | @cons e i es is _ he l ih =>
    cases l with
    | nil => exact fun a h p => BoolOp_one (he.ev a h)
    | cons _ _ _ => exact fun a h p => qz (he.ev a ((aC.mp h).mono fun d h v s₁ r g => iz ((aC.mp h).mono fun b h s₂ g2 => by
        cases b
        · exact h v s₂ (r.grow g2.grow) (g.trans g2)
        · exact ih ((a.gr g).gr g2) (h.mono fun d h => h.gr (g.trans g2)) p) r.rl))
theorem LP.bor {es : List Expr} {is : List IE} (l : LP K f es is) : ∀ {C : Cx} {A : Around} {τ : aQ} {s : Shared} {Q : Value → Shared → Prop}, At K f C A τ s → Ok (evOr K.g (aV f.ns τ) is) (ji C τ s Q) → ∀ p, wpAny K.M A (eval (.BoolOp .Or es p) C.env) Q Bad s := by
  induction l with
  | nil => exact fun Z h => False.elim h
  | @cons e i es is _ he l ih =>
    cases l with
    | nil => exact fun a h p => BoolOp_one (he.ev a h)
    | cons _ _ _ => exact fun a h p => qz (he.ev a ((aC.mp h).mono fun d h v s₁ r g => iz ((aC.mp h).mono fun b h s₂ g2 => by
        cases b
        · exact ih ((a.gr g).gr g2) (h.mono fun d h => h.gr (g.trans g2)) p
        · exact h v s₂ (r.grow g2.grow) (g.trans g2)) r.rl))
theorem ep_and {es : List Expr} {is : List IE} {p : Pos} (l : LP K f es is) : EP K f (.BoolOp .And es p) (.and is) := by
  have ev : EOk K f (.BoolOp .And es p) (.and is) := fun a h => l.band a h p
  exact ⟨ev, kI (fun Z Z => rfl) ev, fun a h => wpAny_isTrue_BoolOp (l.all a h), fun Z Z Z Z => rfl⟩
theorem ep_or {es : List Expr} {is : List IE} {p : Pos} (l : LP K f es is) : EP K f (.BoolOp .Or es p) (.or is) := by
  have ev : EOk K f (.BoolOp .Or es p) (.or is) := fun a h => l.bor a h p
  exact ⟨ev, kI (fun Z Z => rfl) ev, fun a h => wpAny_isTrue_BoolOp (l.any a h), fun Z Z Z Z => rfl⟩
theorem o8 {n : Nat} (h : n ≤ 100) : n ≤ aF ∧ n ≤ sizeLine := by
  have := aa
  have : aF = 1000000 := rfl
  (lia -abstractProof)
theorem ep_tup {es : List Expr} {is : List IE} {k : Nat} {p : Pos} (hz : es.length ≤ 100) (l : LP K f es is) : EP K f (.Tuple es k p) (.tup is) := .of (fun Z Z => rfl) (fun Z Z Z => rfl) (fun Z Z Z Z => rfl) rfl fun a h =>
  wpAny_Tuple_spliced (l.es a ((aq.mp h).mono fun ds h vs s₁ r hl g => ⟨(o8 (hl ▸ hz)).2, h _ _ (eE (.refl _) (a.gr g).nt (o8 (hl ▸ hz)).1 r _ rfl _ rfl) (g.trans (.push _ _ _))⟩) p)
theorem ep_lst {es : List Expr} {is : List IE} {p : Pos} (hz : es.length ≤ 100) (l : LP K f es is) : EP K f (.List es p) (.lst is) := .of (fun Z Z => rfl) (fun Z Z Z => rfl) (fun Z Z Z Z => rfl) rfl fun a h =>
  wpAny_List_spliced (l.es a ((aq.mp h).mono fun ds h vs s₁ r hl g => ⟨(o8 (hl ▸ hz)).2, h _ _ (fQ (.refl _) (a.gr g).nt (o8 (hl ▸ hz)).1 r _ rfl _ rfl) (g.trans (.push _ _ _))⟩) p)

theorem wd {F : aR} {d k : D} {b sl : Expr} {x i : Value} {Q : Value → Shared → Prop} (hsl : ∀ lo hi st p, sl ≠ .Slice lo hi st p) (h : Ok (gT d k) fun e => ∀ v s', Rd 66 s'.heap F e v → Gr s s' → Q v s') (rx : Rl 66 s.heap F d x) (ri : Rd 66 s.heap F k i) :
    wpAny K.M A (subscriptTail b sl x i) Q Bad s := by
  have fin : wpAny K.M A (getItem x i) Q Bad s := h.out fun e he k => wpAny_mono (oB he rx ri) (fun v s' q => k v s' q.1 q.2) fun Z Z x => x
  cases d with
  | list xs =>
    refine bm (eD rx) fun l vs e2_ hl Z => ?_; obtain rfl := e2_
    exact tail_any hl.typeIs slot_list_getitem.lookup fin (nO hsl _ _)
  | tuple xs =>
    refine bm (gM rx) fun l vs e2_ hl Z => ?_; obtain rfl := e2_
    exact tail_any (IsTup.typeIs hl) slot_tuple_getitem.lookup fin (nO hsl _ _)
  | _ => exact False.elim h
theorem ep_idx {b sl : Expr} {p : Pos} {i j : IE} (hsl : ∀ lo hi st p, sl ≠ .Slice lo hi st p) (hb : EP K f b i) (hs : EP K f sl j) : EP K f (.Subscript b sl p) (.idx i j) := .of (fun Z Z => rfl) (fun Z Z Z => rfl) (fun Z Z Z Z => rfl) rfl fun a h =>
  Subscript_ (hb.pk a ((aC.mp h).mono fun x h x' s₁ rx Z k => hs.ev (a.gr k) ((aC.mp h).mono fun y h i' s₂ ri k2 => wd hsl (h.mono fun d h v s' r g => h v s' r (k.trans (k2.trans g))) (rx.grow k2.grow) ri)))
theorem xD {F : aR} {d : D} {b : Expr} {lo hi : Option Expr} {p : Pos} {x vl vu : Value} {ol oh : Option Int} {Q : Value → Shared → Prop} (nt : ∀ b, F b → NT s.heap b) (h : Ok (ul ol oh d) fun e => ∀ v s', Rd 66 s'.heap F e v → Gr s s' → Q v s') (rx : Rl 66 s.heap F d x) (pl : IsPart vl ol) (pu : IsPart vu oh) :
    wpAny K.M A (subscriptTail b (.Slice lo hi none p) x (.ref s.heap.objs.size)) Q Bad { s with heap := s.heap.push { cls := .type "slice", data := .fields #[vl, vu, .none] } } := by
  have kp : Gr s { s with heap := s.heap.push { cls := .type "slice", data := .fields #[vl, vu, .none] } } := .push _ _ _
  have hs : Heap.IsSliceOf (s.heap.push { cls := .type "slice", data := .fields #[vl, vu, .none] }) s.heap.objs.size vl vu .none := ⟨_, Heap.get?_push_size _ rfl, rfl, rfl⟩
  have rx1 := rx.grow kp.grow
  have fin : wpAny K.M A (getItem x (.ref s.heap.objs.size)) Q Bad { s with heap := s.heap.push { cls := .type "slice", data := .fields #[vl, vu, .none] } } :=
    h.out fun e he k => wpAny_mono (uj (n := 0) (fun b q => (nt b q).grow (kp.grow b)) he rx1 hs pl pu rfl) (fun v s' q => k v s' q.1 (kp.trans q.2)) fun Z Z x => x
  cases d with
  | list xs =>
    refine bm (eD rx1) fun l vs e2_ hl Z => ?_; obtain rfl := e2_
    exact tail_any (s := { s with heap := s.heap.push { cls := .type "slice", data := .fields #[vl, vu, .none] } }) hl.typeIs slot_list_getitem.lookup fin (ops := [.ref s.heap.objs.size, .ref l]) rfl
  | tuple xs =>
    refine bm (gM rx1) fun l vs e2_ hl Z => ?_; obtain rfl := e2_
    exact tail_any (s := { s with heap := s.heap.push { cls := .type "slice", data := .fields #[vl, vu, .none] } }) (IsTup.typeIs hl) slot_tuple_getitem.lookup fin (ops := [.ref s.heap.objs.size, .ref l]) rfl
  | _ => exact False.elim h
noncomputable def sj (K : Cfg) (f : FX) (o : Option Expr) (i : IE) : Prop := ∀ {C : Cx} {A : Around} {τ : aQ} {s : Shared} {Q : Value → Shared → Prop}, At K f C A τ s → Ok ((evI K.g (aV f.ns τ) i).bind o5) (fun b => ∀ v s', IsPart v b → Gr s s' → Q v s') → wpAny K.M A (evalPart o C.env) Q Bad s
theorem yT : sj K f none (.k .none) := fun a h => wpAny_evalPart_none (h _ _ .none (.refl _))
theorem yS {e : Expr} {i : IE} (he : EP K f e i) : sj K f (some e) i := fun a h => wpAny_evalPart_some (he.ev a ((aC.mp h).mono fun d h v s' r g => by
  cases d with
  | none =>
    have e : v = .none := by exact r
    exact h _ _ (e ▸ .none) g
  | int i =>
    obtain ⟨t, rfl⟩ := bw r
    replace h : Ok (if -aj < i ∧ i < aj then some (some i) else none) _ := h
    split at h
    · exact h _ _ (.int i t) g
    · exact False.elim h
  | _ => exact False.elim h))
theorem ep_cut {b : Expr} {lo hi : Option Expr} {p q : Pos} {i j k : IE} (hb : EP K f b i) (hl : sj K f lo j) (hh : sj K f hi k) : EP K f (.Subscript b (.Slice lo hi none q) p) (.cut i j k) := .of (fun Z Z => rfl) (fun Z Z Z => rfl) (fun Z Z Z Z => rfl) rfl fun a h =>
  Subscript_ (hb.pk a ((aC.mp h).mono fun x h x' s₁ rx Z k => wpAny_Slice (hl (a.gr k) ((aC.mp h).mono fun ol h vl s₂ pl k2 => hh ((a.gr k).gr k2) ((aC.mp h).mono fun oh h vu s₃ pu k3 =>
    wpAny_evalPart_none (xD (((a.gr k).gr k2).gr k3).nt (h.mono fun d h v s' r g => h v s' r (k.trans (k2.trans (k3.trans g)))) (rx.grow (k2.trans k3).grow) pl pu))))))
theorem ep_rev {b st : Expr} {p q q2 : Pos} {m : Nat} {q3 : Pos} {i : IE} (hst : st = .Constant (.int 1) m q3) (hb : EP K f b i) : EP K f (.Subscript b (.Slice none none (some (.UnaryOp .USub st q2)) q) p) (.rev i) := .of (fun Z Z => rfl) (fun Z Z Z => rfl) (fun Z Z Z Z => rfl) rfl fun {C A τ s Q} a h => by
  subst hst
  refine Subscript_ (hb.pk a ((aC.mp h).mono fun x h x' s₁ rx Z k => wpAny_Slice (wpAny_evalPart_none (wpAny_evalPart_none (wpAny_evalPart_some (UnaryOp_ (wpAny_Constant_int (P.neg_int ?_))))))))
  have kt : Gr s₁ { s₁ with toks := s₁.toks + 1 + 1 } := .toks _ _
  have at0 := (a.gr k).gr kt
  have kp : Gr s₁ { s₁ with heap := s₁.heap.push { cls := .type "slice", data := .fields #[.none, .none, .int (-1) (s₁.toks + 1)] }, toks := s₁.toks + 1 + 1 } := .push _ _ _
  have hs : Heap.IsSliceOf (s₁.heap.push { cls := .type "slice", data := .fields #[.none, .none, .int (-1) (s₁.toks + 1)] }) s₁.heap.objs.size .none .none (.int (-1) (s₁.toks + 1)) := ⟨_, Heap.get?_push_size _ rfl, rfl, rfl⟩
  have rx1 := rx.grow kp.grow
  obtain ⟨xd, xb⟩ := x
  cases xd with
  | list xs =>
    refine bm (eD rx1) fun l vs e2_ hl Z => ?_; obtain rfl := e2_
    exact tail_any (s := { s₁ with heap := s₁.heap.push { cls := .type "slice", data := .fields #[.none, .none, .int (-1) (s₁.toks + 1)] }, toks := s₁.toks + 1 + 1 }) hl.typeIs slot_list_getitem.lookup
      (h.out fun e he z => wpAny_mono (uL ((a.gr k).gr kp).nt he rx1 hs) (fun v s' q => z v s' q.1 (k.trans (kp.trans q.2))) fun Z Z x => x) (ops := [.ref l, .ref s₁.heap.objs.size]) rfl
  | _ => exact False.elim h

theorem n7 {d : D} (h : ik d = true) : ∃ ds, d = .dict [(.none, .list ds)] := by
  cases d with
  | dict es => cases es with
    | nil => exact fT h
    | cons p r =>
      obtain ⟨k, v⟩ := p
      cases k with
      | none => cases v with
        | list ds => cases r with
          | nil => exact ⟨_, rfl⟩
          | cons _ _ => exact fT h
        | _ => exact fT h
      | _ => exact fT h
  | _ => exact fT h
theorem nF {d : D} (h : ik d = false) : mQ d = none := by
  cases d with
  | dict es => cases es with
    | nil => rfl
    | cons p r =>
      obtain ⟨k, v⟩ := p
      cases k with
      | none => cases v with
        | list ds => cases r with
          | nil => exact tF h
          | cons _ _ => rfl
        | _ => rfl
      | _ => rfl
  | _ => rfl
theorem nE {d : D} {Q : D → Prop} (h : Ok (mQ d) Q) : ∃ ds, d = .dict [(.none, .list ds)] := by
  cases q : ik d with
  | true => exact n7 q
  | false => rw [nF q] at h; exact h.elim
theorem zM (W : Lw K) {o : Expr} {x : Str} {p : Pos} {i : IE} (hns : gu o = true) (hx : x = "clauses") (ho : EP K f o i) : EP K f (.Attribute o x p) (.attr i) := .of (fun Z Z => rfl) (fun Z Z Z => rfl) (fun Z Z Z Z => rfl) rfl fun {C A τ s Q} a h => by
  subst hx
  rw [arm_eval_Attribute, cM hns]
  refine wpAny_bind (ho.ev a ((aC.mp h).mono fun d h v s₁ r k => wpAny_bind (wpAny_standAt (wpAny_bind (wpAny_holding ?_)))))
  obtain ⟨ds, rfl⟩ := nE h
  refine v8 r fun x dx hs t u kk e6_ i1 i2 hx hdx ru => ?_; obtain rfl := e6_; try clear r
  have a1 := a.gr k
  have hu : ∃ b, u = .ref b := by refine bY ru fun b Z e Z => ?_; exact ⟨b, e⟩
  exact W.W.attr A Bad s₁ x dx u _ a1.world ⟨hs, t, kk, i1, i2⟩ (fun tk => wpAny_bind (wpAny_letTemporaryGo (wpAny_pure (h _ _ ru (k.trans (.toks _ _)))))) hu
theorem hU {fv : Value} {first : List Value} {es : List Expr} {is : List IE} {p : Pos} {Q : Value → Shared → Prop} {P : Heap → Prop} (l : LP K f es is) (a : At K f C A τ s) (hP : ∀ s', Gr s s' → P s'.heap)
    (hk : ∀ h, P h → ∃ k, (k = Keeper.frame ∨ k = Keeper.machine ∨ k = Keeper.boundFrame) ∧ Looks K.M h (keeperOf fv) k)
    (h : Ok (evArgs K.g (aV f.ns τ) is) (PostA C τ s fun vs s' => wpAny K.M A (call fv (first ++ vs)) Q Bad s')) :
    wpAny K.M A (callWith p fv first (backTo p (starEach es C.env)) []) Q Bad s :=
  bM l.ns hk (l.as a (h.mono fun ds h vs s' r g => ⟨hP s' g, h vs s' r g⟩) p)
theorem jE {α β : Type} (g : α → β) : ∀ (l : List α) (k : Nat) {b : β}, nth (l.map g) k = some b → ∃ a, nth l k = some a ∧ g a = b
  | [], _, _, h => nomatch h
  | a :: _, 0, _, h => ⟨a, rfl, Option.some.inj h⟩
  | _ :: r, k + 1, _, h => jE g r k h
theorem qg {b : Bool} {d : D} {P : D → Prop} (h : Ok (dP b d) P) : P d ∧ (b = true → bf d = true) := by
  unfold dP at h
  cases b with
  | false => exact ⟨h, fun q => Bool.noConfusion q⟩
  | true => cases q : bf d with
    | false => rw [q] at h; exact False.elim h
    | true => rw [q] at h; exact ⟨h, fun Z => rfl⟩
theorem xQ {ad : Addr} {fs : List D} {first : List Value} {pa : List D × Bool} {vs : List Value} {d : D} {Q : Value → Shared → Prop} (a : At K f C A τ s) (rf : RdAll 66 s.heap (C.F τ) fs first) (hf : RdAll 66 s.heap gR fs first) (rs : RlsOf 66 (C.F τ) pa vs s.heap)
    (hc : ∀ (F : aR) (vs : List Value), (∀ b, F b → NT s.heap b) → RdAll 66 s.heap F (fs ++ pa.1) vs → wpAny K.M A (call (.ref ad) vs) (fun v s' => Rd 66 s'.heap F d v ∧ Gr s s') Bad s)
    (h : Ok (dP pa.2 d) fun d => ∀ v s', Rd 66 s'.heap (C.F τ) d v → Gr s s' → Q v s') : wpAny K.M A (call (.ref ad) (first ++ vs)) Q Bad s := by
  obtain ⟨h1, h2⟩ := qg h
  cases q : pa.2 with
  | false => exact wpAny_mono (hc (C.F τ) _ a.nt (rf.append (rs.2 q))) (fun v s' z => h1 v s' z.1 z.2) fun Z Z x => x
  | true => exact wpAny_mono (hc gR _ (fun Z z => z.elim) (hf.append (rV rs.1))) (fun v s' z => h1 v s' (Rd.flatten (a.gr z.2).nt _ _ (h2 q) z.1) z.2) fun Z Z x => x
theorem zL (W : Lw K) {x : Str} {es : List Expr} {is : List IE} {j : Nat} {p1 p : Pos} (hx : f.glob x = true) (hj : pos txP.fns x 0 = some j) (l : LP K f es is) : EP K f (.Call (.Name x p1) es [] p) (.call j is) := .of (fun Z Z => rfl) (fun Z Z Z => rfl) (fun Z Z Z Z => rfl) rfl fun {C A τ s Q} a h => by
  refine aA (jE _ _ _ (fS hj)) fun d0 h0 hn => ?_
  refine (aC.mp h).out fun pa e1 h1 => (aC.mp h1).out fun d e2 h2 => ?_
  refine kK (W.CK.call j pa.1 d d0 h0 e2) fun ad o fd hm ho hdat hcall => ?_
  refine wpAny_Call_NameR (e9 W a hx (hn ▸ hm) ?_)
  refine hU (P := fun h => h.get? ad = some o) l a (fun s' k => (a.gr k).world _ _ ho) (fV hdat) (by
    rw [e1]
    exact fun vs s₁ q k => xQ (fs := []) (first := []) (a.gr k) .nil .nil q (fun F vs n r => hcall A s₁ F vs (a.gr k).room (a.gr k).frames (a.gr k).world n r) (h2.mono fun d h v s' r g => h v s' r (k.trans g)))
theorem ld_bi (W : Lw K) {x : Str} {b : Bi} {p : Pos} {Q : Value → Shared → Prop} (a : At K f C A τ s) (hx : f.glob x = true) (hb : mW.lookup x = some b) (hr : b ≠ .region) (h : Q (je b) s) :
    wpAny K.M A (eval (.Name x p) C.env) Q Bad s := by
  rcases mV hb with ⟨rfl, rfl⟩ | ⟨rfl, rfl⟩ | ⟨rfl, rfl⟩ | ⟨rfl, rfl⟩ | ⟨rfl, rfl⟩ | ⟨rfl, rfl⟩ | ⟨rfl, rfl⟩
  · exact bx W a hx (W.W.free "len" (by decide)) (by decide) (by rfl) h
  · exact bx W a hx (W.W.free "list" (by decide)) (by decide) (by rfl) h
  · exact bx W a hx (W.W.free "tuple" (by decide)) (by decide) (by rfl) h
  · exact bx W a hx (W.W.free "sorted" (by decide)) (by decide) (by rfl) h
  · exact bx W a hx (W.W.free "min" (by decide)) (by decide) (by rfl) h
  · exact bx W a hx (W.W.free "max" (by decide)) (by decide) (by rfl) h
  · exact absurd rfl hr
theorem ep_bi (W : Lw K) {x : Str} {b : Bi} {es : List Expr} {is : List IE} {p1 p : Pos} (hx : f.glob x = true) (hb : mW.lookup x = some b) (l : LP K f es is) : EP K f (.Call (.Name x p1) es [] p) (.bi b is) := .of (fun Z Z => rfl) (fun Z Z Z => rfl) (fun Z Z Z Z => rfl) rfl fun {C A τ s Q} a h => by
  by_cases hr : b = .region
  · subst hr
    have hf : x = "RegionTable" := by
      rcases mV hb with ⟨_, q⟩ | ⟨_, q⟩ | ⟨_, q⟩ | ⟨_, q⟩ | ⟨_, q⟩ | ⟨_, q⟩ | ⟨q, _⟩ <;> first | exact q | cases q
    subst hf
    refine wpAny_Call_NameR (e9 W a hx W.W.region ?_)
    refine hU (P := bD K.hB) l a (fun s' k => (a.gr k).world) (fun h q => ⟨.machine, .inr (.inl rfl), W.W.keep h q⟩) ((aC.mp h).mono fun pa h vs s₁ q k => ?_)
    have a1 := a.gr k
    have z : pa.2 = false := by
      cases q2 : pa.2 with
      | false => rfl
      | true => rw [q2] at h; exact False.elim h
    rw [z] at h
    refine Ok.out (X := rm s8 pa.1) h fun d e h => ?_
    refine aA (en e) fun x hx e => ?_
    have r1 := q.2 z
    rw [hx] at r1
    refine aA (gn r1) fun v e1_ rv => ?_; obtain rfl := e1_
    cases x with
    | list ds =>
      obtain rfl := Option.some.inj e
      have rv' := rv
      refine bY rv' fun bq us e2_ Z => ?_; obtain rfl := e2_
      exact W.W.make A Bad s₁ bq _ a1.world (a1.room.less W.CK.three) a1.frames fun s' x dx k' n1 n2 i => h _ _ (yP a1.nt n1 n2 i (rv.grow k'.grow)) (k.trans k')
    | _ => exact nS e
  · refine wpAny_Call_NameR (ld_bi W a hx hb hr ?_)
    refine hU (P := fun Z => True) l a (fun Z Z => trivial) (cI kg) ((aC.mp h).mono fun pa h vs s₁ q k => ?_)
    have a1 := a.gr k
    have h' : Ok (biD b pa.1) (ji C τ s Q) := by
      cases q2 : (pa.2 && !pT b) with
      | false => rw [q2] at h; exact h
      | true => rw [q2] at h; exact False.elim h
    exact h'.out fun d e h => wpAny_mono (xY a1.nt a1.room.hd hr e q.1) (fun v s' q => h _ _ q.1 (k.trans q.2)) fun Z Z x => x
theorem zH (W : Lw K) {o : Expr} {m : Str} {es : List Expr} {i : IE} {is : List IE} {j : Nat} {apos p : Pos} (hns : gu o = true) (hpos : (apos.endLine == p.line) = true) (hlen : es.length < 20) (hj : pos txP.meths m 0 = some j) (ho : EP K f o i) (l : LP K f es is) :
    EP K f (.Call (.Attribute o m apos) es [] p) (.meth j i is) := .of (fun Z Z => rfl) (fun Z Z Z => rfl) (fun Z Z Z Z => rfl) rfl fun {C A τ s Q} a h => by
  refine aA (jE _ _ _ (fS hj)) fun z0_ h0 hm => ?_; obtain ⟨m', fn⟩ := z0_
  cases (show m' = m from hm)
  rw [arm_eval_Call, cM hns]
  refine wpAny_bind (ho.ev a ((aC.mp h).mono fun self h v s₁ r k => wpAny_bind (wpAny_standAt ?_)))
  cases hi : ik self with
  | false => rw [hi] at h; exact False.elim h
  | true =>
    rw [hi] at h
    obtain ⟨ds, rfl⟩ := n7 hi
    have r0 := r
    refine v8 r fun x dx hs t u kk e6_ i1 i2 hx hdx ru => ?_; obtain rfl := e6_; try clear r
    have a1 := a.gr k
    refine (aC.mp h).out fun pa e1 h1 => (aC.mp h1).out fun d e2 h2 => ?_
    refine kK (W.CK.meth j _ fn _ d h0 e2) fun ad oo fd ho hdat hget hcall => ?_
    unfold methodCall
    have hform : methodCallForm (es.length + ([] : List Keyword).length) (backTo p (starEach es C.env)) (backToKw p (keywordEach [] C.env)) = true := by
      unfold methodCallForm
      rw [(fK es C.env p l.ns).2]
      show (true && true && decide (es.length + 0 + 0 < 30)) = true
      simp; exact nle (by assumption) (by decide)
    rw [hform]
    refine wpAny_bind (wpAny_holding ?_)
    unfold calleeOf
    rw [if_pos rfl]
    refine hget A Bad s₁ x dx u _ _ a1.world ⟨hs, t, kk, i1, i2⟩ ?_
    dsimp only
    unfold methodCallPos
    rw [if_pos (by rw [hpos]; rfl)]
    refine wpAny_bind (wpAny_pure ?_)
    show wpAny K.M A (callWith p (.ref ad) [.ref x] (backTo p (starEach es C.env)) []) _ _ _
    refine hU (P := fun h => h.get? ad = some oo) l a1 (fun s' k => (a1.gr k).world _ _ ho) (fV hdat) (by
      rw [e1]
      exact fun vs s₂ q k2 => xQ (fs := [_]) (first := [.ref x]) (a1.gr k2) (.cons (r0.grow k2.grow) .nil) (.cons (r0.rl.free.grow k2.grow) .nil) q (fun F vs n r => hcall A s₂ F vs (a1.gr k2).room (a1.gr k2).frames (a1.gr k2).world n r) (h2.mono fun d h v s' r g => h v s' r (k.trans (k2.trans g))))
end
end Mine
namespace Mine
open PySem PySem.Calls PyProof.Rows
noncomputable def Cx.withF (C : Cx) (G : aR) : Cx := { C with F₀ := G }

section
variable {K : Cfg} {f f' : FX} {C : Cx} {A : Around} {τ : aQ} {s s' : Shared} {E : Value → Shared → Prop}

theorem Cx.Ok.withF {G : aR} (ok : C.Ok) : (C.withF G).Ok := ⟨ok.kind, ok.loc, ok.glob, ok.cell, ok.free, ok.globals, ok.builtins, ok.one, ok.offL, ok.offF, ok.frees⟩

theorem Rel.growF {G : aR} (R : Rel pwP K.w 66 C τ s) (k : Gr s s') (hG : ∀ b, G b → C.F₀ b ∨ s.heap.get? b = none) (hl : ∀ b, G b → NT s'.heap b) : Rel pwP K.w 66 (C.withF G) τ s' where
  world := R.world.trans k.grow
  base := fun b o n e => k.grow b o (R.base b o n e)
  gens := k.gens.trans R.gens
  os := k.os.trans R.os
  ns := by
    refine aA R.ns fun m hn hv => ?_
    refine ⟨m, hn.keeps k.grow, fun x av e => ?_⟩
    refine aA (hv x av e) fun v h1 h2 => ?_
    refine ⟨v, h1.keep rfl fun c Z Z o => k.grow c o, h2.step (k.grow.agree _) (fun b q => ?_) fun b Z o => k.grow b o⟩
    rcases q with q | q
    · exact (hG b q).imp .inl id
    · exact .inl (.inr q)
  cells := fun x c a b => let ⟨v, y⟩ := R.cells x c a b; ⟨v, y.keeps k.grow⟩
  apart := R.apart
  ok := R.ok
  off := R.off
  live := fun b q => by
    rcases q with q | q
    · exact hl b q
    · exact (R.live b (.inr q)).grow (k.grow b)
  new := R.new
  off0 := fun b q z => by
    rcases hG b q with q | q
    · exact R.off0 b q z
    · refine aA (R.live b (.inr z)) fun o e Z => ?_
      rw [q] at e; exact nS e

theorem Rel.dead {G W : aR} {h' : Heap} {tk : Nat} (R : Rel pwP K.w 66 C τ s) (a : aU W s.heap h') (hW : ∀ b, W b → C.F₀ b) (hN : ∀ b, W b → C.hB.get? b = none ∧ (C.X b ∨ C.h₀.get? b = none)) (hf : ∀ b, W b → ∀ x, C.sc.lookup x = some .free → C.env.cells.lookup x ≠ some b)
    (hG : ∀ b, G b → C.F₀ b) (hl : ∀ b, G b → NT h' b) : Rel pwP K.w 66 (C.withF G) τ { s with heap := h', toks := tk } where
  world := fun b o e => a b o (fun q => by have e' : C.hB.get? b = some o := e; rw [(hN b q).1] at e'; exact nS e') (R.world b o e)
  base := fun b o n e => a b o (fun q => by
    rcases (hN b q).2 with h | h
    · exact n h
    · have e' : C.h₀.get? b = some o := e; rw [h] at e'; exact nS e') (R.base b o n e)
  gens := R.gens
  os := R.os
  ns := by
    refine aA R.ns fun m hn hv => ?_
    refine ⟨m, hn.at' fun o eo => a _ o (fun q => R.off0 _ (hW _ q) (.inl (.inl rfl))) eo, fun x av e => ?_⟩
    refine aA (hv x av e) fun v h1 h2 => ?_
    refine ⟨v, h1.keep rfl fun c ec hk o eo => a c o (fun q => ?_) eo, h2.step (a.more fun b q => .inl (hW b q)) (bu.sub fun b q => ?_) fun b hb o eo => a b o (fun q => R.off0 b (hW b q) (.inr ⟨x, av, e, hb⟩)) eo⟩
    · rcases hk with hk | hk
      · exact R.off0 c (hW c q) (.inl (.inr ⟨x, hk, ec⟩))
      · exact hf c q x hk ec
    · rcases q with q | q
      · exact .inl (hG b q)
      · exact .inr q
  cells := fun x c e1 e2 => by
    refine bY (R.cells x c e1 e2) fun v o ho hd => ?_
    exact ⟨v, o, a c o (fun q => R.off0 c (hW c q) (.inl (.inr ⟨x, e1, e2⟩))) ho, hd⟩
  apart := R.apart
  ok := R.ok
  off := R.off
  live := fun b q => by
    rcases q with q | q
    · exact hl b q
    · exact (R.live b (.inr q)).grow fun o eo => a b o (fun z => R.off0 b (hW b z) q) eo
  new := R.new
  off0 := fun b q => R.off0 b (hG b q)

theorem Step.dead {τ τ' : aQ} {h h' h'' : Heap} {W : aR} (x : Step C τ h τ' h') (a : aU W h' h'') (hW : ∀ b, W b → h.get? b = none) : Step C τ h τ' h'' :=
  ⟨fun b o n e => a b o (fun q => by rw [hW b q] at e; exact nS e) (x.agree b o n e), x.turn, x.pins⟩

noncomputable def eC : List Expr → List D → aQ → aQ
  | .Name x _ :: es, d :: ds, τ => eC es ds (aS x (.val d) τ)
  | _, _, τ => τ
noncomputable def rP (t : Expr) (d : D) (τ : aQ) : aQ :=
  match t, d with
  | .Name x _, d => aS x (.val d) τ
  | .Tuple es _ _, .tuple ds => eC es ds τ
  | _, _ => τ

theorem mI {x : Str} {d : D} {b : Addr} (q : bT (aS x (.val d) τ) b) : bT τ b := (cB q).elim (fun z => z.elim) fun ⟨y, a, _, e, h⟩ => ⟨y, a, e, h⟩

theorem c9 {x : Str} {d : D} {v : Value} {E : Value → Shared → Prop} {Q : Unit → Shared → Prop} (a : At K f C A τ s) (hs : cA C.sc x = true) (r : Rd 66 s.heap (C.F τ) d v)
    (hQ : ∀ s', At K f C A (aS x (.val d) τ) s' → Step C τ s.heap (aS x (.val d) τ) s'.heap → Q () s') : wpAny (K.M) A (storeName C.env x v) Q E s :=
  Rel.put a.ok a.rel (.refl _) rfl rfl hs (show RdV pwP K.w 66 s.heap _ v (.val d) from Rd.less r fun b q => q.imp id fun z => z.imp id mI) trivial (fun Z q => q.elim) fun s' R st => hQ s' ⟨a.ok, a.hB, R, a.room, a.fra, a.sc⟩ st


theorem cO {x : Str} {i : Nat} (h : f.sto x = some i) : cA f.sc x = true ∧ pos f.ns x 0 = some i := fX h
inductive NP (f : FX) : List Expr → List Nat → Prop where
  | nil : NP f [] []
  | cons {x p i es is} : f.sto x = some i → NP f es is → NP f (.Name x p :: es) (i :: is)
inductive TgP (f : FX) : Expr → List Nat → Bool → Prop where
  | one {x p i} : f.sto x = some i → TgP f (.Name x p) [i] false
  | many {es is k p} : NP f es is → TgP f (.Tuple es k p) is true
theorem lx : ∀ es : List Expr, Al (lI f es) (NP f es)
  | [] => .nil
  | e :: es => by
    cases e with
    | Name x p => exact Al.bind (Al.of fun i h => Al.map ((lx es).mono fun is h2 => .cons h h2))
    | _ => exact trivial
theorem nN (t : Expr) : Al (lR f t) fun x => TgP f t x.1 x.2 := by
  cases t with
  | Name x p => exact Al.map (Al.of fun i h => .one h)
  | Tuple es k p => exact Al.map ((lx es).mono fun is h => .many h)
  | _ => exact trivial
theorem NP.each {es : List Expr} {is : List Nat} (h : NP f es is) (env : Env) : (assignEach es env).length = es.length ∧ (assignEach es env).findIdx? (·.1) = none := by
  induction h with
  | nil => exact ⟨rfl, rfl⟩
  | @cons x p i es is _ _ ih =>
    have e : assignEach (.Name x p :: es) env = (false, assign (.Name x p) env) :: assignEach es env := rfl
    rw [e]
    refine ⟨by simp [ih.1], ?_⟩
    rw [List.findIdx?_cons, ih.2]; rfl
theorem NP.assign {es : List Expr} {is : List Nat} (l : NP f es is) : ∀ {ds : List D} {vs : List Value} {τ : aQ} {s : Shared} {Q : Unit → Shared → Prop}, At K f C A τ s → RdAll 66 s.heap (C.F τ) ds vs →
    Ok (dK is ds (aV f.ns τ)) (fun ρ => ∀ s', aV f.ns (eC es ds τ) = ρ → ds.length = es.length → At K f C A (eC es ds τ) s' → Step C τ s.heap (eC es ds τ) s'.heap → Q () s') →
    wpAny K.M A (assignInOrder ((assignEach es C.env).map (·.2)) vs) Q E s := by
  induction l with
  | nil =>
    intro ds vs τ s Q a r h
    cases ds with
    | nil =>
      subst r
      exact wpAny_assignInOrder_none (h s rfl rfl a (.refl _ _ _))
    | cons _ _ => exact False.elim h
  | @cons x p i es is hi _ ih =>
    intro ds vs τ s Q a r h
    cases ds with
    | nil => exact False.elim h
    | cons d ds =>
      refine bm (dC r) fun v l e2_ r1 r2 => ?_; obtain rfl := e2_
      obtain ⟨hs, hp⟩ := cO hi
      show wpAny _ _ (assignInOrder (PySem.assign (.Name x p) C.env :: (assignEach es C.env).map (·.2)) (v :: l)) _ _ _
      refine wpAny_assignInOrder_more (wpAny_assign_Name (c9 a (a.sc ▸ hs) r1 fun s' a' st => ?_))
      replace h : Ok (dK is ds (upd (aV f.ns τ) i (.val d))) _ := h
      rw [← show AV.er (.val d) = LV.val d from rfl, ← bG hp] at h
      exact ih a' (RdAll.step (st.agree.more fun Z => .inr) st.F _ _ r2) (h.mono fun ρ h s'' e hl a'' st' => h s'' e (congrArg (· + 1) hl) a'' (st.trans st'))
theorem lQ {t : Expr} {ts : List Nat} {tt : Bool} {d : D} {v : Value} {Q : Unit → Shared → Prop} (ht : TgP f t ts tt) (a : At K f C A τ s) (r : Rd 66 s.heap (C.F τ) d v)
    (h : Ok (br ts d (aV f.ns τ) tt) fun ρ => ∀ s', aV f.ns (rP t d τ) = ρ → At K f C A (rP t d τ) s' → Step C τ s.heap (rP t d τ) s'.heap → Q () s') : wpAny K.M A (PySem.assign t C.env v) Q E s := by
  cases ht with
  | one hi =>
    obtain ⟨hs, hp⟩ := cO hi
    exact wpAny_assign_Name (c9 a (a.sc ▸ hs) r fun s' a' st => h s' (bG hp _ _) a' st)
  | @many es is k p l =>
    cases d with
    | tuple ds =>
      refine cW r fun b vs e2_ ht hF hz hr => ?_; obtain rfl := e2_
      obtain ⟨l3, l4⟩ := l.each C.env
      have hlen := hr.len
      refine Ok.out (X := dK ts ds (aV f.ns τ)) h fun ρ e h => ?_
      have hl : ds.length = es.length := by
        have : ∀ {es : List Expr} {is : List Nat} {ds : List D} {ρ ρ' : Rho}, NP f es is → dK is ds ρ = some ρ' → ds.length = es.length := by
          intro es is ds ρ ρ' l
          induction l generalizing ds ρ with
          | nil => intro h; cases ds with
            | nil => rfl
            | cons _ _ => exact nS h
          | cons _ _ ih => intro h; cases ds with
            | nil => exact nS h
            | cons d ds => exact congrArg (· + 1) (ih h)
        exact this l e
      refine wpAny_assign_Tuple a.room.hd ht (by rw [l3, ← hl, ← hlen, Array.length_toList]) l4 fun h' hx => ?_
      have k : Gr s { s with heap := h' } := ⟨fun b o e => hx b o (Nat.ne_of_lt (Heap.lt_size e)) e, rfl, rfl⟩
      refine l.assign (a.gr k) (hr.grow k.grow) ?_
      rw [e]
      exact fun s' e2 Z a' st => h s' e2 a' ((Step.grow k.grow).trans st)
    | _ => exact False.elim h
theorem jN : ∀ {es : List Expr} {ds : List D} {τ : aQ} {b : Addr}, bT (eC es ds τ) b → bT τ b
  | [], _, _, _, q => q
  | e :: es, [], _, _, q => by cases e <;> exact q
  | e :: es, d :: ds, τ, b, q => by
    cases e with
    | Name x p => exact mI (jN (es := es) (ds := ds) q)
    | _ => exact q
theorem uc {t : Expr} {d : D} {b : Addr} (q : bT (rP t d τ) b) : bT τ b := by
  cases t with
  | Name x p => exact mI q
  | Tuple es k p => cases d with
    | tuple ds => exact jN q
    | _ => exact q
  | _ => exact q
theorem lY {x : Str} (hx : f.sc.lookup x = some .free) {es : List Expr} {is : List Nat} (l : NP f es is) : ∀ {ds : List D} {τ : aQ}, (eC es ds τ).lookup x = τ.lookup x := by
  induction l with
  | nil => intro ds τ; rfl
  | @cons y p i es is hi _ ih =>
    intro ds τ
    cases ds with
    | nil => rfl
    | cons d ds =>
      show (eC es ds (aS y (.val d) τ)).lookup x = _
      rw [ih, aG, if_neg]
      rintro rfl
      rcases dm (cO hi).1 with q | q <;> (rw [hx] at q; cases q)
theorem ph {x : Str} {t : Expr} {ts : List Nat} {tt : Bool} (ht : TgP f t ts tt) (d : D) (hx : f.sc.lookup x = some .free) : (rP t d τ).lookup x = τ.lookup x := by
  cases ht with
  | @one y p i hi =>
    show (aS y (.val d) τ).lookup x = _
    rw [aG, if_neg]
    rintro rfl
    rcases dm (cO hi).1 with q | q <;> (rw [hx] at q; cases q)
  | many l =>
    cases d with
    | tuple ds => exact lY hx l
    | _ => rfl
end

noncomputable def iD (cells : List (Str × Addr)) : List (Str × NameKind) → List (Str × Addr) → List (Str × Addr)
  | [], acc => acc
  | (n, k) :: r, acc => if k == .free then iD cells r ((n, (cells.lookup n).getD 0) :: acc) else iD cells r acc

theorem sU (cells n k r acc) : iD cells ((n, k) :: r) acc = if k == .free then iD cells r ((n, (cells.lookup n).getD 0) :: acc) else iD cells r acc := rfl
theorem clOf_n (cells acc) : iD cells [] acc = acc := rfl
theorem iU {scope : Scope} {env : Env} (h : ∀ x ∈ scope.names, x.2 = .free → ∃ c, env.cells.lookup x.1 = some c) : closureFor scope env = pure (iD env.cells scope.names []) := by
  unfold closureFor
  have key : ∀ (names : List (Str × NameKind)) (acc : List (Str × Addr)), (∀ x ∈ names, x.2 = .free → ∃ c, env.cells.lookup x.1 = some c) →
      (forIn names acc fun x r => if x.2 == NameKind.free then (do let a ← cellOf env x.1; pure (ForInStep.yield ((x.1, a) :: r))) else pure (ForInStep.yield r)) = (pure (iD env.cells names acc) : Sem (List (Str × Addr))) := by
    intro names
    induction names with
    | nil => intro acc _; rw [List.forIn_nil]; rfl
    | cons x r ih =>
      intro acc hx
      obtain ⟨n, k⟩ := x
      rw [List.forIn_cons]
      by_cases hk : (k == NameKind.free) = true
      · obtain ⟨c, hc⟩ := hx (n, k) (.head _) (by simpa using hk)
        have e1 : cellOf env n = pure c := by unfold cellOf; rw [hc]
        simp only [hk, if_true, e1, pure_bind]
        rw [ih _ fun y m => hx y (.tail _ m)]
        conv => rhs; rw [sU]
        rw [if_pos hk, hc]
        rfl
      · simp only [hk, Bool.false_eq_true, if_false, pure_bind]
        rw [ih _ fun y m => hx y (.tail _ m)]
        conv => rhs; rw [sU]
        rw [if_neg hk]
  have := key scope.names [] h
  have e2 := congrArg (fun m => m >>= fun s => (pure s : Sem (List (Str × Addr)))) this
  exact e2.trans (pure_bind _ _)

theorem gf {cells : List (Str × Addr)} {x : Str} {c : Addr} (hc : cells.lookup x = some c) : ∀ (names : List (Str × NameKind)) (acc : List (Str × Addr)), ((x, NameKind.free) ∈ names ∨ acc.lookup x = some c) → (iD cells names acc).lookup x = some c
  | [], acc, h => h.elim (fun m => nomatch m) id
  | (n, k) :: r, acc, h => by
    rw [sU]
    split
    · rename_i hk
      refine gf hc r _ ?_
      by_cases e : x = n
      · subst e
        right
        rw [List.lookup_cons, beq_self_eq_true]
        simp [hc]
      · rcases h with h | h
        · rcases List.mem_cons.mp h with q | q
          · exact absurd (congrArg Prod.fst q) e
          · exact .inl q
        · right
          rw [List.lookup_cons, show (x == n) = false by simpa using e]; exact h
    · rename_i hk
      refine gf hc r _ (h.imp (fun m => ?_) id)
      rcases List.mem_cons.mp m with q | q
      · cases q; exact absurd rfl hk
      · exact q
theorem eV : ∀ (names : List (Str × NameKind)) (n : Nat) (acc cl : List (Str × Addr)), cellsFrom n names (acc ++ cl) = cellsFrom n names acc ++ cl
  | [], _, _, _ => rfl
  | (x, k) :: r, n, acc, cl => by
    unfold cellsFrom
    split
    · exact eV r (n + 1) ((x, n) :: acc) cl
    · exact eV r n acc cl
theorem dz {α : Type} (x : Str) : ∀ (l r : List (Str × α)), (l ++ r).lookup x = (l.lookup x).or (r.lookup x)
  | [], _ => rfl
  | (y, v) :: l, r => by
    rw [List.cons_append, List.lookup_cons, List.lookup_cons]
    cases x == y
    · exact dz x l r
    · rfl

theorem lu : ∀ {l : List Str}, lw l = true → l.Nodup
  | [], _ => .nil
  | x :: r, h => by
    rw [wG] at h
    rw [Bool.and_eq_true, Bool.not_eq_true'] at h
    exact List.nodup_cons.mpr ⟨by simpa using h.1, lu h.2⟩

section
variable {K : Cfg} {f f' : FX} {C : Cx} {A : Around} {τ : aQ} {s s' : Shared} {E : Value → Shared → Prop}

theorem qK {M : Model} {scope : Scope} {env : Env} {globals : Addr} {cl : List (Str × Addr)} {qual : Str} {Q : Env → Shared → Prop}
    (hQ : Q (newEnv scope s.heap.objs.size globals (cellsFrom (s.heap.objs.size + 1) scope.names cl) qual none .none (some env) builtinsNs) { s with heap := pushCells (s.heap.push { cls := .type "dict", data := .dict #[] }) scope.names }) :
    wpAny M A (newFunctionEnv scope globals cl [] qual none .none (some env)) Q E s := by
  simp only [newFunctionEnv, Option.isSome_some, if_true]
  refine wpAny_bind (wpAny_alloc ?_)
  refine wpAny_bind (wpAny_layCells _ (fun name kind cells => by cases hkc : kind == NameKind.cell <;> simp [hkc]) _ _ _ _ ?_)
  rw [show ({ s with heap := s.heap.push { cls := .type "dict", data := .dict #[] } } : Shared).heap.objs.size = s.heap.objs.size + 1 from Heap.size_push ..]
  rw [List.forIn_nil]
  exact wpAny_bind (wpAny_pure (wpAny_pure hQ))

noncomputable def fE (sc : cL) (τ : aQ) : aQ := sc.filterMap fun x => match x.2 with
  | .free => (match τ.lookup x.1 with
    | some (.val d) => some (x.1, .val d)
    | some (.own _ ds) => some (x.1, .val (.list ds))
    | _ => none)
  | _ => none
theorem hS {sc : cL} {x : Str} {av : AV} (h : (fE sc τ).lookup x = some av) : (x, NameKind.free) ∈ sc ∧ ∃ d, av = .val d ∧ (frzAll τ).lookup x = some (.val d) := by
  have m := mem_of_lookup h
  unfold fE at m
  refine aA (List.mem_filterMap.mp m) fun z0_ hm e => ?_; obtain ⟨y, k⟩ := z0_
  cases k <;> first | (cases e; done) | skip
  dsimp only at e
  cases e1 : τ.lookup y with
  | none => rw [e1] at e; exact nS e
  | some v =>
    rw [e1] at e
    cases v with
    | val d => cases e; exact ⟨hm, d, rfl, by unfold frzAll; rw [cG, e1]; rfl⟩
    | own b ds => cases e; exact ⟨hm, .list ds, rfl, by unfold frzAll; rw [cG, e1]; rfl⟩
    | _ => exact nS e

theorem gO {env : Env} (x : Str) : ∀ names : List (Str × NameKind),
    (names.map fun (n, k) => if (k == NameKind.free && env.scope.kind == .function && env.kindOf n == some .cell) then (n, NameKind.cell) else (n, k)).lookup x =
      (names.lookup x).map fun k => if (k == NameKind.free && env.scope.kind == .function && env.kindOf x == some .cell) then NameKind.cell else k
  | [] => rfl
  | (n, k) :: r => by
    have ih := gO (env := env) x r
    rw [List.map_cons, List.lookup_cons]
    cases hx : x == n with
    | true =>
      obtain rfl := beq_iff_eq.mp hx
      show List.lookup x ((if _ then (x, NameKind.cell) else (x, k)) :: _) = _
      have e2 : List.lookup x ((x, k) :: r) = some k := by rw [List.lookup_cons, beq_self_eq_true]
      rw [e2]
      split
      · rename_i q
        rw [List.lookup_cons, beq_self_eq_true]
        show some NameKind.cell = some (if _ then _ else _)
        rw [if_pos q]
      · rename_i q
        rw [List.lookup_cons, beq_self_eq_true]
        show some k = some (if _ then _ else _)
        rw [if_neg q]
    | false =>
      show List.lookup x ((if _ then (n, NameKind.cell) else (n, k)) :: _) = _
      have e2 : List.lookup x ((n, k) :: r) = List.lookup x r := by rw [List.lookup_cons, hx]
      rw [e2, ← ih]
      split <;> rw [List.lookup_cons, hx]

theorem fN {sc : cL} {scope : Scope} (h : gk sc scope = true) : scope.kind = .function ∧ (scope.names.map (·.1)).Nodup ∧ (∀ x, (x, NameKind.free) ∈ scope.names → sc.lookup x = some .cell ∨ sc.lookup x = some .free) := by
  unfold gk at h
  simp only [Bool.and_eq_true] at h
  obtain ⟨⟨h1, h2⟩, h3⟩ := h
  refine ⟨by cases q : scope.kind with
    | function => rfl
    | _ => rw [q] at h1; exact fT h1, lu h2, fun x m => ?_⟩
  have := List.all_eq_true.mp h3 _ m
  replace this : (match sc.lookup x with | some .cell => true | some .free => true | _ => false) = true := this
  cases q : sc.lookup x with
  | none => rw [q] at this; exact fT this
  | some k =>
    rw [q] at this
    cases k with
    | cell => exact .inl rfl
    | free => exact .inr rfl
    | _ => exact fT this

noncomputable def eU (C : Cx) (scope : Scope) (s : Shared) (G X : aR) : Cx :=
  { env := { (newEnv scope s.heap.objs.size C.env.globals (cellsFrom (s.heap.objs.size + 1) scope.names (iD C.env.cells scope.names [])) C.env.qual none .none (some C.env) builtinsNs) with scope := relabel scope C.env }
    sc := scope.names, hB := C.hB, h₀ := s.heap, X := X, F₀ := G, gens := s.gens, os := s.os }
noncomputable def fD (scope : Scope) (s : Shared) : Heap := pushCells (s.heap.push { cls := .type "dict", data := .dict #[] }) scope.names

theorem eT (scope : Scope) (s : Shared) : bD s.heap (fD scope s) := fun Z Z e => pushCells_keeps _ _ _ _ (Heap.get?_push_of_some _ e)

theorem sT {scope : Scope} {s₁ : Shared} {G X : aR} (hf' : f'.sc = scope.names) (a : At K f C A τ s₁) (hs : gk C.sc scope = true) (k : Gr s₁ s) (h1 : ∀ b, C.F (frzAll τ) b → G b) (h2 : ∀ b, G b → C.F (frzAll τ) b ∨ s₁.heap.get? b = none) (h3 : ∀ b, G b → NT s.heap b) (h4 : ∀ b, X b → s₁.heap.get? b = none) :
    At K f' (eU C scope s G X) A (fE scope.names τ) { s with heap := fD scope s } ∧ (∀ b, ¬ bT (fE scope.names τ) b) ∧ (∀ b, (eU C scope s G X).fx b → s.heap.get? b = none) ∧
      (∃ m, (fD scope s).Ns s.heap.objs.size m) ∧ closureFor scope C.env = pure (iD C.env.cells scope.names []) := by
  refine lr (fN hs) fun hk hnd hfree => ?_
  have gr := eT scope s
  have hcell : ∀ x, (x, NameKind.free) ∈ scope.names → C.env.kindOf x = some .cell ∧ ∃ c, C.env.cells.lookup x = some c := fun x m => (hfree x m).elim (a.ok.cell x) (a.ok.free x)
  have look : ∀ x kd, scope.names.lookup x = some kd → (x, kd) ∈ scope.names := fun x kd e => mem_of_lookup e
  have ok0 := cellsFrom_ok scope.names (s.heap.push { cls := .type "dict", data := .dict #[] }) (s.heap.objs.size + 1) [] ⟨fun Z Z hm => (nomatch hm), List.Pairwise.nil⟩ (by rw [Heap.size_push]; exact Nat.le_refl _)
  rw [Heap.size_push] at ok0
  have ecells : (eU C scope s G X).env.cells = cellsFrom (s.heap.objs.size + 1) scope.names [] ++ iD C.env.cells scope.names [] := eV scope.names _ [] _
  have ekind : ∀ x, (eU C scope s G X).env.kindOf x = (scope.names.lookup x).map fun k => if (k == NameKind.free && C.env.scope.kind == .function && C.env.kindOf x == some .cell) then NameKind.cell else k := fun x => gO x scope.names
  -- the own cells
  have own : ∀ x c, (cellsFrom (s.heap.objs.size + 1) scope.names []).lookup x = some c → scope.names.lookup x = some .cell ∧ s.heap.objs.size < c ∧ (fD scope s).IsCell c none := fun x c e => by
    have m := mem_of_lookup e
    rcases eM _ _ _ _ _ m with h | h
    · cases h
    · exact ⟨cj hnd h.1, h.2, (ok0.empty x c m).1⟩
  have atCell : ∀ x c, scope.names.lookup x = some .cell → (eU C scope s G X).env.cells.lookup x = some c → (cellsFrom (s.heap.objs.size + 1) scope.names []).lookup x = some c := fun x c e1 e2 => by
    rw [ecells, dz] at e2
    obtain ⟨c', hc'⟩ := Option.isSome_iff_exists.mp (cellsFrom_some scope.names (s.heap.objs.size + 1) [] (.inl e1))
    rw [hc'] at e2
    obtain rfl := Option.some.inj e2
    exact hc'
  have atFree : ∀ x, scope.names.lookup x = some .free → ∃ c, C.env.cells.lookup x = some c ∧ (eU C scope s G X).env.cells.lookup x = some c := fun x e => by
    obtain ⟨_, c, hc⟩ := hcell x (look x _ e)
    refine ⟨c, hc, ?_⟩
    rw [ecells, dz]
    cases q : (cellsFrom (s.heap.objs.size + 1) scope.names []).lookup x with
    | none => exact gf hc scope.names [] (.inl (look x _ e))
    | some c' => have := (own x c' q).1; rw [e] at this; cases this
  have freeLive : ∀ x c, scope.names.lookup x = some .free → C.env.cells.lookup x = some c → ∃ o, s₁.heap.get? c = some o := fun x c e e2 => by
    rcases hfree x (look x _ e) with q | q
    · refine bY (a.rel.cells x c q e2) fun v o ho Z => ?_
      exact ⟨o, ho⟩
    · refine aA (a.ok.frees x c q e2) fun o ho hX => ?_
      exact ⟨o, a.rel.base c o hX ho⟩
  have fxN : ∀ b, (eU C scope s G X).fx b → s.heap.get? b = none := fun b hb => by
    refine Heap.get?_none_of_le ?_
    rcases hb with rfl | ⟨x, e1, e2⟩
    · exact Nat.le_refl _
    · exact Nat.le_of_lt (own x b (atCell x b e1 e2)).2.1
  have noV : ∀ b, ¬ bT (fE scope.names τ) b := fun b ⟨x, av, e, hb⟩ => by
    obtain ⟨_, d, rfl, _⟩ := hS e
    exact hb.elim
  have hns : (fD scope s).Ns s.heap.objs.size (fun Z => none) := (Heap.Ns.new s.heap (.type "dict")).keeps (pushCells_keeps _ _)
  have R := a.rel.frzAll
  refine ⟨⟨⟨?_, ?_, ?_, ?_, ?_, a.ok.globals, a.ok.builtins, ?_, ?_, ?_, ?_⟩, a.hB, ⟨(a.rel.world.trans k.grow).trans gr, gr.agree _, rfl, rfl, ⟨_, hns, ?_⟩, ?_, ?_, ?_, ?_, ?_, ?_, ?_⟩, a.room, a.fra, hf'.symm⟩, noV, fxN, ⟨_, hns⟩, iU fun x m e => ?_⟩
  · exact hk
  · intro x e
    have e' : scope.names.lookup x = some .local := e
    rw [ekind, e']; rfl
  · intro x e
    have e' : scope.names.lookup x = some .globalImplicit := e
    rw [ekind, e']; rfl
  · intro x e
    have e' : scope.names.lookup x = some .cell := e
    refine ⟨by rw [ekind, e']; rfl, ?_⟩
    obtain ⟨c', hc'⟩ := Option.isSome_iff_exists.mp (cellsFrom_some scope.names (s.heap.objs.size + 1) [] (.inl e'))
    exact ⟨c', by rw [ecells, dz, hc']; rfl⟩
  · intro x e
    have e' : scope.names.lookup x = some .free := e
    refine aA (atFree x e') fun c Z hc => ?_
    refine ⟨?_, c, hc⟩
    rw [ekind, e']
    have := (hcell x (look x _ e')).1
    simp [a.ok.kind, this]
  · intro x y c e1 e2 e3 e4
    exact name_of_addr ok0.apart (mem_of_lookup (atCell x c e1 e3)) (mem_of_lookup (atCell y c e2 e4))
  · intro x e q
    have := (own x _ (atCell x _ e q)).2.1
    exact Nat.lt_irrefl _ this
  · intro x c e1 e2 q
    refine aA (atFree x e1) fun c' h1 h2 => ?_
    have e2' : (eU C scope s G X).env.cells.lookup x = some c := e2
    rw [h2] at e2'; obtain rfl := Option.some.inj e2'
    obtain ⟨o, ho⟩ := freeLive x _ e1 h1
    have := k.grow _ _ ho
    rw [fxN _ q] at this; exact nS this
  · intro x c e1 e2
    refine aA (atFree x e1) fun c' h1 h2 => ?_
    have e2' : (eU C scope s G X).env.cells.lookup x = some c := e2
    rw [h2] at e2'; obtain rfl := Option.some.inj e2'
    obtain ⟨o, ho⟩ := freeLive x _ e1 h1
    exact ⟨o, k.grow _ _ ho, fun q => by rw [h4 _ q] at ho; exact nS ho⟩
  · intro x av e
    obtain ⟨hm, d, rfl, e2⟩ := hS e
    refine aA R.ns fun m hn hv => ?_
    refine aA (hv x _ e2) fun v q1 q2 => ?_
    have e1 : scope.names.lookup x = some .free := cj hnd hm
    refine aA (atFree x e1) fun c h1' h2' => ?_
    refine ⟨v, .inr ⟨.inr e1, c, h2', ?_⟩, ?_⟩
    · rcases q1 with ⟨q, _⟩ | ⟨_, c', hc', hcl⟩
      · rcases hfree x hm with z | z <;> (rw [q] at z; cases z)
      · rw [h1'] at hc'; obtain rfl := Option.some.inj hc'
        exact hcl.keeps (k.grow.trans gr)
    · refine Rd.step ((k.grow.trans gr).agree _) (fun b q => ?_) d v q2
      rcases q with q | q | q
      · exact h2 b q
      · exact .inr (bj k.grow (fxN b q))
      · exact (noV b q).elim
  · intro x c e1 e2
    exact ⟨_, (own x c (atCell x c e1 e2)).2.2⟩
  · intro x y av av' b e _ hb
    exact (noV b ⟨x, av, e, hb⟩).elim
  · intro x av e
    obtain ⟨_, d, rfl, _⟩ := hS e
    trivial
  · intro b _ q
    exact noV b q
  · intro b q
    rcases q with q | q | q
    · exact (h3 b q).grow (gr b)
    · rcases q with rfl | ⟨x, e1, e2⟩
      · exact .ns hns
      · exact .cell (own x b (atCell x b e1 e2)).2.2
    · exact (noV b q).elim
  · intro b q
    rcases q with q | q
    · have := fxN b q
      exact ⟨bj (a.rel.world.trans k.grow) this, .inr this⟩
    · exact (noV b q).elim
  · intro b q z
    rcases z with z | z
    · refine aA (h3 b q) fun o e Z => ?_
      rw [fxN b z] at e; exact nS e
    · exact noV b z
  · obtain ⟨x, kd⟩ := x
    cases (show kd = .free from e)
    exact (hcell x m).2

theorem uo {elt target iter : Expr} {ifs : List Expr} {scope : Scope} {pos : Pos} {it acc : Value} {env : Env} {R : Result → Shared → Prop} (I : Nat → Shared → Prop)
    (turn : ∀ n s, I n s → wpAny (K.M) A (pyNext it) (fun r s₁ => match r with
      | none => R (.ok .next) s₁
      | some v => wpAny (K.M) A (letOwnedTupleGo target it v) (fun Z s₁' => wpAny (K.M) A (assign target env v) (fun Z s₂ =>
          wpAny (K.M) A (forIn ifs true fun c r => if r = true then do let ok ← isTrue c env (eval c env); pure (ForInStep.yield ok) else pure (ForInStep.yield r)) (fun ok s₃ =>
            if ok = true then wpAny (K.M) A (eval elt env) (fun x s₄ =>
              wpAny (K.M) A (call (.builtin "list.append") [acc, x]) (fun Z s₅ => ∃ m, m < n ∧ I m s₅) Bad s₄) Bad s₃
            else ∃ m, m < n ∧ I m s₃) Bad s₂) Bad s₁') Bad s₁) Bad s)
    (n : Nat) (h : I n s) :
    codeAny (K.M) A (.compLoop (.ListComp elt [⟨target, iter, ifs, 0⟩] scope pos) 0 it acc env) R s := by
  refine codeAny_loop rfl I (fun n s hI => ?_) n h
  show wpAny _ A ((compTurn (.ListComp elt [⟨target, iter, ifs, 0⟩] scope pos) 0 it acc env).onRaise (fun x => do noteFrame x env; theTreesLotGoes x)) _ _ s
  refine wpAny_noted ?_
  rw [compTurn_list]
  refine wpAny_bind (wpAny_standAt (wpAny_bind (wpAny_mono (turn n s hI) (fun r s₁ h₁ => ?_) fun Z Z f => f.elim)))
  cases r with
  | none => exact wpAny_pure h₁
  | some v =>
    refine wpAny_bind (wpAny_mono h₁ (fun Z s₁' h₁' => ?_) fun Z Z f => f.elim)
    refine wpAny_bind (wpAny_mono h₁' (fun Z s₂ h₂ => wpAny_bind (wpAny_mono h₂ (fun ok s₃ h₃ => ?_) fun Z Z f => f.elim)) fun Z Z f => f.elim)
    cases ok with
    | false => exact wpAny_pure ⟨rfl, h₃⟩
    | true =>
      exact wpAny_bind (wpAny_bind (wpAny_mono h₃ (fun x s₄ h₄ => wpAny_bind (wpAny_mono h₄ (fun Z s₅ h₅ => wpAny_pure (wpAny_pure ⟨rfl, h₅⟩)) fun Z Z f => f.elim)) fun Z Z f => f.elim))
theorem cc : aF ≤ sizeLine := by decide
end
end Mine
namespace Mine
open PySem PySem.Calls PyProof.Rows
theorem fZ {e : Expr} {env : Env} (h : e7 e = true) (x : Value) : foldedSetIterable e env x = pure x := by
  cases e <;> first | rfl | exact fT h


noncomputable def un : Option AV → Option AV
  | some (.val d) => some (.val d)
  | some (.own _ ds) => some (.val (.list ds))
  | _ => none
noncomputable def freeIn (l : cL) (y : Str) : Bool := l.any fun x => x.1 == y && x.2 == .free
theorem mN (τ : aQ) (y : Str) : ∀ l : cL, (fE l τ).lookup y = bif freeIn l y then un (τ.lookup y) else none
  | [] => rfl
  | (x, k) :: r => by
    have ih := mN τ y r
    have e : fE ((x, k) :: r) τ = (match (match k with | .free => (un (τ.lookup x)).map (x, ·) | _ => none) with | some p => p :: fE r τ | none => fE r τ) := by
      unfold fE
      rw [List.filterMap_cons]
      cases k <;> try rfl
      dsimp only
      cases τ.lookup x with
      | none => rfl
      | some av => cases av <;> rfl
    have e2 : freeIn ((x, k) :: r) y = ((x == y && k == .free) || freeIn r y) := rfl
    rw [e, e2]
    cases k with
    | free =>
      cases q : x == y with
      | true =>
        have e3 := beq_iff_eq.mp q
        subst e3
        show List.lookup x _ = un (τ.lookup x)
        cases z : un (τ.lookup x) with
        | none => exact ih.trans (by rw [z]; cases freeIn r x <;> rfl)
        | some av => exact (List.lookup_cons).trans (by rw [beq_self_eq_true])
      | false =>
        have q' : (y == x) = false := by
          cases z : y == x with
          | false => rfl
          | true => rw [beq_iff_eq.mp z, beq_self_eq_true] at q; exact tF q
        cases un (τ.lookup x) with
        | none => exact ih
        | some av => exact (List.lookup_cons).trans (by rw [q']; exact ih)
    | _ => cases x == y <;> exact ih
theorem qQ {f f' : FX} {y : Str} {i : Nat} (hi : pos f'.ns y 0 = some i) : ∀ l : cL, (∀ x ∈ l, x.2 = .free → (pos f'.ns x.1 0).isSome = true) → lk i (cE f f'.ns l) = bif freeIn l y then pos f.ns y 0 else none
  | [], _ => rfl
  | (x, k) :: r, h => by
    have ih := qQ (f := f) hi r fun z m => h z (.tail _ m)
    have e2 : freeIn ((x, k) :: r) y = ((x == y && k == .free) || freeIn r y) := rfl
    rw [e2]
    cases k with
    | free =>
      obtain ⟨j, hj⟩ := Option.isSome_iff_exists.mp (h _ (.head _) rfl)
      show lk i (match pos f'.ns x 0, pos f.ns x 0 with | some i, some j => (i, j) :: cE f f'.ns r | _, _ => cE f f'.ns r) = _
      rw [show pos f'.ns x 0 = some j from hj]
      cases q : x == y with
      | true =>
        have e3 := beq_iff_eq.mp q
        subst e3
        cases (show some i = some j from hi.symm.trans hj)
        cases z : pos f.ns x 0 with
        | none => exact ih.trans (by rw [z]; cases freeIn r x <;> rfl)
        | some o =>
          show (bif i == i then some o else _) = _
          rw [beq_self_eq_true]; rfl
      | false =>
        have q' : (i == j) = false := by
          cases z : i == j with
          | false => rfl
          | true =>
            cases beq_iff_eq.mp z
            rw [ou (show pos f'.ns x 0 = some i from hj) hi, beq_self_eq_true] at q; exact tF q
        cases pos f.ns x 0 with
        | none => exact ih
        | some o =>
          show (bif i == j then some o else _) = _
          rw [q']; exact ih
    | _ => cases x == y <;> exact ih
theorem tL : ∀ {ns : List Str} {x : Str} {k : Nat}, x ∈ ns → (pos ns x k).isSome = true
  | [], _, _, m => nomatch m
  | y :: r, x, k, m => by
    rw [zo]
    cases q : x == y with
    | true => rfl
    | false => exact tL ((List.mem_cons.mp m).resolve_left fun e => by rw [e, beq_self_eq_true] at q; exact tF q)
theorem tx {f : FX} {scope : Scope} {τ : aQ} (hf : pF f scope.names = true) : aV (bL scope) (fE scope.names τ) = cy (cE f (bL scope) scope.names) (aV f.ns τ) := by
  funext i
  show _ = (lk i (cE f (bL scope) scope.names)).bind fun j => (aV f.ns τ j).bind unD
  have mem : ∀ x ∈ scope.names, x.2 = .free → (pos (bL scope) x.1 0).isSome = true := fun x m e => tL (List.mem_map.mpr ⟨x, List.mem_filter.mpr ⟨m, by rw [e]⟩, rfl⟩)
  have none_lk : (∀ y, pos (bL scope) y 0 ≠ some i) → lk i (cE f (bL scope) scope.names) = none := fun no => by
    have : ∀ l : cL, lk i (cE f (bL scope) l) = none := by
      intro l
      induction l with
      | nil => rfl
      | cons x r ih =>
        obtain ⟨x, k⟩ := x
        cases k with
        | free =>
          show lk i (match pos (bL scope) x 0, pos f.ns x 0 with | some i, some j => (i, j) :: cE f (bL scope) r | _, _ => cE f (bL scope) r) = _
          cases hx : pos (bL scope) x 0 with
          | none => exact ih
          | some j => cases pos f.ns x 0 with
            | none => exact ih
            | some o =>
              show (bif i == j then some o else _) = _
              rw [show (i == j) = false from ?_]
              · exact ih
              · cases z : i == j with
                | false => rfl
                | true => exact absurd (beq_iff_eq.mp z ▸ hx) (no x)
        | _ => exact ih
    exact this _
  by_cases hy : ∃ y, pos (bL scope) y 0 = some i
  · obtain ⟨y, hy⟩ := hy
    rw [dI hy, mN, qQ (f' := ⟨scope.names, bL scope⟩) hy _ mem]
    cases q : freeIn scope.names y with
    | false => rfl
    | true =>
      refine aA (List.any_eq_true.mp q) fun z0_ hm he => ?_; obtain ⟨x, k⟩ := z0_
      rw [Bool.and_eq_true] at he
      cases beq_iff_eq.mp he.1
      have hk : k = .free := by simpa using he.2
      subst hk
      obtain ⟨j, hj⟩ := Option.isSome_iff_exists.mp (show (pos f.ns x 0).isSome = true from List.all_eq_true.mp hf _ hm)
      show (un (τ.lookup x)).map AV.er = (pos f.ns x 0).bind _
      rw [hj, Option.bind_some, dI hj]
      cases τ.lookup x with
      | none => rfl
      | some av => cases av <;> rfl
  · rw [none_lk fun y e => hy ⟨y, e⟩]
    unfold aV
    cases hn : nth (bL scope) i with
    | none => rfl
    | some y =>
      rw [Option.bind_some]
      cases q : mB (bL scope) y i with
      | false => rfl
      | true => exact absurd ⟨y, gy.mp q⟩ hy

section
variable {K : Cfg} {f f' : FX} {C : Cx} {A : Around} {τ : aQ} {s s' : Shared}
theorem Ok_eq {α : Type} {X Y : Option α} {Q : α → Prop} (e : X = Y) (h : Ok Y Q) : Ok X Q := e ▸ h
noncomputable def stC (g : G) (ρc : Rho) (ts : List Nat) (tt : Bool) (c e : IE) (d : D) : Option (Option D) :=
  (br ts d ρc tt).bind fun ρ₁ => (evT g ρ₁ (evI g ρ₁ c) c).bind fun b => bif b then (evI g ρ₁ e).bind fun r => bif bf r then some (some r) else none else some none
noncomputable def CP (K : Cfg) (f : FX) (ifs : List Expr) (i : IE) : Prop := ∀ {C : Cx} {A : Around} {τ : aQ} {s : Shared} {Q : Bool → Shared → Prop}, At K f C A τ s → Ok (evT K.g (aV f.ns τ) (evI K.g (aV f.ns τ) i) i) (jg s Q) →
  wpAny K.M A (forIn ifs true fun c r => if r = true then do let ok ← isTrue c C.env (eval c C.env); pure (ForInStep.yield ok) else pure (ForInStep.yield r)) Q Bad s
theorem uq {elt t iter : Expr} {ifs : List Expr} {scope : Scope} {pos : Pos} {s₁ s₂ : Shared} {I : Addr} {W : aR} {St : zj} {items : List D} {RR : Value → Addr → Result → Shared → Prop} {fs : List (Nat × Nat)} {ts : List Nat} {tt : Bool} {ci ei : IE} {KK : List D → Prop}
    (hf' : f'.sc = scope.names) (hv : aV f'.ns (fE scope.names τ) = cy fs (aV f.ns τ)) (ht : TgP f' t ts tt)
    (a : At K f C A τ s₁) (hs : gk C.sc scope = true) (k : Gr s₁ s₂) (it : It pwP K.w A 66 t I W St) (hW : ∀ b, W b → s₁.heap.get? b = none) (hz : items.length ≤ aF) (st : St gR (fun b => C.F τ b ∨ W b) items s₂.heap)
    (comp : Ok (iT (stC K.g (cy fs (aV f.ns τ)) ts tt ci ei) items) KK) (hci : CP K f' ifs ci) (hei : EOk K f' elt ei)
    (hRR : ∀ (rs : List D) (D L : Addr) (s' : Shared), KK rs → Gr s₁ s' → s₁.heap.get? L = none → (∃ m, s'.heap.Ns L m) → Rd 66 s'.heap (fun b => C.F τ b ∨ b = L) (.list rs) (.ref D) → s₁.heap.get? D = none → RR (.ref D) L (.ok .next) s') :
    wpAny K.M A (newList []) (fun acc s₃ => wpAny K.M A (newFunctionEnv scope C.env.globals (iD C.env.cells scope.names []) [] C.env.qual none .none (some C.env)) (fun cenv s₄ =>
      codeAny K.M A (.compStart (.ListComp elt [⟨t, iter, ifs, 0⟩] scope pos) 0 (.ref I) acc { cenv with scope := relabel scope C.env }) (RR acc cenv.locals) s₄) Bad s₃) Bad s₂ := by
  refine wpAny_newObj_type (qK ?_)
  -- the places
  let D : Addr := s₂.heap.objs.size
  let s₃ : Shared := { s₂ with heap := s₂.heap.push { cls := .type "list", dict := none, data := .seq ([] : List Value).toArray } }
  have k3 : Gr s₁ s₃ := k.trans (.push _ _ _)
  have hD : s₂.heap.get? D = none := get?_size _
  have hD1 : s₁.heap.get? D = none := bj k.grow hD
  have lD : s₃.heap.IsList D #[] := ⟨_, Heap.get?_push_size _ rfl, rfl, 0, rfl⟩
  let X : aR := fun b => W b ∨ b = D
  let Gf : aR := fun b => C.F (frzAll τ) b ∨ W b ∨ b = D
  have hX1 : ∀ b, X b → s₁.heap.get? b = none := fun b q => q.elim (hW b) fun e => e ▸ hD1
  have fF : ∀ b, C.F (frzAll τ) b → C.F τ b := fun b q => q.imp id fun z => z.imp id qd
  have lW : ∀ b, W b → NT s₂.heap b := fun b q => (it.live st b q).1
  have Gnt : ∀ b, Gf b → NT s₃.heap b := fun b q => by
    rcases q with q | q | q
    · exact (a.nt b (fF b q)).grow (k3.grow b)
    · exact (lW b q).grow fun o e => Heap.get?_push_of_some _ e
    · exact q ▸ .list lD
  have wD : ∀ b, W b → b ≠ D := fun b q e => by
    refine aA (lW b q) fun o eo Z => ?_
    rw [e, hD] at eo; exact nS eo
  refine ob0_5 (sT (f' := f') hf' (G := Gf) (X := X) (s := s₃) a hs k3 (fun b q => .inl q) (fun b q => q.imp id fun z => z.elim (hW b) fun e => e ▸ hD1) Gnt hX1) fun a4 noV fxN z3_ hclos => ?_; obtain ⟨m₀, ns₀⟩ := z3_
  generalize hCc : eU C scope s₃ Gf X = Cc at a4 fxN
  have eF₀ : Cc.F₀ = Gf := by rw [← hCc]; rfl
  have eX : Cc.X = X := by rw [← hCc]; rfl
  have eh₀ : Cc.h₀ = s₃.heap := by rw [← hCc]; rfl
  have esc : Cc.sc = scope.names := by rw [← hCc]; rfl
  have eL : Cc.env.locals = s₃.heap.objs.size := by rw [← hCc]; rfl
  have eenv : Cc.env = { (newEnv scope s₃.heap.objs.size C.env.globals (cellsFrom (s₃.heap.objs.size + 1) scope.names (iD C.env.cells scope.names [])) C.env.qual none .none (some C.env) builtinsNs) with scope := relabel scope C.env } := by rw [← hCc]; rfl
  let s₄ : Shared := { s₃ with heap := fD scope s₃ }
  let τc := fE scope.names τ
  let M₀ : aR := fun b => Cc.fx b ∨ b = D
  let F₁ : aR := fun b => Gf b ∨ Cc.fx b
  have fxD : ∀ b, Cc.fx b → b ≠ D := fun b q e => by
    have := fxN b q
    refine aA lD fun o eo Z => ?_; try clear lD
    rw [e, eo] at this; exact sN this
  have fxW : ∀ b, Cc.fx b → ¬ W b := fun b q z => by
    refine aA (Gnt b (.inr (.inl z))) fun o eo Z => ?_
    rw [fxN b q] at eo; exact nS eo
  have FcF : ∀ b, Cc.F τc b → F₁ b := fun b q => by
    rcases q with q | q | q
    · exact .inl (eF₀ ▸ q)
    · exact .inr q
    · exact (noV b q).elim
  have F₁c : ∀ b, F₁ b → Cc.F τc b := fun b q => q.elim (fun z => .inl (eF₀ ▸ z)) fun z => .inr (.inl z)
  have MF : ∀ b, M₀ b → F₁ b := fun b q => q.elim .inr fun e => .inl (.inr (.inr e))
  have WF : ∀ b, W b → F₁ b := fun b q => .inl (.inr (.inl q))
  have hfree : ∀ b, X b → ∀ x, Cc.sc.lookup x = some .free → Cc.env.cells.lookup x ≠ some b := fun b q x e1 e2 => by
    refine aA (a4.ok.frees x b e1 e2) fun o ho hx => ?_
    exact hx (eX ▸ q)
  have hnew : ∀ b, X b → Cc.hB.get? b = none ∧ (Cc.X b ∨ Cc.h₀.get? b = none) := fun b q => ⟨by rw [a4.hB]; exact bj a.world (hX1 b q), .inl (eX ▸ q)⟩
  have hX0 : ∀ b, X b → Cc.F₀ b := fun b q => by rw [eF₀]; exact .inr q
  -- the iterator after the block has begun
  have gr4 : bD s₂.heap s₄.heap := bD.trans (bD.push _) (eT scope s₃)
  have st4 : St M₀ F₁ items s₄.heap := by
    refine it.step st (gr4.agree _) (fun b q => .inr ?_) (fun b q => ?_) (fun b q => q.elim) WF
    · rcases q with q | q
      · exact bj (bD.push _) (fxN b q)
      · exact q ▸ hD
    · rcases q with q | q
      · rcases q with q | q | q
        · exact .inl (.inl (fF b q))
        · exact .inl (.inr q)
        · exact .inr (q ▸ hD)
      · exact .inr (bj (bD.push _) (fxN b q))
  have lD4 : s₄.heap.IsList D #[] := lD.at fun o e => eT scope s₃ _ _ e
  -- one heap more
  let Inv : Nat → Shared → Prop := fun j s => ∃ ds done ys, j = ds.length ∧ Ok (iT (stC K.g (cy fs (aV f.ns τ)) ts tt ci ei) ds) (fun rest => KK (done ++ rest)) ∧ At K f' Cc A τc s ∧ St M₀ F₁ ds s.heap ∧
    s.heap.IsList D ys ∧ RdAll 66 s.heap F₁ done ys.toList ∧ flatAll done = true ∧ ys.size + ds.length ≤ aF
  have dead : ∀ {τ' : aQ} {s : Shared} {V : aR} {h' : Heap} {tk : Nat}, At K f' Cc A τ' s → aU V s.heap h' → (∀ b, V b → X b) → (∀ b, V b → NT h' b) → At K f' Cc A τ' { s with heap := h', toks := tk } := by
    intro τ' s V h' tk at' ag hv hn
    have := at'.rel.dead (G := Cc.F₀) (W := V) (h' := h') (tk := tk) ag (fun b q => hX0 b (hv b q)) (fun b q => hnew b (hv b q)) (fun b q => hfree b (hv b q)) (fun b q => q) (fun b q => by
      by_cases hV : V b
      · exact hn b hV
      · exact (at'.nt b (.inl q)).grow fun o e => ag b o hV e)
    exact ⟨at'.ok, at'.hB, this, at'.room, at'.fra, at'.sc⟩
  have start : Inv items.length s₄ := by
    refine ⟨items, [], #[], rfl, comp, a4, st4, lD4, .nil, rfl, by simpa using hz⟩
  have loop : codeAny (K.M) A (.compLoop (.ListComp elt [⟨t, iter, ifs, 0⟩] scope pos) 0 (.ref I) (.ref D) Cc.env) (RR (.ref D) Cc.env.locals) s₄ := by
    refine uo Inv (fun j s hI => ?_) _ start
    refine ob3_8 hI fun ds done ys e3_ hcomp as sts lDs rds fls hsz => ?_; obtain rfl := e3_; try clear hI
    have ntF : ∀ b, F₁ b → NT s.heap b := fun b q => as.nt b (F₁c b q)
    cases ds with
    | nil =>
      refine it.done sts fun h' tk ag => ?_
      dsimp only
      have hsum' : KK done := List.append_nil done ▸ hcomp
      have b4 : aU X s₃.heap s.heap := eX ▸ eh₀ ▸ as.rel.base
      have gr : Gr s₁ { s with heap := h', toks := tk } := ⟨fun b o e => ag b o (fun q => by rw [hW b q] at e; exact nS e) (b4 b o (fun q => by rw [hX1 b q] at e; exact nS e) (k3.grow b o e)), by
        have := as.rel.gens; rw [show Cc.gens = s₃.gens by rw [← hCc]; rfl] at this; exact this.trans k.gens, by
        have := as.rel.os; rw [show Cc.os = s₃.os by rw [← hCc]; rfl] at this; exact this.trans k.os⟩
      refine aA as.rel.ns fun m hn Z => ?_
      have hL : ¬ W Cc.env.locals := fxW _ (.inl rfl)
      have ns' : h'.Ns Cc.env.locals m := hn.at' fun o e => ag _ _ hL e
      have hL1 : s₁.heap.get? Cc.env.locals = none := bj k3.grow (fxN _ (.inl rfl))
      have lD' : h'.IsList D ys := lDs.at fun o e => ag D o (fun q => wD D q rfl) e
      refine hRR done D Cc.env.locals _ hsum' gr hL1 ⟨m, ns'⟩ ?_ hD1
      refine ⟨D, ys, rfl, lD', fun q => ?_, by simpa using hsz, ?_⟩
      · rcases q with q | q
        · refine aA (a.nt D q) fun o e Z => ?_
          rw [hD1] at e; exact nS e
        · exact fxD _ (.inl rfl) q.symm
      · refine RdAll.flatten (F := F₁) (fun b q => ?_) _ _ fls (RdAll.step (ag.more WF) (.refl _ _) _ _ rds)
        rcases q with q | q
        · exact (a.nt b q).grow (gr.grow b)
        · exact q ▸ .ns ns'
    | cons d ds =>
      refine it.item sts ntF fun v h' tk go => ?_
      dsimp only
      refine go _ _ fun h'' st'' rv ag => ?_
      have livW := fun b q => (it.live st'' b q).1
      have a5 : At K f' Cc A τc { s with heap := h'', toks := tk } := dead as ag (fun b q => .inl q) livW
      have lD5 : h''.IsList D ys := lDs.at fun o e => ag D o (fun q => wD D q rfl) e
      have rd5 : RdAll 66 h'' F₁ done ys.toList := RdAll.step (ag.more WF) (.refl _ _) _ _ rds
      replace hcomp := aC.mp hcomp
      replace hcomp : Ok (br ts d (cy fs (aV f.ns τ)) tt) _ := aC.mp hcomp
      refine lQ ht a5 (rv.less FcF) (Ok_eq (by rw [hv]) <| hcomp.mono fun ρ₁ e1 s₆ er₁ a6 stp => ?_)
      have noV₁ : ∀ b, ¬ bT (rP t d τc) b := fun b q => noV b (uc q)
      have back : ∀ {s : Shared}, At K f' Cc A (rP t d τc) s → At K f' Cc A τc s := fun at' => ⟨at'.ok, at'.hB, at'.rel.recast fun x av' e => by
        have hx : Cc.sc.lookup x = some .free := by
          rw [esc]; exact cj (fN hs).2.1 (hS e).1
        exact ⟨av', by rw [ph ht d (by rw [hf', ← esc]; exact hx)] ; exact e, Frz.refl _⟩, at'.room, at'.fra, at'.sc⟩
      have MtoM : ∀ b, Cc.M τc b → M₀ b := fun b q => q.elim .inl fun z => (noV b z).elim
      have st6 : St M₀ F₁ ds s₆.heap := it.step st'' (stp.agree.more MtoM) (.refl _ _) (.refl _ _) MF WF
      have nD : ¬ Cc.M τc D := fun q => q.elim (fun z => fxD _ z rfl) (noV D)
      have lD6 : s₆.heap.IsList D ys := lD5.at fun o e => stp.agree D o nD e
      have rd6 : RdAll 66 s₆.heap F₁ done ys.toList := RdAll.step (stp.agree.more fun b q => MF b (MtoM b q)) (.refl _ _) _ _ rd5
      rw [← er₁] at e1
      refine hci a6 ((aC.mp e1).mono fun ok e1 s₇ k7 => ?_)
      have a7 := a6.gr k7
      have st7 : St M₀ F₁ ds s₇.heap := it.step st6 (k7.grow.agree _) (.refl _ _) (.refl _ _) MF WF
      have lD7 : s₇.heap.IsList D ys := lD6.at fun o e => k7.grow D o e
      have rd7 := rd6.grow k7.grow
      cases ok with
      | false =>
        simp only [Bool.false_eq_true, if_false]
        exact ⟨ds.length, by simp, ds, done, ys, rfl, (aq (X := iT (stC K.g (cy fs (aV f.ns τ)) ts tt ci ei) ds) (f := fun r => r) (Q := fun rest => KK (done ++ rest))).mp e1, back a7, st7, lD7, rd7, fls, by rw [List.length_cons] at hsz; exact Nat.le_of_lt (by assumption)⟩
      | true =>
        simp only [if_true]
        refine hei a7 ((aC.mp e1).mono fun r e1 y s₈ ry k8 => ?_)
        cases hfl : bf r with
        | false => rw [hfl] at e1; exact False.elim e1
        | true =>
          rw [hfl] at e1
          have a8 := back (a7.gr k8)
          have lD8 : s₈.heap.IsList D ys := lD7.at fun o e => k8.grow D o e
          have szt := cc
          refine wpAny_list_append lD8 (fun h9 l9 sb9 => ?_) (by rw [List.length_cons] at hsz; (lia -abstractProof))
          have ag9 : aU (fun b => b = D) s₈.heap h9 := fun b o nb e => by rw [sb9.2 b nb]; exact e
          have ry1 : Rd 66 s₈.heap F₁ r y := ry.less fun b q => q.elim (fun z => .inl (eF₀ ▸ z)) fun z => .inr (.inl z)
          have agF : aU F₁ s₈.heap h9 := ag9.more fun b q => .inl (.inr (.inr q))
          have agM : aU M₀ s₈.heap h9 := ag9.more fun b q => .inr q
          refine ⟨ds.length, by simp, ds, done ++ [r], ys.push y, rfl, ((aq (X := iT (stC K.g (cy fs (aV f.ns τ)) ts tt ci ei) ds) (f := fun rest => r :: rest) (Q := fun rest => KK (done ++ rest))).mp e1).mono fun rest q => by rw [List.append_assoc]; exact q, dead a8 ag9 (fun b q => .inr q) (fun b q => q ▸ .list l9), ?_, l9, ?_, cv fls (by simp [flatAll, hfl]), ?_⟩
          · exact it.step (it.step st7 (k8.grow.agree _) (.refl _ _) (.refl _ _) MF WF) agM (.refl _ _) (.refl _ _) MF WF
          · rw [Array.toList_push]
            exact (RdAll.step agF (.refl _ _) _ _ (rd7.grow k8.grow)).append (.cons (ry1.step agF (.refl _ _)) .nil)
          · rw [Array.size_push]; rw [List.length_cons] at hsz; (lia -abstractProof)
  have fin := codeAny_compStart_list loop (it.self st4 loop)
  rw [eenv] at fin
  exact fin

noncomputable def ip (own : Bool) (C : Cx) (τ : aQ) : aR := if own then gR else C.M τ
theorem d9 {own : Bool} {C : Cx} {τ : aQ} : ∀ b, ip own C τ b → C.F τ b := fun b q => by
  unfold ip at q
  split at q
  · exact q.elim
  · exact .inr q

end
end Mine
namespace Mine
open PySem PySem.Calls PyProof.Rows
section
variable {K : Cfg} {f f' : FX} {C : Cx} {A : Around} {τ : aQ} {s s' : Shared}
noncomputable def jh (K : Cfg) (A : Around) (t : Expr) (M F : aR) (s : Shared) (Q : Value → Shared → Prop) (items : List D) : Prop := ∀ v s', gB pwP K.w A 66 t s.heap M F items v s' → Gr s s' → Q v s'
structure IP (K : Cfg) (f : FX) (t e : Expr) (i : IE) : Prop where
  ns : e7 e = true
  it : ∀ {own : Bool} {C : Cx} {A : Around} {τ : aQ} {s : Shared} {Q : Value → Shared → Prop}, At K f C A τ s → Ok (evIter K.g (aV f.ns τ) own (evI K.g (aV f.ns τ) i) i) (jh K A t (ip own C τ) (C.F τ) s Q) →
    wpAny K.M A (eval e C.env) (fun x s₁ => wpAny K.M A (pyIter x) Q Bad s₁) Bad s
theorem jh.gr {t : Expr} {M F : aR} {Q : Value → Shared → Prop} {items : List D} (h : jh K A t M F s Q items) (g : Gr s s') : jh K A t M F s' Q items := fun v s₂ r k => h v s₂ (r.before g.grow) (g.trans k)
theorem jL {t e : Expr} {i : IE} (hs : e7 e = true) (h : EP K f e i) : IP K f t e i := ⟨hs, fun {own C A τ s Q} a q => by
  rw [h.it] at q
  refine h.pk a ((aC.mp q).mono fun p q x s₁ rl r k => ?_)
  obtain ⟨d, b⟩ := p
  have a1 := a.gr k
  cases b with
  | false =>
    have r := r rfl
    refine Ok.out (X := ba d) q fun items e q => ?_
    have q2 := jh.gr q k
    cases d with
    | list xs => obtain rfl := Option.some.inj e; exact wpAny_mono (m9 a1.room.hd r d9 a1.nt) (fun v s₂ z => q2 v s₂ z.1 z.2) fun Z Z x => x
    | tuple xs => obtain rfl := Option.some.inj e; exact wpAny_mono (mA a1.room.hd r d9 a1.nt) (fun v s₂ z => q2 v s₂ z.1 z.2) fun Z Z x => x
    | _ => exact nS e
  | true =>
    cases own with
    | false => exact False.elim q
    | true =>
      refine Ok.out (X := ba d) q fun items e q => ?_
      have q2 := jh.gr q k
      cases d with
      | list xs => obtain rfl := Option.some.inj e; exact wpAny_mono (uY a1.room.hd rl) (fun v s₂ z => q2 v s₂ z.1 z.2) fun Z Z x => x
      | tuple xs => obtain rfl := Option.some.inj e; exact wpAny_mono (sF a1.room.hd rl) (fun v s₂ z => q2 v s₂ z.1 z.2) fun Z Z x => x
      | _ => exact nS e⟩
theorem mC (W : Lw K) {t : Expr} {x : Str} {es : List Expr} {is : List IE} {p1 p : Pos} (hx : f.glob x = true) (hn : x = "range") (l : LP K f es is) : IP K f t (.Call (.Name x p1) es [] p) (.range is) := ⟨rfl, fun {own C A τ s Q} a q => by
  subst hn
  refine wpAny_Call_NameR (bx W a hx (W.W.free "range" (by decide)) (by decide) (v := .type "range") (by rfl) ?_)
  refine bM (P := fun Z => True) l.ns (cI (by intro a h; cases h)) (l.es a ((aC.mp q).mono fun ds q vs s₁ r Z k => ⟨trivial, ?_⟩) p)
  refine Ok.out q fun items e q => ?_
  exact wpAny_mono (qU (t := t) (M := ip own C τ) (F := C.F τ) a.room.hd e r d9 (a.gr k).nt) (fun y s₂ z => wpAny_mono z (fun v s₃ z => jh.gr q k v s₃ z.1 z.2) fun Z Z x => x) fun Z Z x => x⟩
theorem ym (W : Lw K) {elts : List Expr} {kk : Nat} {pt : Pos} {x : Str} {e : Expr} {i : IE} {p1 p : Pos} (hx : f.glob x = true) (hn : x = "enumerate") (l : LP K f [e] [i]) : IP K f (.Tuple elts kk pt) (.Call (.Name x p1) [e] [] p) (.enum i) := ⟨rfl, fun {own C A τ s Q} a q => by
  subst hn
  refine wpAny_Call_NameR (bx W a hx (W.W.free "enumerate" (by decide)) (by decide) (v := .type "enumerate") (by rfl) ?_)
  refine bM (P := fun Z => True) l.ns (cI (by intro a h; cases h)) ?_
  cases l with
  | cons hs he l =>
    refine wpAny_items_cons (he.ev a ((aC.mp q).mono fun d q v s₁ r k => wpAny_items_nil ⟨trivial, ?_⟩)) (de hs)
    cases d with
    | list xs =>
      exact wpAny_mono (uZ (elts := elts) (x1 := kk) (pos := pt) (M := ip own C τ) (F := C.F τ) a.room.hd r d9 (a.gr k).nt) (fun y s₂ z => wpAny_mono z (fun v s₃ z => jh.gr q k v s₃ z.1 z.2) fun Z Z x => x) fun Z Z x => x
    | _ => exact False.elim q⟩
theorem yl (W : Lw K) {t : Expr} {x : Str} {e : Expr} {i : IE} {p1 p : Pos} (hx : f.glob x = true) (hn : x = "reversed") (l : LP K f [e] [i]) : IP K f t (.Call (.Name x p1) [e] [] p) (.revd i) := ⟨rfl, fun {own C A τ s Q} a q => by
  subst hn
  refine wpAny_Call_NameR (bx W a hx (W.W.free "reversed" (by decide)) (by decide) (v := .type "reversed") (by rfl) ?_)
  refine bM (P := fun Z => True) l.ns (cI (by intro a h; cases h)) ?_
  cases l with
  | cons hs he l =>
    refine wpAny_items_cons (he.ev a ((aC.mp q).mono fun d q v s₁ r k => wpAny_items_nil ⟨trivial, ?_⟩)) (de hs)
    cases d with
    | tuple xs =>
      exact wpAny_mono (wU (t := t) (M := ip own C τ) (F := C.F τ) a.room.hd r d9 (a.gr k).nt) (fun y s₂ z => wpAny_mono z (fun v s₃ z => jh.gr q k v s₃ z.1 z.2) fun Z Z x => x) fun Z Z x => x
    | _ => exact False.elim q⟩

theorem cp_nil : CP K f [] (.k (.bool true)) := fun a h => wpAny_tests_nil (h _ (.refl _))
theorem cp_one {e : Expr} {i : IE} (h : EP K f e i) : CP K f [e] i := fun a q => wpAny_tests_one (h.ts a q)
structure CompP (K : Cfg) (f : FX) (elt t iter : Expr) (ifs : List Expr) (scope : Scope) (i : IE) : Prop where
  ns : e7 iter = true
  kd : scope.kind = .function
  nm : ∀ x ∈ scope.names, x.2 = .local → scope.names.lookup x.1 = some .local
  run : ∀ {C : Cx} {A : Around} {τ : aQ} {s : Shared} {pos : Pos} {RR : Value → Addr → Result → Shared → Prop}, At K f C A τ s →
    Ok (evI K.g (aV f.ns τ) i) (fun d => ∀ (L : Addr) (s' : Shared) (D : Addr), Gr s s' → s.heap.get? L = none → (∃ m, s'.heap.Ns L m) → Rd 66 s'.heap (fun b => C.F τ b ∨ b = L) d (.ref D) → RR (.ref D) L (.ok .next) s') →
    closureFor scope C.env = pure (iD C.env.cells scope.names []) ∧
    wpAny K.M A (eval iter C.env) (fun x s₁ => wpAny K.M A (pyIter x) (fun it s₂ => wpAny K.M A (newList []) (fun acc s₃ =>
      wpAny K.M A (newFunctionEnv scope C.env.globals (iD C.env.cells scope.names []) [] C.env.qual none .none (some C.env)) (fun cenv s₄ =>
        codeAny K.M A (.compStart (.ListComp elt [⟨t, iter, ifs, 0⟩] scope pos) 0 it acc { cenv with scope := relabel scope C.env }) (RR acc cenv.locals) s₄) Bad s₃) Bad s₂) Bad s₁) Bad s
theorem compP {elt t iter : Expr} {ifs : List Expr} {scope : Scope} {ts : List Nat} {tt : Bool} {it ci ei : IE} (hs : (gk f.sc scope && pF f scope.names) = true) (hi : IP K f t iter it) (ht : TgP ⟨scope.names, bL scope⟩ t ts tt) (hc : CP K ⟨scope.names, bL scope⟩ ifs ci) (he : EP K ⟨scope.names, bL scope⟩ elt ei) :
    CompP K f elt t iter ifs scope (.comp (cE f (bL scope) scope.names) ts tt it ci ei) := by
  rw [Bool.and_eq_true] at hs
  refine lr (fN hs.1) fun k1 k2 k3 => ?_
  refine ⟨hi.ns, k1, fun x m e => ?_, fun {C A τ s pos RR} a q => ⟨iU fun x m e => ?_, hi.it (own := true) a ((aC.mp q).mono fun items q v s₂ r k => ?_)⟩⟩
  · obtain ⟨x, kd⟩ := x
    cases (show kd = .local from e)
    exact cj k2 m
  · obtain ⟨x, kd⟩ := x
    cases (show kd = .free from e)
    exact ((k3 x m).elim (fun z => a.ok.cell x (a.sc ▸ z)) fun z => a.ok.free x (a.sc ▸ z)).2
  · refine v9 r fun I Wf St e3_ itr hW hz st => ?_; obtain rfl := e3_
    exact uq (f' := ⟨scope.names, bL scope⟩) rfl (tx hs.2) ht a (a.sc ▸ hs.1) k itr hW hz st (aq.mp q) hc he.ev fun rs D L s' q g n ns r Z => q L s' D g n ns r
theorem zJ {elt t iter : Expr} {ifs : List Expr} {scope : Scope} {pos : Pos} {i : IE} (hp : ∀ ρ w, bW ρ w i = w.map (·, false)) (ht : ∀ g ρ w, evT g ρ w i = (bW ρ w i).bind fun x => c7 x.1) (hi : ∀ g ρ own w, evIter g ρ own w i = (bW ρ w i).bind fun a => bif a.2 && !own then none else ba a.1)
    (h : CompP K f elt t iter ifs scope i) : EP K f (.ListComp elt [⟨t, iter, ifs, 0⟩] scope pos) i := .of hp ht hi rfl fun {C A τ s Q} a q => by
  obtain ⟨h2, h5⟩ := h.run (pos := pos) (RR := compPost K.M A Bad none Q) a (q.mono fun d q L s' D k n1 ns r => by
    obtain ⟨m, ns⟩ := ns
    refine ⟨m, ns, fun h' hs' => ?_⟩
    have ag : aU (fun b => C.F τ b ∨ b = L) s'.heap h' := fun b o nb e => by rw [hs'.2 b fun q => nb (.inr q)]; exact e
    refine q _ _ (Rd.step ag (bu.sub fun b q => .inl q) _ _ r) ⟨fun b o e => ?_, k.gens, k.os⟩
    show h'.get? b = some o
    rw [hs'.2 b fun q => by rw [q, n1] at e; cases e]
    exact k.grow b o e)
  rw [eval_ListComp]
  exact wpAny_comprehension_free (use := none) rfl (fun x => fZ h.ns x) h2 h.kd h.nm h5

noncomputable def xh (e : Expr) : Prop := ∃ x p, e = .Starred x p
noncomputable def IsNm (e : Expr) : Prop := ∃ x p, e = .Name x p
noncomputable def IsNC (e : Expr) : Prop := ∃ x p1 as p, e = .Call (.Name x p1) as [] p
theorem td (e : Expr) (es : List Expr) : xh e ∨ trEs txP f (e :: es) = (trE txP f e).bind fun a => (trEs txP f es).map (a :: ·) := by
  cases e with
  | Starred x p => exact .inl (ei2 rfl)
  | _ => exact .inr rfl
theorem jn {e : Expr} {es : List Expr} {i : IE} (h : trE txP f e = some i) : trEs txP f (e :: es) = (trEs txP f es).map (i :: ·) := by
  rcases td e es with ⟨x, p, rfl⟩ | q
  · exact nS h
  · rw [q, h]; rfl
theorem vM {e : Expr} {i : IE} (h : trE txP f e = some i) : trEs txP f [e] = some [i] := jn h
theorem o6 {e : Expr} (h : Al (trEs txP f [e]) (LP K f [e])) : Al (trE txP f e) fun i => LP K f [e] [i] := Al.of fun i z => h.get (vM z)
theorem yX (w : Option IE) (e : Expr) : IsNC e ∨ trI txP f w e = ak (e7 e) w := by
  cases e with
  | Call g as kw p => cases g with
    | Name x p1 => cases kw with
      | nil => exact .inl (ei4 rfl)
      | cons _ _ => exact .inr rfl
    | _ => exact .inr rfl
  | _ => exact .inr rfl
noncomputable def CallA (K : Cfg) (f : FX) (e : Expr) : Prop := ∀ x p1 as p, e = .Call (.Name x p1) as [] p → Al (trEs txP f as) (LP K f as)
theorem vL (W : Lw K) {t : Expr} {ts : List Nat} {tt : Bool} {e : Expr} (ht : TgP f' t ts tt) (h : Al (trE txP f e) (EP K f e)) (h2 : CallA K f e) : Al (trI txP f (trE txP f e) e) fun i => lB i tt = true → IP K f t e i := by
  rcases yX (trE txP f e) e with ⟨x, p1, as, p, rfl⟩ | q
  · have l := h2 x p1 as p rfl
    cases as with
    | nil =>
      refine Al.guard fun hx => ?_
      cases q1 : x == ("range" : Str) with
      | true => exact Al.map (l.mono fun is l Z => mC W hx (beq_iff_eq.mp q1) l)
      | false => cases q2 : x == ("enumerate" : Str) with
        | true => exact trivial
        | false => cases q3 : x == ("reversed" : Str) with
          | true => exact trivial
          | false => exact h.mono fun i h Z => jL rfl h
    | cons a r => cases r with
      | cons _ _ =>
        refine Al.guard fun hx => ?_
        cases q1 : x == ("range" : Str) with
        | true => exact Al.map (l.mono fun is l Z => mC W hx (beq_iff_eq.mp q1) l)
        | false => cases q2 : x == ("enumerate" : Str) with
          | true => exact trivial
          | false => cases q3 : x == ("reversed" : Str) with
            | true => exact trivial
            | false => exact h.mono fun i h Z => jL rfl h
      | nil =>
        refine Al.guard fun hx => ?_
        cases q1 : x == ("range" : Str) with
        | true => exact Al.map (l.mono fun is l Z => mC W hx (beq_iff_eq.mp q1) l)
        | false => cases q2 : x == ("enumerate" : Str) with
          | true => 
            refine Al.map ((o6 l).mono fun i l ok => ?_)
            cases ht with
            | one _ => exact fT ok
            | many _ => exact ym W hx (beq_iff_eq.mp q2) l
          | false => cases q3 : x == ("reversed" : Str) with
            | true => exact Al.map ((o6 l).mono fun i l Z => yl W hx (beq_iff_eq.mp q3) l)
            | false => exact h.mono fun i h Z => jL rfl h
  · exact Al.eq q (Al.guard fun hs => h.mono fun i h Z => jL hs h)
end
end Mine
namespace Mine
open PySem PySem.Calls PyProof.Rows
section
variable {K : Cfg} {f : FX}
structure Side (K : Cfg) (f : FX) (e : Expr) : Prop where
  call : CallA K f e
  list : ∀ es p, e = .List es p → Al (trEs txP f es) (LP K f es)
  slice : ∀ lo hi st p, e = .Slice lo hi st p → Al (trO txP f lo) (sj K f lo) ∧ Al (trO txP f hi) (sj K f hi)
  attr : ∀ o x p, e = .Attribute o x p → Al (trE txP f o) (EP K f o)
  comp : ∀ elt gs scope p i, e = .ListComp elt gs scope p → trE txP f e = some i → ∃ t it ifs, gs = [⟨t, it, ifs, 0⟩] ∧ CompP K f elt t it ifs scope i
noncomputable def TP (K : Cfg) (f : FX) (e : Expr) : Prop := Al (trE txP f e) (EP K f e) ∧ Side K f e
noncomputable def GP (K : Cfg) (gs : List Comprehension) : Prop := ∀ t it ifs n r, gs = ⟨t, it, ifs, n⟩ :: r → (∀ f, TP K f it) ∧ ∀ f, Al (trC txP f ifs) (CP K f ifs)
noncomputable def uE : Expr → Bool
  | .Call _ _ _ _ => false
  | .List _ _ => false
  | .Slice _ _ _ _ => false
  | .Attribute _ _ _ => false
  | .ListComp _ _ _ _ => false
  | _ => true
theorem Side.no {e : Expr} (h : uE e = true) : Side K f e := ⟨fun Z Z Z Z q => (by rw [q] at h; exact fT h), fun Z Z q => (by rw [q] at h; exact fT h), fun Z Z Z Z q => (by rw [q] at h; exact fT h), fun Z Z Z q => (by rw [q] at h; exact fT h), fun Z Z Z Z Z q => (by rw [q] at h; exact fT h)⟩
theorem LP.two {e d : Expr} {i j : IE} (h : LP K f [e, d] [i, j]) : EP K f e i ∧ EP K f d j := by
  cases h with
  | cons _ a l => cases l with
    | cons _ b _ => exact ⟨a, b⟩
theorem LP.one {e : Expr} {i : IE} (h : LP K f [e] [i]) : EP K f e i := by
  cases h with
  | cons _ a _ => exact a
theorem two_of {e d : Expr} (h : Al (trEs txP f [e, d]) (LP K f [e, d])) : Al (trE txP f e) fun i => Al (trE txP f d) fun j => EP K f e i ∧ EP K f d j :=
  Al.of fun i z => Al.of fun j z2 => (h.get (a := [i, j]) (by rw [jn z, jn z2]; rfl)).two

theorem xt (W : Lw K) {x : Str} {p : Pos} : TP K f (.Name x p) := ⟨by
  show Al (match f.at x with | some i => some (IE.v i) | none => ak (f.glob x) ((txP.consts.lookup x).map IE.k)) _
  cases h : f.at x with
  | some i => exact ep_v h
  | none => exact Al.guard fun hg => Al.map (Al.of fun d hd => zI W hg hd), .no rfl⟩
theorem vK {c : Const} {k : Nat} {p : Pos} : TP K f (.Constant c k p) := ⟨by
  cases c with
  | int i => exact ep_int
  | bool b => exact zG
  | _ => exact trivial, .no rfl⟩
noncomputable def IsMulL (op : Operator) (l : Expr) : Prop := op = .Mult ∧ ∃ x q, l = .List [x] q
theorem xW (op : Operator) (l r : Expr) (p : Pos) : IsMulL op l ∨ trE txP f (.BinOp l op r p) = (trE txP f l).bind fun a => (trE txP f r).map fun b => IE.bin op a b := by
  cases op with
  | Mult => cases l with
    | List es q => cases es with
      | nil => exact .inr rfl
      | cons x r' => cases r' with
        | nil => exact .inl ⟨rfl, _, _, rfl⟩
        | cons _ _ => exact .inr (by cases x <;> rfl)
    | _ => exact .inr rfl
  | _ => exact .inr rfl
theorem vp (x r : Expr) (q p : Pos) : xh x ∨ trE txP f (.BinOp (.List [x] q) .Mult r p) = (trE txP f x).bind fun a => (trE txP f r).map fun b => IE.rep a b := by
  cases x with
  | Starred x p => exact .inl (ei2 rfl)
  | _ => exact .inr rfl
theorem tr_bin (W : Lw K) {l r : Expr} {op : Operator} {p : Pos} (hl : TP K f l) (hr : TP K f r) : TP K f (.BinOp l op r p) := ⟨by
  rcases xW op l r p with ⟨rfl, x, q, rfl⟩ | e
  · rcases vp x r q p with ⟨y, q2, rfl⟩ | e
    · exact trivial
    · exact Al.eq e (Al.bind ((o6 (hl.2.list _ _ rfl)).mono fun i a => Al.map (hr.1.mono fun j b => ep_rep (a.ns x (.head _)) a.one b)))
  · exact Al.eq e (Al.bind (hl.1.mono fun i a => Al.map (hr.1.mono fun j b => ep_bin W a b))), .no rfl⟩
theorem tr_un {op : UnaryOp} {x : Expr} {p : Pos} (hx : TP K f x) : TP K f (.UnaryOp op x p) := ⟨by
  cases op with
  | Not => exact Al.map (hx.1.mono fun i a => ep_no a)
  | USub => exact Al.map (hx.1.mono fun i a => ep_neg a)
  | _ => exact trivial, .no rfl⟩
theorem xy {op : BoolOp} {es : List Expr} {p : Pos} (h : Al (trEs txP f es) (LP K f es)) : TP K f (.BoolOp op es p) := ⟨by
  cases op with
  | And => exact Al.map (h.mono fun is l => ep_and l)
  | Or => exact Al.map (h.mono fun is l => ep_or l), .no rfl⟩
theorem tr_cmp {l : Expr} {ops : List CmpOp} {rs : List Expr} {p : Pos} (hl : TP K f l) (h : Al (trEs txP f rs) (LP K f rs)) : TP K f (.Compare l ops rs p) := ⟨by
  cases ops with
  | nil => exact trivial
  | cons op ops => cases ops with
    | nil => cases rs with
      | nil => exact trivial
      | cons r rs => cases rs with
        | nil => exact Al.guard fun hs => Al.bind (hl.1.mono fun i a => Al.map ((o6 h).mono fun j b => ep_cmp hs a b.one))
        | cons _ _ => exact trivial
    | cons op' ops => cases ops with
      | nil => cases rs with
        | nil => exact trivial
        | cons m rs => cases rs with
          | nil => exact trivial
          | cons r rs => cases rs with
            | nil => exact Al.guard fun hs => Al.bind (hl.1.mono fun i a => Al.bind ((two_of h).mono fun j b => Al.map (b.mono fun o b => zK (Bool.and_eq_true_iff.mp hs) a b.1 b.2)))
            | cons _ _ => exact trivial
      | cons _ _ => cases rs with
        | nil => exact trivial
        | cons m rs => cases rs with
          | nil => exact trivial
          | cons r rs => cases rs <;> exact trivial, .no rfl⟩
theorem tr_if {t b o : Expr} {p : Pos} (ht : TP K f t) (hb : TP K f b) (ho : TP K f o) : TP K f (.IfExp t b o p) :=
  ⟨Al.bind (ht.1.mono fun i a => Al.bind (hb.1.mono fun j b => Al.map (ho.1.mono fun k c => ep_ite a b c))), .no rfl⟩
theorem tr_tup {es : List Expr} {k : Nat} {p : Pos} (h : Al (trEs txP f es) (LP K f es)) : TP K f (.Tuple es k p) :=
  ⟨Al.guard fun hz => Al.map (h.mono fun is l => ep_tup (Nat.le_of_ble_eq_true hz) l), .no rfl⟩
theorem xu {es : List Expr} {p : Pos} (h : Al (trEs txP f es) (LP K f es)) : TP K f (.List es p) :=
  ⟨Al.guard fun hz => Al.map (h.mono fun is l => ep_lst (Nat.le_of_ble_eq_true hz) l), ⟨fun Z Z Z Z q => (nomatch q), fun es' q e => (by cases e; exact h), fun Z Z Z Z q => (nomatch q), fun Z Z Z q => (nomatch q), fun Z Z Z Z Z q => (nomatch q)⟩⟩
theorem sG {e : Expr} (h : isInt e = true) : ∃ k p, e = .Constant (.int 1) k p := by
  cases e with
  | Constant c k p => cases c with
    | int i => exact ⟨_, _, by rw [beq_iff_eq.mp (show (i == 1) = true from h)]⟩
    | _ => exact fT h
  | _ => exact fT h
noncomputable def IsStr (e : Expr) : Prop := ∃ k u q, e = .Constant (.str k) u q
noncomputable def IsSl (e : Expr) : Prop := ∃ lo hi st q, e = .Slice lo hi st q
noncomputable def IsNeg (e : Expr) : Prop := ∃ x q, e = .UnaryOp .USub x q
theorem vV (b sl : Expr) (p : Pos) : IsStr sl ∨ IsSl sl ∨ trE txP f (.Subscript b sl p) = (trE txP f b).bind fun a => (trE txP f sl).map fun i => IE.idx a i := by
  cases sl with
  | Constant c u q => cases c with
    | str k => exact .inl (ei3 rfl)
    | _ => exact .inr (.inr rfl)
  | Slice lo hi st q => exact .inr (.inl (ei4 rfl))
  | _ => exact .inr (.inr rfl)
theorem xA (b : Expr) (k : Str) (u : Nat) (q p : Pos) : IsNm b ∨ trE txP f (.Subscript b (.Constant (.str k) u q) p) = none := by
  cases b with
  | Name x p => exact .inl (ei2 rfl)
  | _ => exact .inr rfl
theorem t9 (b e : Expr) (lo hi : Option Expr) (q p : Pos) : IsNeg e ∨ trE txP f (.Subscript b (.Slice lo hi (some e) q) p) = none := by
  cases e with
  | UnaryOp op x q => cases op with
    | USub => exact .inl (ei2 rfl)
    | _ => exact .inr rfl
  | _ => exact .inr rfl
theorem Al.none {α : Type} {X : Option α} {P : α → Prop} (e : X = Option.none) : Al X P := by rw [e]; trivial
theorem tr_sub {b sl : Expr} {p : Pos} (hb : TP K f b) (hs : TP K f sl) : TP K f (.Subscript b sl p) := ⟨by
  by_cases h : IsSl sl
  · obtain ⟨lo, hi, st, q, rfl⟩ := h
    obtain ⟨h1, h2⟩ := hs.2.slice _ _ _ _ rfl
    cases st with
    | none => exact Al.bind (hb.1.mono fun i a => Al.bind (h1.mono fun j c => Al.map (h2.mono fun k d => ep_cut a c d)))
    | some e =>
      rcases t9 b e lo hi q p with ⟨x, q2, rfl⟩ | z
      · cases lo with
        | none => cases hi with
          | none => exact Al.guard fun hi => Al.map (hb.1.mono fun i a => by
              obtain ⟨k, p', rfl⟩ := sG hi
              exact ep_rev rfl a)
          | some _ => exact trivial
        | some _ => cases hi <;> exact trivial
      · exact Al.none z
  · rcases vV b sl p with ⟨k, u, q, rfl⟩ | z | z
    · rcases xA b k u q p with ⟨x, q2, rfl⟩ | z
      · exact Al.bind (Al.of fun w hw => Al.map (Al.of fun j hj => ep_ent hw hj))
      · exact Al.none z
    · exact absurd z h
    · exact Al.eq z (Al.bind (hb.1.mono fun i a => Al.map (hs.1.mono fun j c => ep_idx (fun lo hi st p e => h ⟨lo, hi, st, p, e⟩) a c))), .no rfl⟩
theorem xz (W : Lw K) {o : Expr} {x : Str} {p : Pos} (ho : TP K f o) : TP K f (.Attribute o x p) :=
  ⟨Al.guard fun hq => Al.map (ho.1.mono fun i a => zM W (Bool.and_eq_true_iff.mp hq).1 (beq_iff_eq.mp (Bool.and_eq_true_iff.mp hq).2) a), ⟨fun Z Z Z Z q => (nomatch q), fun Z Z q => (nomatch q), fun Z Z Z Z q => (nomatch q), fun o' x' p' e => (by cases e; exact ho.1), fun Z Z Z Z Z q => (nomatch q)⟩⟩
theorem xw (W : Lw K) {g : Expr} {as : List Expr} {kw : List Keyword} {p : Pos} (hg : TP K f g) (h : Al (trEs txP f as) (LP K f as)) : TP K f (.Call g as kw p) := ⟨by
  cases kw with
  | cons _ _ => exact trivial
  | nil => cases g with
    | Name x q =>
      refine Al.guard fun hx => ?_
      cases hb : mW.lookup x with
      | some b => exact Al.map (h.mono fun is l => ep_bi W hx hb l)
      | none => exact Al.bind (Al.of fun j hj => Al.map (h.mono fun is l => zL W hx hj l))
    | Attribute o m q =>
      have ho := hg.2.attr _ _ _ rfl
      refine Al.guard fun hq => Al.bind (Al.of fun j hj => Al.bind (ho.mono fun i a => Al.map (h.mono fun is l => ?_)))
      rw [Bool.and_eq_true, Bool.and_eq_true] at hq
      exact zH W hq.1.1 hq.1.2 (Nat.blt_eq.mp hq.2) hj a l
    | _ => exact trivial, ⟨fun x p1 as' p' e => (by cases e; exact h), fun Z Z q => (nomatch q), fun Z Z Z Z q => (nomatch q), fun Z Z Z q => (nomatch q), fun Z Z Z Z Z q => (nomatch q)⟩⟩
theorem oL (W : Lw K) {elt : Expr} {gs : List Comprehension} {scope : Scope} {p : Pos} (he : ∀ f, TP K f elt) (hg : GP K gs) {i : IE} (hi : trE txP f (.ListComp elt gs scope p) = some i) : ∃ t it ifs, gs = [⟨t, it, ifs, 0⟩] ∧ CompP K f elt t it ifs scope i ∧ EP K f (.ListComp elt gs scope p) i := by
  cases gs with
  | nil => exact nS hi
  | cons g r =>
    obtain ⟨t, it, ifs, n⟩ := g
    obtain ⟨h1, h2⟩ := hg _ _ _ _ _ rfl
    cases n with
    | negSucc _ => cases r <;> exact nS hi
    | ofNat n => cases n with
      | succ _ => cases r <;> exact nS hi
      | zero => cases r with
        | cons _ _ => exact nS hi
        | nil =>
          obtain ⟨hs, hi⟩ := fX hi
          refine aA (Option.bind_eq_some_iff.mp hi) fun it' e1 hi => ?_
          refine aA (Option.bind_eq_some_iff.mp hi) fun ts e2 hi => ?_
          obtain ⟨ok, hi⟩ := fX hi
          refine aA (Option.bind_eq_some_iff.mp hi) fun c e3 hi => ?_
          refine aA (Option.map_eq_some_iff.mp hi) fun e e4 e2_ => ?_; obtain rfl := e2_
          have ht := (nN t).get e2
          have cp := compP hs ((vL W ht (h1 f).1 (h1 f).2.call).get e1 ok) ht ((h2 _).get e3) ((he _).1.get e4)
          exact ⟨t, it, ifs, rfl, cp, zJ (fun Z Z => rfl) (fun Z Z Z => rfl) (fun Z Z Z Z => rfl) cp⟩
theorem xv (W : Lw K) {elt : Expr} {gs : List Comprehension} {scope : Scope} {p : Pos} (he : ∀ f, TP K f elt) (hg : GP K gs) : TP K f (.ListComp elt gs scope p) :=
  ⟨Al.of fun i hi => let ⟨_, _, _, _, _, h⟩ := oL W he hg hi; h, ⟨fun Z Z Z Z q => (nomatch q), fun Z Z q => (nomatch q), fun Z Z Z Z q => (nomatch q), fun Z Z Z q => (nomatch q), fun elt' gs' scope' p' i e hi => by
    cases e
    refine wA (oL W he hg hi) fun t it ifs h1 h2 Z => ?_
    exact ⟨t, it, ifs, h1, h2⟩⟩⟩

mutual
theorem ae (W : Lw K) : ∀ (e : Expr) (f : FX), TP K f e
  | .Constant _ _ _, _ => vK
  | .Name _ _, _ => xt W
  | .BinOp l _ r _, f => tr_bin W (ae W l f) (ae W r f)
  | .UnaryOp _ x _, f => tr_un (ae W x f)
  | .BoolOp _ es _, f => xy (trEs_ok W es f)
  | .Compare l _ rs _, f => tr_cmp (ae W l f) (trEs_ok W rs f)
  | .IfExp t b o _, f => tr_if (ae W t f) (ae W b f) (ae W o f)
  | .Tuple es _ _, f => tr_tup (trEs_ok W es f)
  | .List es _, f => xu (trEs_ok W es f)
  | .Subscript b sl _, f => tr_sub (ae W b f) (ae W sl f)
  | .Attribute o _ _, f => xz W (ae W o f)
  | .Call g as _ _, f => xw W (ae W g f) (trEs_ok W as f)
  | .ListComp elt gs _ _, f => xv W (fun f => ae W elt f) (trG_ok W gs)
  | .Slice lo hi st p, f => ⟨trivial, ⟨fun Z Z Z Z q => (nomatch q), fun Z Z q => (nomatch q), fun lo' hi' st' p' e =>
      have h1 := trO_ok W lo f
      have h2 := trO_ok W hi f
      (by cases e; exact ⟨h1, h2⟩), fun Z Z Z q => (nomatch q), fun Z Z Z Z Z q => (nomatch q)⟩⟩
  | .NamedExpr _ _ _, _ => ⟨trivial, .no rfl⟩
  | .Lambda _ _ _ _, _ => ⟨trivial, .no rfl⟩
  | .Dict _ _ _, _ => ⟨trivial, .no rfl⟩
  | .Set _ _ _, _ => ⟨trivial, .no rfl⟩
  | .SetComp _ _ _ _, _ => ⟨trivial, .no rfl⟩
  | .DictComp _ _ _ _ _, _ => ⟨trivial, .no rfl⟩
  | .GeneratorExp _ _ _ _, _ => ⟨trivial, .no rfl⟩
  | .Await _ _, _ => ⟨trivial, .no rfl⟩
  | .Yield _ _, _ => ⟨trivial, .no rfl⟩
  | .YieldFrom _ _, _ => ⟨trivial, .no rfl⟩
  | .FormattedValue _ _ _ _, _ => ⟨trivial, .no rfl⟩
  | .JoinedStr _ _, _ => ⟨trivial, .no rfl⟩
  | .Starred _ _, _ => ⟨trivial, .no rfl⟩
theorem trEs_ok (W : Lw K) : ∀ (es : List Expr) (f : FX), Al (trEs txP f es) (LP K f es)
  | [], _ => .nil
  | e :: es, f => Al.of fun is h => by
    have h1 := ae W e f
    have h2 := trEs_ok W es f
    rcases td e es with ⟨x, p, rfl⟩ | q
    · exact nS h
    · refine aA (Option.bind_eq_some_iff.mp (q.symm.trans h)) fun i hi h => aA (Option.map_eq_some_iff.mp h) fun r e2 e3 => ?_
      obtain rfl := e3
      exact .cons (by rintro x p rfl; exact nS hi) (h1.1.get hi) (h2.get e2)
theorem trO_ok (W : Lw K) : ∀ (o : Option Expr) (f : FX), Al (trO txP f o) (sj K f o)
  | none, _ => yT
  | some e, f => (ae W e f).1.mono fun i a => yS a
theorem trC_ok (W : Lw K) : ∀ (cs : List Expr) (f : FX), Al (trC txP f cs) (CP K f cs)
  | [], _ => cp_nil
  | [c], f => (ae W c f).1.mono fun i a => cp_one a
  | _ :: _ :: _, _ => trivial
theorem trG_ok (W : Lw K) : ∀ gs : List Comprehension, GP K gs
  | [] => fun Z Z Z Z Z q => nomatch q
  | ⟨t, it, ifs, n⟩ :: r => fun t' it' ifs' n' r' q =>
    have h1 := fun f => ae W it f
    have h2 := fun f => trC_ok W ifs f
    by cases q; exact ⟨h1, h2⟩
end
theorem tri_ok (W : Lw K) {t : Expr} {ts : List Nat} {tt : Bool} (ht : TgP f t ts tt) (e : Expr) : Al (trI txP f (trE txP f e) e) fun i => lB i tt = true → IP K f t e i :=
  vL W ht (ae W e f).1 (ae W e f).2.call
end
end Mine
namespace Mine
open PySem PySem.Calls PyProof.Rows
section
variable {K : Cfg} {f : FX} {C : Cx} {A : Around} {τ : aQ} {s s' : Shared} {E : Value → Shared → Prop}

theorem Rel.turnCall {x : Str} {av av' : AV} (nf : ∀ y, C.sc.lookup y ≠ some .free) (R : Rel pwP K.w 66 C τ s) (e : τ.lookup x = some av) (ag : aU (fun b => av.has b) s.heap s'.heap) (hg : s'.gens = s.gens) (hos : s'.os = s.os)
    (hn : ∀ b, av'.has b → av.has b ∨ s.heap.get? b = none) (had : av'.ad = av.ad) (hok : av'.Ok) (hav : ∀ v, RdV pwP K.w 66 s.heap (C.F τ) v av → RdV pwP K.w 66 s'.heap (C.F (aS x av' τ)) v av') :
    Rel pwP K.w 66 C (aS x av' τ) s' ∧ Step C τ s.heap (aS x av' τ) s'.heap := by
  have hasM : ∀ b, av.has b → C.M τ b := fun b q => .inr ⟨x, av, e, q⟩
  have hasF : ∀ b, av.has b → C.F τ b := fun b q => .inr (hasM b q)
  have agM : aU (C.M τ) s.heap s'.heap := ag.more hasM
  have agF : aU (C.F τ) s.heap s'.heap := ag.more hasF
  have hV : ∀ b, bT (aS x av' τ) b → bT τ b ∨ s.heap.get? b = none := fun b q => (cB q).elim (fun z => (hn b z).imp (fun y => ⟨x, av, e, y⟩) id) fun ⟨y, a', _, e', h'⟩ => .inl ⟨y, a', e', h'⟩
  have tM : bu (C.M τ) s.heap (C.M (aS x av' τ)) := fun b q => q.elim (fun z => .inl (.inl z)) fun z => (hV b z).imp .inr id
  have tF : bu (C.F τ) s.heap (C.F (aS x av' τ)) := fun b q => q.elim (fun z => .inl (.inl z)) fun z => (tM b z).imp .inr id
  refine aA R.ns fun m hns hv => ?_
  have npL : ¬ av.has C.env.locals := fun q => R.off _ (.inl rfl) ⟨x, av, e, q⟩
  have npc : ∀ y c, C.env.cells.lookup y = some c → C.sc.lookup y = some .cell ∨ C.sc.lookup y = some .free → ¬ av.has c := fun y c ec hk q => by
    rcases hk with hk | hk
    · exact R.off c (.inr ⟨y, hk, ec⟩) ⟨x, av, e, q⟩
    · exact nf y hk
  have other : ∀ y a' b, y ≠ x → τ.lookup y = some a' → a'.has b → ¬ av.has b := fun y a' b hy e' h1 h2 => hy (R.apart y x a' av b e' e h1 h2)
  refine aA (hv x av e) fun vx hx1 hx2 => ?_
  have hx3 := hav vx hx2
  refine ⟨⟨fun b o eo => ag b o (fun q => ?_) (R.world b o eo), fun b o nb eo => ag b o (fun q => ?_) (R.base b o nb eo), hg.trans R.gens, hos.trans R.os, ⟨m, hns.at' fun o eo => ag _ o npL eo, fun y a' e' => ?_⟩, fun y c e1 e2 => ?_, ?_, ?_, ?_, ?_, ?_, ?_⟩, agM, tM, gj.same e had⟩
  · rw [(R.new b (hasM b q)).1] at eo; exact nS eo
  · rcases (R.new b (hasM b q)).2 with h | h
    · exact nb h
    · rw [h] at eo; exact nS eo
  · rw [aG] at e'
    by_cases hy : y = x
    · rw [if_pos hy] at e'; obtain rfl := Option.some.inj e'; subst hy
      exact ⟨vx, hx1.keep rfl fun c ec hk o eo => ag c o (npc y c ec hk) eo, hx3⟩
    · rw [if_neg hy] at e'
      refine aA (hv y a' e') fun v h1 h2 => ?_
      exact ⟨v, h1.keep rfl fun c ec hk o eo => ag c o (npc y c ec hk) eo, h2.step agF tF fun b q o eo => ag b o (other y a' b hy e' q) eo⟩
  · refine bY (R.cells y c e1 e2) fun u o ho hd => ?_
    exact ⟨u, o, ag c o (npc y c e2 (.inl e1)) ho, hd⟩
  · intro y z a1 a2 b e1 e2 h1 h2
    rw [aG] at e1 e2
    have key : ∀ y' a'', y' ≠ x → τ.lookup y' = some a'' → a''.has b → av'.has b → False := fun y' a'' hy' e'' h3 h4 => (hn b h4).elim (fun q => other y' a'' b hy' e'' h3 q) fun q => (R.fresh q).1 (.inr (.inr ⟨y', a'', e'', h3⟩))
    by_cases hy : y = x
    · by_cases hz : z = x
      · exact hy.trans hz.symm
      · rw [if_pos hy] at e1; rw [if_neg hz] at e2; obtain rfl := Option.some.inj e1
        exact (key z a2 hz e2 h2 h1).elim
    · rw [if_neg hy] at e1
      by_cases hz : z = x
      · rw [if_pos hz] at e2; obtain rfl := Option.some.inj e2
        exact (key y a1 hy e1 h1 h2).elim
      · rw [if_neg hz] at e2; exact R.apart _ _ _ _ b e1 e2 h1 h2
  · intro y a1 e1
    rw [aG] at e1
    by_cases hy : y = x
    · rw [if_pos hy] at e1; obtain rfl := Option.some.inj e1; exact hok
    · rw [if_neg hy] at e1; exact R.ok y a1 e1
  · intro b hb q
    rcases hV b q with q | q
    · exact R.off b hb q
    · exact (R.fresh q).1 (.inr (.inl hb))
  · intro b q
    have old : ¬ av.has b → C.F τ b → NT s'.heap b := fun h z => (R.live b z).grow fun o eo => ag b o h eo
    rcases q with q | q | q
    · exact old (fun z => R.off0 b q (hasM b z)) (.inl q)
    · exact old (fun z => R.off b q ⟨x, av, e, z⟩) (.inr (.inl q))
    · rcases cB q with z | ⟨y, a', hy, e', h'⟩
      · exact hx3.nt b z
      · exact old (other y a' b hy e' h') (.inr (.inr ⟨y, a', e', h'⟩))
  · intro b q
    rcases tM b q with z | z
    · exact R.new b z
    · exact (R.fresh z).2
  · intro b hb q
    rcases tM b q with z | z
    · exact R.off0 b hb z
    · exact (R.fresh z).1 (.inl hb)

theorem oZ {x : Str} {av av' : AV} (nf : ∀ y, C.sc.lookup y ≠ some .free) (a : At K f C A τ s) (e : τ.lookup x = some av) (ag : aU (fun b => av.has b) s.heap s'.heap) (hg : s'.gens = s.gens) (hos : s'.os = s.os)
    (hn : ∀ b, av'.has b → av.has b ∨ s.heap.get? b = none) (had : av'.ad = av.ad) (hok : av'.Ok) (hav : ∀ v, RdV pwP K.w 66 s.heap (C.F τ) v av → RdV pwP K.w 66 s'.heap (C.F (aS x av' τ)) v av') :
    At K f C A (aS x av' τ) s' ∧ Step C τ s.heap (aS x av' τ) s'.heap :=
  let ⟨R, st⟩ := a.rel.turnCall nf e ag hg hos hn had hok hav
  ⟨⟨a.ok, a.hB, R, a.room, a.fra, a.sc⟩, st⟩

theorem zl {x : Str} {av av' : AV} (e : τ.lookup x = some av) (hn : ∀ b, av'.has b → av.has b ∨ s.heap.get? b = none) : bu (C.F τ) s.heap (C.F (aS x av' τ)) := fun b q => by
  rcases q with q | q | q
  · exact .inl (.inl q)
  · exact .inl (.inr (.inl q))
  · rcases cB q with z | ⟨y, a', _, e', h'⟩
    · exact (hn b z).imp (fun y => .inr (.inr ⟨x, av, e, y⟩)) id
    · exact .inl (.inr (.inr ⟨y, a', e', h'⟩))

theorem pd {x : Str} {v : Value} {av : AV} {Q : Unit → Shared → Prop} (a : At K f C A τ s) (k : Gr s s') (hs : cA C.sc x = true) (hav : RdV pwP K.w 66 s'.heap (C.F (aS x av τ)) v av) (hok : av.Ok) (hnew : ∀ b, av.has b → s.heap.get? b = none)
    (hQ : ∀ s'', At K f C A (aS x av τ) s'' → Step C τ s.heap (aS x av τ) s''.heap → Q () s'') : wpAny (K.M) A (storeName C.env x v) Q E s' :=
  Rel.put a.ok a.rel k.grow k.gens k.os hs hav hok (fun b q => .inr (hnew b q)) fun s'' R st => hQ s'' ⟨a.ok, a.hB, R, a.room, a.fra, a.sc⟩ st

theorem tJ {x : Str} {av : AV} (a : At K f C A τ s) (k : Gr s s') (h : ∀ b, av.has b → NT s'.heap b) : ∀ b, C.F (aS x av τ) b → NT s'.heap b := fun b q => by
  rcases q with q | q | q
  · exact (a.nt b (.inl q)).grow (k.grow b)
  · exact (a.nt b (.inr (.inl q))).grow (k.grow b)
  · rcases cB q with z | ⟨y, a', _, e', h'⟩
    · exact h b z
    · exact (a.nt b (.inr (.inr ⟨y, a', e', h'⟩))).grow (k.grow b)

theorem nP {x : Str} {b : Addr} {ds : List D} {vs : Array Value} {F : aR} {Q : Unit → Shared → Prop} (a : At K f C A τ s) (k : Gr s s') (hs : cA C.sc x = true) (hl : s'.heap.PlainList b vs) (hz : vs.size ≤ aF) (hr : RdAll 66 s'.heap F ds vs.toList) (hf : flatAll ds = true) (hb : s.heap.get? b = none)
    (hQ : ∀ s'', At K f C A (aS x (.own b ds) τ) s'' → Step C τ s.heap (aS x (.own b ds) τ) s''.heap → Q () s'') : wpAny (K.M) A (storeName C.env x (.ref b)) Q E s' := by
  have nt := tJ (x := x) (av := .own b ds) a k fun c q => by
    cases (show c = b from q); exact .list hl.isList
  refine pd (av := .own b ds) a k hs ⟨rfl, vs, hl, hz, RdAll.flatten nt _ _ hf hr, hf⟩ trivial (fun c q => ?_) hQ
  cases (show c = b from q); exact hb

theorem lP (kvs : List (Str × Value)) (k k' : Str) (v : Value) : valueAt (stored kvs k v) k' = if k' = k then some v else valueAt kvs k' := by
  unfold valueAt stored
  split
  · rename_i h
    induction kvs with
    | nil => simp at h
    | cons y r ih =>
      obtain ⟨y, u⟩ := y
      simp only [List.map_cons, List.find?_cons]
      by_cases hy : y = k
      · subst hy
        by_cases hk : k' = y
        · subst hk; simp
        · have : (decide (y = k')) = false := by simpa using fun q => hk q.symm
          simp only [if_true, this, if_neg hk]
          by_cases hr : (r.any fun kv => decide (kv.1 = y)) = true
          · have := ih hr
            rw [if_neg hk] at this
            exact this
          · have hid : r.map (fun kv => if kv.1 = y then (kv.1, v) else kv) = r := by
              refine (List.map_congr_left fun z m => ?_).trans (List.map_id r)
              have : ¬ z.1 = y := fun q => hr (List.any_eq_true.mpr ⟨z, m, by simpa using q⟩)
              rw [if_neg this]; rfl
            rw [hid]
      · rw [if_neg hy]
        by_cases hk : y = k'
        · subst hk; simp [hy]
        · have hd : (decide (y = k')) = false := by simpa using hk
          simp only [hd]
          exact ih (by simpa [hy] using h)
  · rename_i h
    rw [List.find?_append]
    by_cases hk : k' = k
    · subst hk
      rw [if_pos rfl]
      have : kvs.find? (fun kv => decide (kv.1 = k')) = none := by
        rw [List.find?_eq_none]
        intro z m q
        exact h (List.any_eq_true.mpr ⟨z, m, q⟩)
      rw [this]; simp
    · rw [if_neg hk]
      have : List.find? (fun kv : Str × Value => decide (kv.1 = k')) [(k, v)] = none := by
        simp; exact fun q => hk q.symm
      rw [this, Option.or_none]
theorem rM {kvs : List (Str × Value)} {k : Str} {v u : Value} (h : valueAt kvs k = some u) : (stored kvs k v).length = kvs.length := by
  unfold stored
  rw [if_pos]
  · exact List.length_map _
  · unfold valueAt at h
    refine aA (Option.map_eq_some_iff.mp h) fun z hz Z => ?_
    exact List.any_eq_true.mpr ⟨z, List.mem_of_find?_eq_some hz, List.find?_some (p := fun kv : Str × Value => decide (kv.1 = k)) hz⟩

theorem jD {h : Heap} {l : Addr} {vs : Array Value} {f : Array Value → Array Value} (x : h.PlainList l vs) : (h.update l (Obj.mapSeq f)).PlainList l (f vs) := by
  obtain ⟨m, e⟩ := x
  exact ⟨_, get?_update_seq (c := "list") e f⟩
theorem mw {l : Addr} {items : Array Value} {k : Int} {t : Tok} {v : Value} {Q : Unit → Shared → Prop} (hl : s.heap.PlainList l items)
    (h0 : 0 ≤ k) (hfit : k < 2 ^ 63) (hn : k < items.size)
    (hQ : ∀ h', h'.PlainList l (items.setIfInBounds k.toNat v) → Heap.SameBut l s.heap h' → Q () { s with heap := h' }) :
    wpAny (K.M) A (setItem (.ref l) (.int k t) v) Q E s := by
  obtain ⟨o, ho, hc, ne, hd⟩ := id hl.isList
  unfold setItem
  try with_reducible refine wpAny_holding ?_
  first | refine wpAny_bind (wpAny_pure ?_) | skip
  refine wpAny_bind (wpAny_sequenceKey hl.isList.typeIs (by decide) ?_)
  refine wpAny_bind (wpAny_callSpecial?_slot (name := Str.ofString "__setitem__") hl.isList.typeIs slot_list_setitem
    (wpAny_call_entry slot_list_setitem hl.isList.typeIs entry_list_setitem ?_ (args_list_setitem _ _ _)))
  show wpAny _ _ (Builtin.List.listSubscript? (.int k t) >>= _) _ _ s
  refine wpAny_bind (wpAny_listSubscript_int (fitsIndex_of h0 hfit) ?_)
  clear hfit
  obtain ⟨j, rfl⟩ := Int.eq_ofNat_of_zero_le h0
  have hj : j < items.size := by lia
  have hx' : items[j]? = some items[j] := Array.getElem?_eq_getElem hj
  show wpAny _ _ ((seqItemAt l j >>= fun r => pure (r.map (j, ·))) >>= _) _ _ s
  refine wpAny_bind (wpAny_bind (wpAny_seqItemAt ho hd (wpAny_pure ?_)))
  rw [hx']
  show wpAny _ _ (setSeqItemAt l j v >>= _) _ _ s
  have hfin : (s.heap.update l (Obj.mapSeq (·.setIfInBounds j v))).PlainList l (items.setIfInBounds j v) := jD hl
  refine wpAny_bind (wpAny_setSeqItemAt ho hd ?_)
  first
    | exact wpAny_bind (wpAny_pure (wpAny_pure ⟨.none, rfl, wpAny_pure (hQ _ hfin (Heap.SameBut.update ..))⟩))
    | exact wpAny_pure ⟨.none, rfl, wpAny_pure (hQ _ hfin (Heap.SameBut.update ..))⟩

theorem uQ {l : Addr} {items : Array Value} {k : Int} {t : Tok} {y : Value} {Q : Value → Shared → Prop} (hl : s.heap.PlainList l items) (h0 : 0 ≤ k) (hfit : k < 2 ^ 62) (hy : items[k.toNat]? = some y) (hz : items.size ≤ sizeLine)
    (hQ : ∀ h', h'.PlainList l (items.eraseIdxIfInBounds k.toNat) → Heap.SameBut l s.heap h' → Q y { s with heap := h' }) : wpAny (K.M) A (call (.builtin "list.pop") [.ref l, .int k t]) Q E s := by
  obtain ⟨m, e⟩ := id hl
  have hlt : k.toNat < items.size := (Array.getElem?_eq_some_iff.mp hy).1
  have hk : seqIndex? k items.size = some k.toNat := by
    unfold seqIndex?
    have h1 : ¬ (k < 0) := by (lia -abstractProof)
    have h2 : ¬ (k ≥ items.size) := by (lia -abstractProof)
    simp [h1, h2] <;> (lia -abstractProof)
  have hf : Builtin.List.listFitsIndex k = true := by simp [Builtin.List.listFitsIndex]; (lia -abstractProof)
  exact call_meets PySem.F.slot_list_pop ⟨_, e, rfl⟩ PySem.F.entry_list_pop (PySem.F.args_list_pop_2 _ _) (PySem.MeetsSeq.list_pop_at l items m k t _ y hf hk hy hz) ⟨e, hQ _ (jD hl) (Heap.SameBut.update ..)⟩

theorem ix {x : Str} {b : Addr} {ds ds' : List D} {vs' : Array Value} {h' : Heap} {tk : Nat} (nf : ∀ y, C.sc.lookup y ≠ some .free) (a : At K f C A τ s) (e : τ.lookup x = some (.own b ds)) (hs : Heap.SameBut b s.heap h')
    (hl : h'.PlainList b vs') (hz : vs'.size ≤ aF) (hr : RdAll 66 s.heap (C.F τ) ds' vs'.toList) (hf : flatAll ds' = true) :
    At K f C A (aS x (.own b ds') τ) { s with heap := h', toks := tk } ∧ Step C τ s.heap (aS x (.own b ds') τ) h' := by
  have ag : aU (fun c => (AV.own b ds).has c) s.heap h' := fun c o nb eo => by rw [hs.2 c nb]; exact eo
  have hsub : ∀ c, (AV.own b ds').has c → (AV.own b ds).has c ∨ s.heap.get? c = none := fun c q => .inl q
  have agF : aU (C.F τ) s.heap h' := ag.more fun c q => .inr (.inr ⟨x, _, e, q⟩)
  exact oZ (s' := { s with heap := h', toks := tk }) nf a e ag rfl rfl hsub rfl trivial fun v r => ⟨r.1, vs', hl, hz, RdAll.step agF (zl e hsub) _ _ hr, hf⟩

theorem xr {x k : Str} {c b : Addr} {es : List (Str × EA)} {ds ds' : List D} {vs' : Array Value} {h' : Heap} {tk : Nat} (nf : ∀ y, C.sc.lookup y ≠ some .free) (a : At K f C A τ s) (e : τ.lookup x = some (.dct c es)) (ek : es.lookup k = some (.own b ds))
    (hs : Heap.SameBut b s.heap h') (hl : h'.PlainList b vs') (hz : vs'.size ≤ aF) (hr : RdAll 66 s.heap (C.F τ) ds' vs'.toList) (hf : flatAll ds' = true) :
    At K f C A (aS x (.dct c (aS k (.own b ds') es)) τ) { s with heap := h', toks := tk } ∧ Step C τ s.heap (aS x (.dct c (aS k (.own b ds') es)) τ) h' := by
  obtain ⟨R, st⟩ := a.rel.turnIn (tk := tk) nf e ek hs hl hz hr hf
  exact ⟨⟨a.ok, a.hB, R, a.room, a.fra, a.sc⟩, st⟩

theorem uS {es : List DictEntry} {kvs kvs' : List (Str × Value)} (h : PySem.Pairs (PySem.strKind pwP K.w) es kvs') (h' : PySem.Pairs (PySem.strKind pwP K.w) es kvs) : kvs' = kvs := by
  induction h generalizing kvs with
  | nil => cases h'; rfl
  | cons h1 h2 r ih => cases h' with
    | cons h1' h2' r' =>
      rw [ih r']
      exact congrArg (· :: _) (Prod.ext ((PySem.strKind pwP K.w).inj _ _ _ h1 h1') (h2.symm.trans h2'))
theorem vH {x k : Str} {c : Addr} {es : List (Str × EA)} {ea ea' : EA} {v : Value} {kvs : List (Str × Value)} {h₀ h' : Heap} {tk : Nat} (nf : ∀ y, C.sc.lookup y ≠ some .free) (a : At K f C A τ s) (e : τ.lookup x = some (.dct c es)) (ek : es.lookup k = some ea)
    (hd : s.heap.DictOf (PySem.strKind pwP K.w) c kvs) (k0 : bD s.heap h₀) (hd' : h'.DictOf (PySem.strKind pwP K.w) c (stored kvs k v)) (hs : Heap.SameBut c h₀ h') (hnew : ∀ b, ea'.has b → s.heap.get? b = none)
    (hav : RdA 66 h' (C.F (aS x (.dct c (aS k ea' es)) τ)) v ea') :
    At K f C A (aS x (.dct c (aS k ea' es)) τ) { s with heap := h', toks := tk } ∧ Step C τ s.heap (aS x (.dct c (aS k ea' es)) τ) h' := by
  have okd := a.rel.ok x _ e
  have live : ∀ b, (AV.dct c es).has b → ∃ o, s.heap.get? b = some o := fun b q => by
    refine aA (a.nt b (.inr (.inr ⟨x, _, e, q⟩))) fun o eo Z => ?_
    exact ⟨o, eo⟩
  have ag0 : aU (fun b => b = c) s.heap h' := fun b o nb eo => by rw [hs.2 b nb]; exact k0 b o eo
  have ag : aU (fun b => (AV.dct c es).has b) s.heap h' := ag0.more fun b q => .inl q
  have hsub : ∀ b, (AV.dct c (aS k ea' es)).has b → (AV.dct c es).has b ∨ s.heap.get? b = none := fun b q => by
    rcases q with q | ⟨k', x', e', h'⟩
    · exact .inl (.inl q)
    · rw [aG] at e'
      by_cases hk : k' = k
      · rw [if_pos hk] at e'; obtain rfl := Option.some.inj e'; exact .inr (hnew b h')
      · rw [if_neg hk] at e'; exact .inl (.inr ⟨k', x', e', h'⟩)
  have agF : aU (C.F τ) s.heap h' := ag.more fun b q => .inr (.inr ⟨x, _, e, q⟩)
  refine oZ (s' := { s with heap := h', toks := tk }) nf a e ag rfl rfl hsub rfl ⟨fun k' x' e' q => ?_, fun k1 k2 x1 x2 b e1 e2 h1 h2 => ?_⟩ fun u r => ?_
  · rw [aG] at e'
    by_cases hk : k' = k
    · rw [if_pos hk] at e'; obtain rfl := Option.some.inj e'
      obtain ⟨o, eo⟩ := live c (.inl rfl)
      rw [hnew c q] at eo; exact nS eo
    · rw [if_neg hk] at e'; exact okd.1 k' x' e' q
  · rw [aG] at e1 e2
    have key : ∀ k' x', es.lookup k' = some x' → x'.has b → ea'.has b → False := fun k' x' e' q1 q2 => by
      obtain ⟨o, eo⟩ := live b (.inr ⟨k', x', e', q1⟩)
      rw [hnew b q2] at eo; exact nS eo
    by_cases hk1 : k1 = k
    · by_cases hk2 : k2 = k
      · exact hk1.trans hk2.symm
      · rw [if_pos hk1] at e1; rw [if_neg hk2] at e2; obtain rfl := Option.some.inj e1
        exact (key k2 x2 e2 h2 h1).elim
    · rw [if_neg hk1] at e1
      by_cases hk2 : k2 = k
      · rw [if_pos hk2] at e2; obtain rfl := Option.some.inj e2
        exact (key k1 x1 e1 h1 h2).elim
      · rw [if_neg hk2] at e2; exact okd.2 k1 k2 x1 x2 b e1 e2 h1 h2
  · obtain ⟨rfl, kvs', hd2, hlen, kk⟩ := r
    have ekv : kvs' = kvs := by
      have m1 := hd2
      have m2 := hd
      refine zw m1 fun o1 es1 ep1 g1 Z g3 Z g5 Z => ?_; try clear m1
      refine zw m2 fun o2 es2 ep2 q1 Z q3 Z q5 Z => ?_; try clear m2
      rw [g1] at q1; obtain rfl := Option.some.inj q1
      rw [g3] at q3; cases q3
      exact uS g5 q5
    subst ekv
    refine aA (kk k ea ek) fun u0 hu0 Z => ?_
    refine ⟨rfl, stored kvs' k v, hd', by rw [rM hu0]; exact hlen, fun k' x' e' => ?_⟩
    rw [aG] at e'
    rw [lP]
    by_cases hk : k' = k
    · rw [if_pos hk] at e'; obtain rfl := Option.some.inj e'
      rw [if_pos hk]
      exact ⟨v, rfl, hav⟩
    · rw [if_neg hk] at e'
      rw [if_neg hk]
      refine aA (kk k' x' e') fun u1 h1 h2 => ?_
      refine ⟨u1, h1, h2.step agF (zl e hsub) fun b hb o eo => ag0 b o (fun q => okd.1 k' x' e' (q ▸ hb)) eo⟩
theorem RdV.sub {h : Heap} {F F' : aR} {v : Value} {av : AV} (r : RdV pwP K.w 66 h F v av) (k : ∀ b, F' b → F b) : RdV pwP K.w 66 h F' v av := r.step (aU.refl _ _) (bu.sub k) fun Z Z Z e => e

theorem yR {h h' : Heap} {F F' : aR} {v v' : Value} : ∀ {av : AV}, (∀ x, av.er ≠ .val x) → RdV pwP K.w 66 h F v av → RdV pwP K.w 66 h' F' v' av → v = v'
  | .val d, n, _, _ => absurd rfl (n d)
  | .own _ _, _, r, r' => r.1.trans r'.1.symm
  | .dct _ _, _, r, r' => r.1.trans r'.1.symm

theorem yn {x : Str} {av av' : AV} {v : Value} (nf : ∀ y, C.sc.lookup y ≠ some .free) (a : At K f C A τ s) (e : τ.lookup x = some av) (hv : ∀ x, av.er ≠ .val x) (r0 : RdV pwP K.w 66 s.heap (C.F τ) v av)
    (hok : av'.Ok) (r : RdV pwP K.w 66 s'.heap (fun b => (C.F τ b ∧ ¬ av.has b) ∨ av'.has b) v av') (ag : aU (fun b => av.has b) s.heap s'.heap) (hn : ∀ b, av'.has b → av.has b ∨ s.heap.get? b = none) (hg : s'.gens = s.gens) (hos : s'.os = s.os) (had : av'.ad = av.ad) :
    At K f C A (aS x av' τ) s' ∧ Step C τ s.heap (aS x av' τ) s'.heap := by
  refine oZ nf a e ag hg hos hn had hok fun v' r' => ?_
  obtain rfl := yR hv r0 r'
  refine r.sub fun b q => ?_
  rcases q with q | q | q
  · exact .inl ⟨.inl q, fun z => a.rel.off0 b q (.inr ⟨x, av, e, z⟩)⟩
  · exact .inl ⟨.inr (.inl q), fun z => a.rel.off b q ⟨x, av, e, z⟩⟩
  · rcases cB q with z | ⟨y, a', hy, e', h'⟩
    · exact .inr z
    · exact .inl ⟨.inr (.inr ⟨y, a', e', h'⟩), fun z => hy (a.rel.apart y x a' av b e' e h' z)⟩

end

structure IoOK (K : Cfg) : Prop where
  io : ∀ k lv ds d lv' d0, nth (recsOf pwP) k = some d0 → (∀ x, lv ≠ .val x) → K.g.io k lv ds = some (d, lv') → ∃ a o fd, K.mg d0.name = some (.ref a) ∧ K.hB.get? a = some o ∧ o.data = .func fd ∧ ∀ (A : Around) (s : Shared) (F : aR) (v : Value) (av : AV) (vs : List Value), av.er = lv → Room A K.n → (∃ outer, A.frames = some outer) →
    bD K.hB s.heap → (∀ b, F b → NT s.heap b) → (∀ b, av.has b → ¬ F b ∧ K.hB.get? b = none) → av.Ok → RdV pwP K.w 66 s.heap (fun b => F b ∨ av.has b) v av → RdAll 66 s.heap (fun b => F b ∨ av.has b) ds vs →
    wpAny K.M A (call (.ref a) (v :: vs)) (fun r s' => ∃ av', av'.er = lv' ∧ av'.Ok ∧ RdV pwP K.w 66 s'.heap (fun b => F b ∨ av'.has b) v av' ∧ (bf d = true → ∀ G : aR, (∀ b, G b → NT s'.heap b) → Rd 66 s'.heap G d r) ∧
      aU (fun b => av.has b) s.heap s'.heap ∧ (∀ b, av'.has b → av.has b ∨ s.heap.get? b = none) ∧ s'.gens = s.gens ∧ s'.os = s.os ∧ av'.ad = av.ad) Bad s
noncomputable def NoF (C : Cx) : Prop := ∀ y, C.sc.lookup y ≠ some .free
section
variable {K : Cfg} {f : FX} {C : Cx} {A : Around} {τ : aQ} {s s' : Shared}
noncomputable def PostX (K : Cfg) (f : FX) (C : Cx) (A : Around) (τ : aQ) (s : Shared) (Q : Value → Shared → Prop) (x : D × Rho) : Prop := ∀ τ' v s', aV f.ns τ' = x.2 → At K f C A τ' s' → Step C τ s.heap τ' s'.heap → Rd 66 s'.heap (C.F τ') x.1 v → Q v s'
structure XOk (K : Cfg) (f : FX) (e : Expr) (r : IX) : Prop where
  run : ∀ {C : Cx} {A : Around} {τ : aQ} {s : Shared} {Q : Value → Shared → Prop}, NoF C → At K f C A τ s → Ok (evX K.g (aV f.ns τ) r) (PostX K f C A τ s Q) → wpAny K.M A (eval e C.env) Q Bad s
theorem x_pure {e : Expr} {i : IE} (h : EP K f e i) : XOk K f e (.e i) := ⟨fun nf a q => h.ev a ((aq.mp q).mono fun d q v s' r g => q _ v s' rfl (a.gr g) (Step.grow g.grow) r)⟩
theorem x_bin (W : Lw K) {l r : Expr} {op : Operator} {p : Pos} {i j : IX} (hl : XOk K f l i) (hr : XOk K f r j) : XOk K f (.BinOp l op r p) (.bin op i j) := ⟨fun {C A τ s Q} nf a q =>
  wpAny_BinOp (hl.run nf a ((aC.mp q).mono fun x q τ₁ u s₁ e1 a1 st1 r1 => hr.run nf a1 (by
    rw [e1]
    refine (aC.mp q).mono fun y q τ₂ v s₂ e2 a2 st2 r2 => ?_
    obtain ⟨d1, ρ1⟩ := x
    obtain ⟨d2, ρ2⟩ := y
    cases d1 with
    | int i => cases d2 with
      | int j =>
        exact xV (op := op) (a := .int i) (b := .int j) (a2.nolimit W) (a2.seer W) a2.fra a2.room a2.nt ((aq.mp q).mono fun d q v s' r g => q τ₂ v s' e2 (a2.gr g) ((st1.trans st2).trans (Step.grow g.grow)) r) (st2.rd r1).rl r2.rl
      | _ => exact False.elim q
    | _ => exact False.elim q)))⟩
inductive XP (K : Cfg) (f : FX) : List Expr → List IX → Prop where
  | nil : XP K f [] []
  | cons {e i es is} : (∀ x p, e ≠ .Starred x p) → XOk K f e i → XP K f es is → XP K f (e :: es) (i :: is)
theorem XP.ns {es : List Expr} {is : List IX} (h : XP K f es is) : ∀ e ∈ es, ∀ x p, e ≠ .Starred x p := by
  induction h with
  | nil => exact fun Z m => nomatch m
  | cons a _ _ ih => exact fun e m => (List.mem_cons.mp m).elim (fun q => q ▸ a) (ih e)
theorem XP.xs {es : List Expr} {is : List IX} (l : XP K f es is) : ∀ {C : Cx} {A : Around} {τ : aQ} {s : Shared} {Q : List Value → Shared → Prop}, NoF C → At K f C A τ s →
    Ok (evXs K.g (aV f.ns τ) is) (fun x => ∀ τ' vs s', aV f.ns τ' = x.2 → At K f C A τ' s' → Step C τ s.heap τ' s'.heap → RdAll 66 s'.heap (C.F τ') x.1 vs → Q vs s') → ∀ p, wpAny K.M A (spliced (backTo p (starEach es C.env))) Q Bad s := by
  induction l with
  | nil => exact fun nf a h p => wpAny_items_nil (h _ _ _ rfl a (.refl _ _ _) .nil)
  | cons hs he _ ih => exact fun nf a h p => wpAny_items_cons (he.run nf a ((aC.mp h).mono fun x h τ₁ v s₁ e1 a1 st1 r1 => ih nf a1 (by
      rw [e1]
      exact (aq.mp h).mono fun y h τ₂ vs s₂ e2 a2 st2 r2 => h τ₂ _ s₂ e2 a2 (st1.trans st2) (.cons (st2.rd r1) r2)) p)) (de hs)
theorem x_call (W : Lw K) {x : Str} {es : List Expr} {is : List IX} {j : Nat} {p1 p : Pos} (hx : f.glob x = true) (hj : pos txP.fns x 0 = some j) (l : XP K f es is) : XOk K f (.Call (.Name x p1) es [] p) (.call j is) := ⟨fun {C A τ s Q} nf a q => by
  refine aA (jE _ _ _ (fS hj)) fun d0 h0 hn => ?_
  refine (aC.mp q).out fun y e1 q => (aq.mp q).out fun d e2 q => ?_
  refine kK (W.CK.call j y.1 d d0 h0 e2) fun ad o fd hm ho hdat hcall => ?_
  refine wpAny_Call_NameR (e9 W a hx (hn ▸ hm) (bM (P := fun h => h.get? ad = some o) l.ns (fV hdat) (l.xs nf a ?_ p)))
  rw [e1]
  exact fun τ₁ vs s₁ e a1 st r => ⟨a1.world _ _ ho, wpAny_mono (hcall A s₁ (C.F τ₁) vs a1.room a1.frames a1.world a1.nt r) (fun v s' z => q τ₁ v s' e (a1.gr z.2) (st.trans (Step.grow z.2.grow)) z.1) fun Z Z x => x⟩⟩
theorem x_io (W : Lw K) (IK : IoOK K) {g x : Str} {es : List Expr} {is : List IE} {i j : Nat} {p1 p2 p : Pos} (hg : f.glob g = true) (hj : pos txP.fns g 0 = some j) (hx : f.at x = some i) (l : LP K f es is) : XOk K f (.Call (.Name g p1) (.Name x p2 :: es) [] p) (.io j i is) := ⟨fun {C A τ s Q} nf a q => by
  refine aA (jE _ _ _ (fS hj)) fun d0 h0 hn => ?_
  obtain ⟨hp, hd⟩ := bp hx
  replace q : Ok ((kQ (aV f.ns τ i)).bind _) _ := q
  rw [dI hp] at q
  cases e2 : τ.lookup x with
  | none => rw [e2] at q; exact False.elim q
  | some av =>
    rw [e2] at q
    have hlv : ∀ x, av.er ≠ .val x := fun x z => by
      cases av with
      | val d => exact False.elim q
      | own b ds => cases z
      | dct b es => cases z
    have e0 : kQ (some av.er) = some av.er := by
      cases av with
      | val d => exact absurd rfl (hlv d)
      | own b ds => rfl
      | dct b es => rfl
    replace q : Ok ((kQ (some av.er)).bind _) _ := q
    rw [e0] at q
    refine ((aC (X := evEs K.g (aV f.ns τ) is)).mp q).out fun ds e3 q => (aC.mp q).out fun y e4 q => ?_
    obtain ⟨d, lv'⟩ := y
    cases hf : bf d with
    | false => rw [show bf (d, lv').1 = false from hf] at q; exact False.elim q
    | true =>
    rw [show bf (d, lv').1 = true from hf] at q
    replace q : PostX K f C A τ s Q (d, upd (aV f.ns τ) i lv') := q
    refine kK (IK.io j av.er ds d lv' d0 h0 hlv e4) fun ad o fd hm ho hdat hio => ?_
    refine wpAny_Call_NameR (e9 W a hg (hn ▸ hm) ?_)
    have hpl : ∀ e ∈ Expr.Name x p2 :: es, ∀ y q, e ≠ .Starred y q := fun e m y q => (List.mem_cons.mp m).elim (fun z => by rw [z]; intro w; cases w) fun m => l.ns e m y q
    refine bM (P := fun h => h.get? ad = some o) hpl (fV hdat) (wpAny_items_cons (co a hd e2 fun v rv => l.es a ?_ p) rfl)
    rw [e3]
    intro vs s₁ r _ k
    have a1 := a.gr k
    refine ⟨a1.world _ _ ho, ?_⟩
    rw [List.nil_append]
    have hasF : ∀ b, av.has b → C.F τ b := fun b q => .inr (.inr ⟨x, av, e2, q⟩)
    have split : ∀ b, ((C.F τ b ∧ ¬ av.has b) ∨ av.has b) → C.F τ b := fun b q => q.elim (·.1) (hasF b)
    have rv1 : RdV pwP K.w 66 s₁.heap (C.F τ) v av := rv.step (k.grow.agree _) (bu.refl _ _) fun b Z o eo => k.grow b o eo
    refine wpAny_mono (hio A s₁ (fun b => C.F τ b ∧ ¬ av.has b) v av vs rfl a1.room a1.frames a1.world (fun b q => a1.nt b q.1) (fun b q => ⟨fun z => z.2 q, ?_⟩) (a1.rel.ok x av e2) (rv1.sub split) (r.less split)) (fun res s₂ z => ?_) fun Z Z x => x
    · have := (a1.rel.new b (.inr ⟨x, av, e2, q⟩)).1
      rwa [a1.hB] at this
    · refine ob1_9 z fun av' e3 ok' r' rres ag hn hgens hos had => ?_; try clear z
      obtain ⟨a2, st⟩ := yn nf a1 e2 hlv rv1 ok' r' ag hn hgens hos had
      exact q (aS x av' τ) res s₂ (by rw [bG hp, e3]) a2 ((Step.grow k.grow).trans st) (rres hf _ a2.nt)⟩
theorem aX (W : Lw K) {e : Expr} (h : trX txP f e = (trE txP f e).map .e) : Al (trX txP f e) (XOk K f e) := Al.eq h (Al.map ((ae W e f).1.mono fun i h => x_pure h))
theorem uv (g : Expr) (as : List Expr) (kw : List Keyword) (p : Pos) : IsNm g ∨ trX txP f (.Call g as kw p) = (trE txP f (.Call g as kw p)).map .e := by
  cases g with
  | Name x p => exact .inl (ei2 rfl)
  | _ => exact .inr rfl
theorem t4 (W : Lw K) (IK : IoOK K) {x : Str} {q p : Pos} {as : List Expr} {kw : List Keyword} (hx : Al (trXs txP f as) (XP K f as)) : Al (trX txP f (.Call (.Name x q) as kw p)) (XOk K f (.Call (.Name x q) as kw p)) := by
  cases hi : hasIO txP.ios (.Call (.Name x q) as kw p) with
  | false => exact aX W (show (bif !hasIO txP.ios (.Call (.Name x q) as kw p) then _ else _) = _ by rw [hi] <;> rfl)
  | true =>
    refine Al.eq (show (bif !hasIO txP.ios (.Call (.Name x q) as kw p) then _ else _) = _ by rw [hi] <;> rfl) ?_
    clear hi
    cases kw with
    | cons _ _ => exact trivial
    | nil =>
      refine Al.guard fun hg => Al.bind (Al.of fun j hj => ?_)
      cases hc : txP.ios.contains x with
      | true =>
        clear hx
        cases as with
        | nil => exact trivial
        | cons a r' => cases a with
          | Name y q2 => exact Al.bind (Al.of fun i hy => Al.guard fun Z => Al.map ((trEs_ok W _ f).mono fun is l => x_io W IK hg hj hy l))
          | _ => exact trivial
      | false => exact Al.guard fun Z => Al.map (hx.mono fun is l => x_call W hg hj l)
theorem x6 (W : Lw K) {l r : Expr} {op : Operator} {p : Pos} (hl : Al (trX txP f l) (XOk K f l)) (hr : Al (trX txP f r) (XOk K f r)) : Al (trX txP f (.BinOp l op r p)) (XOk K f (.BinOp l op r p)) := by
  cases hi : hasIO txP.ios (.BinOp l op r p) with
  | false => exact aX W (show (bif !hasIO txP.ios (.BinOp l op r p) then _ else _) = _ by rw [hi] <;> rfl)
  | true => exact Al.eq (show (bif !hasIO txP.ios (.BinOp l op r p) then _ else _) = _ by rw [hi] <;> rfl) (Al.bind (hl.mono fun a h1 => Al.map (hr.mono fun b h2 => x_bin W h1 h2)))
theorem xl (e : Expr) (es : List Expr) : xh e ∨ trXs txP f (e :: es) = (trX txP f e).bind fun a => (trXs txP f es).map (a :: ·) := by
  cases e with
  | Starred x p => exact .inl (ei2 rfl)
  | _ => exact .inr rfl
mutual
theorem ib (W : Lw K) (IK : IoOK K) : ∀ e : Expr, Al (trX txP f e) (XOk K f e)
  | .Call g as kw p => by
    have hx := trXs_ok W IK as
    rcases uv g as kw p with ⟨x, q, rfl⟩ | z
    · exact t4 W IK hx
    · exact aX W z
  | .BinOp l op r p => x6 W (ib W IK l) (ib W IK r)
  | .Constant _ _ _ => aX W rfl
  | .Name _ _ => aX W rfl
  | .UnaryOp _ _ _ => aX W rfl
  | .BoolOp _ _ _ => aX W rfl
  | .Compare _ _ _ _ => aX W rfl
  | .IfExp _ _ _ _ => aX W rfl
  | .Tuple _ _ _ => aX W rfl
  | .List _ _ => aX W rfl
  | .Subscript _ _ _ => aX W rfl
  | .Attribute _ _ _ => aX W rfl
  | .ListComp _ _ _ _ => aX W rfl
  | .Slice _ _ _ _ => aX W rfl
  | .NamedExpr _ _ _ => aX W rfl
  | .Lambda _ _ _ _ => aX W rfl
  | .Dict _ _ _ => aX W rfl
  | .Set _ _ _ => aX W rfl
  | .SetComp _ _ _ _ => aX W rfl
  | .DictComp _ _ _ _ _ => aX W rfl
  | .GeneratorExp _ _ _ _ => aX W rfl
  | .Await _ _ => aX W rfl
  | .Yield _ _ => aX W rfl
  | .YieldFrom _ _ => aX W rfl
  | .FormattedValue _ _ _ _ => aX W rfl
  | .JoinedStr _ _ => aX W rfl
  | .Starred _ _ => aX W rfl
theorem trXs_ok (W : Lw K) (IK : IoOK K) : ∀ es : List Expr, Al (trXs txP f es) (XP K f es)
  | [] => .nil
  | e :: es => Al.of fun is h => by
    have h1 := ib W IK e
    have h2 := trXs_ok W IK es
    rcases xl e es with ⟨x, p, rfl⟩ | q
    · exact nS h
    · refine aA (Option.bind_eq_some_iff.mp (q.symm.trans h)) fun i hi h => aA (Option.map_eq_some_iff.mp h) fun r e2 e3 => ?_
      obtain rfl := e3
      exact .cons (by rintro x p rfl; exact nS hi) (h1.get hi) (h2.get e2)
end
end
end Mine
namespace Mine
open PySem PySem.Calls PyProof.Rows
section
variable {K : Cfg} {f : FX} {C : Cx} {A : Around} {τ τ₁ : aQ} {s s' s₁ : Shared}
theorem up {α : Type} {p : Sem α} {Q : α → Shared → Prop} {E : Value → Shared → Prop} (h : wpAny K.M A p Q Bad s) : wpAny K.M A p Q E s := wpAny_mono h (fun Z Z h => h) fun Z Z f => f.elim
noncomputable def FlOk (C : Cx) (fl : Fl) (fw : Flow) (s' : Shared) : Prop := match fl with
  | .next => fw = .next
  | .cont => fw = .cont
  | .ret d => ∃ v, fw = .ret v ∧ Rd 66 s'.heap C.F₀ d v
noncomputable def iX (K : Cfg) (f : FX) (C : Cx) (A : Around) (τ : aQ) (s : Shared) (Q : Flow → Shared → Prop) (x : Fl × Rho) : Prop := ∀ τ' fw s', aV f.ns τ' = x.2 → At K f C A τ' s' → Step C τ s.heap τ' s'.heap → FlOk C x.1 fw s' → Q fw s'
theorem iX.tr {Q : Flow → Shared → Prop} {x : Fl × Rho} (h : iX K f C A τ s Q x) (st : Step C τ s.heap τ₁ s₁.heap) : iX K f C A τ₁ s₁ Q x := fun τ' fw s' e a st' hf => h τ' fw s' e a (st.trans st') hf
structure SOk (K : Cfg) (f : FX) (st : Stmt) (i : IS) : Prop where
  run : ∀ {C : Cx} {A : Around} {τ : aQ} {s : Shared} {Q : Flow → Shared → Prop}, NoF C → At K f C A τ s → Ok (exI K.g (aV f.ns τ) i) (iX K f C A τ s Q) → wpAny K.M A (exec st C.env) Q Bad s
structure BOk (K : Cfg) (f : FX) (b : List Stmt) (i : List IS) : Prop where
  run : ∀ {C : Cx} {A : Around} {τ : aQ} {s : Shared} {Q : Flow → Shared → Prop}, NoF C → At K f C A τ s → Ok (exIs K.g (aV f.ns τ) i) (iX K f C A τ s Q) → wpAny K.M A (execs b C.env) Q Bad s
theorem b_nil : BOk K f [] [] := ⟨fun nf a h => wpAny_execs_nil (h _ _ _ rfl a (.refl _ _ _) rfl)⟩
theorem b_cons {st : Stmt} {b : List Stmt} {i : IS} {is : List IS} (h1 : SOk K f st i) (h2 : BOk K f b is) : BOk K f (st :: b) (i :: is) := ⟨fun {C A τ s Q} nf a h => wpAny_execs_cons (h1.run nf a ((aC.mp h).mono fun x h τ₁ fw s₁ e a1 st hf => by
  obtain ⟨fl, ρ⟩ := x
  cases (show aV f.ns τ₁ = ρ from e)
  cases fl with
  | next =>
    cases (show fw = .next from hf)
    exact h2.run nf a1 (Ok.mono h fun y h => iX.tr h st)
  | cont =>
    cases (show fw = .cont from hf)
    exact h τ₁ _ s₁ rfl a1 st rfl
  | ret d =>
    refine aA hf fun v e1_ r => ?_; obtain rfl := e1_
    exact h τ₁ _ s₁ rfl a1 st ⟨v, rfl, r⟩))⟩
theorem s_if {t : Expr} {b o : List Stmt} {p : Pos} {i : IE} {j k : List IS} (ht : EP K f t i) (hb : BOk K f b j) (ho : BOk K f o k) : SOk K f (.If t b o p) (.ite i j k) := ⟨fun nf a h => wpAny_If (ht.ts a ((aC.mp h).mono fun c h s₁ g => by
  cases c
  · exact ho.run nf (a.gr g) (Ok.mono h fun x h => h.tr (Step.grow g.grow))
  · exact hb.run nf (a.gr g) (Ok.mono h fun x h => h.tr (Step.grow g.grow))))⟩
theorem At.frzAll (a : At K f C A τ s) : At K f C A (frzAll τ) s := ⟨a.ok, a.hB, a.rel.frzAll, a.room, a.fra, a.sc⟩
theorem vb {e : Expr} {p : Pos} {i : IE} (h : EP K f e i) : SOk K f (.Return (some e) p) (.ret i) := ⟨fun {C A τ s Q} nf a q => wpAny_Return_some (h.ev a.frzAll (by
  rw [vD]
  exact (aq (X := evI K.g (frz (aV f.ns τ)) i)).mp q |>.mono fun d q v s' r g => q τ _ s' rfl (a.gr g) (Step.grow g.grow) ⟨v, rfl, r.less fun b q => .inl q⟩))⟩
theorem uH {e : Expr} {p : Pos} {r : IX} (h : XOk K f e r) : SOk K f (.Return (some e) p) (.retX r) := ⟨fun {C A τ s Q} nf a q => wpAny_Return_some (h.run nf a (by
  exact (aq (X := evX K.g (aV f.ns τ) r)).mp q |>.mono fun x q τ₁ v s₁ e a1 st r => q τ₁ _ s₁ e a1 st ⟨v, rfl, r.less fun b q => .inl q⟩))⟩
theorem s_cont {p : Pos} : SOk K f (.Continue p) .cont := ⟨fun nf a h => wpAny_Continue (h _ _ _ rfl a (.refl _ _ _) rfl)⟩
theorem yF {t : Expr} {b : List Stmt} {p : Pos} {i : IE} {j : List IS} (ht : EP K f t i) (hb : BOk K f b j) : SOk K f (.While t b [] p) (.whil i j) := ⟨fun {C A τ s Q} nf a h => by
  refine wpAny_While ?_
  refine codeAny_whileLoop (fun n s₁ => ∃ τ₁, At K f C A τ₁ s₁ ∧ Ok (ia (fun ρ₁ => evT K.g ρ₁ (evI K.g ρ₁ i) i) (fun ρ₁ => exIs K.g ρ₁ j) n (aV f.ns τ₁)) (iX K f C A τ₁ s₁ Q)) (fun n s₁ hI => ?_) 1000 ⟨τ, a, h⟩
  refine aA hI fun τ₁ a1 h1 => ?_
  cases n with
  | zero => exact False.elim h1
  | succ n =>
    refine up (ht.ts a1 ((aC.mp h1).mono fun c h1 s₂ g => ?_))
    cases c with
    | false => exact wpAny_execs_nil (h1 τ₁ _ s₂ rfl (a1.gr g) (Step.grow g.grow) rfl)
    | true =>
      refine up (hb.run nf (a1.gr g) ((aC.mp h1).mono fun x h1 τ₂ fw s₃ e a2 st hf => ?_))
      obtain ⟨fl, ρ⟩ := x
      cases (show aV f.ns τ₂ = ρ from e)
      have st' := (Step.grow g.grow).trans st
      cases fl with
      | next => cases (show fw = .next from hf); exact ⟨n, Nat.lt_succ_self _, τ₂, a2, Ok.mono h1 fun x h => h.tr st'⟩
      | cont => cases (show fw = .cont from hf); exact ⟨n, Nat.lt_succ_self _, τ₂, a2, Ok.mono h1 fun x h => h.tr st'⟩
      | ret d =>
        refine aA hf fun v e1_ r => ?_; obtain rfl := e1_
        exact h1 τ₂ _ s₃ rfl a2 st' ⟨v, rfl, r⟩⟩
theorem s_for {t it : Expr} {b : List Stmt} {p : Pos} {ts : List Nat} {tt : Bool} {i : IE} {j : List IS} (ht : TgP f t ts tt) (hi : IP K f t it i) (hb : BOk K f b j) : SOk K f (.For t it b [] p) (.loop ts tt i j) := ⟨fun {C A τ s Q} nf a h => by
  refine wpAny_For (hi.it (own := false) a ((aC.mp h).mono fun items h v s₂ r k => ?_)) (fun x => fZ hi.ns x)
  refine v9 r fun I Wf St e3_ itr hW hz st => ?_; obtain rfl := e3_
  -- the frame with the iterator beside it
  have lW : ∀ b, Wf b → NT s₂.heap b := fun b q => (itr.live st b q).1
  let G' : aR := fun b => C.F₀ b ∨ Wf b
  let C' : Cx := C.withF G'
  have aw := a.gr k
  have R' : Rel pwP K.w 66 C' τ s₂ := a.rel.growF (G := G') k (fun b q => q.imp id (hW b)) fun b q => q.elim (fun z => (a.nt b (.inl z)).grow (k.grow b)) (lW b)
  have a' : At K f C' A τ s₂ := ⟨a.ok.withF, a.hB, R', a.room, a.fra, a.sc⟩
  have eqF : ∀ (τ : aQ) b, (C.F τ b ∨ Wf b) ↔ C'.F τ b := fun τ b => by
    constructor
    · rintro ((q | q) | q)
      · exact .inl (.inl q)
      · exact .inr q
      · exact .inl (.inr q)
    · rintro ((q | q) | q)
      · exact .inl (.inl q)
      · exact .inr q
      · exact .inl (.inr q)
  have MF : ∀ (τ : aQ) b, C.M τ b → C'.F τ b := fun τ b q => .inr q
  have WF : ∀ (τ : aQ) b, Wf b → C'.F τ b := fun τ b q => .inl (.inr q)
  have st' : St (C.M τ) (C'.F τ) items s₂.heap := by
    have e : ip false C τ = C.M τ := rfl
    rw [e] at st
    exact itr.step st (.refl _ _) (.refl _ _) (bu.sub fun b q => (eqF τ b).mpr q) (fun b q => (eqF τ b).mpr (MF τ b q)) (WF τ)
  have hN : ∀ b, Wf b → C'.hB.get? b = none ∧ (C'.X b ∨ C'.h₀.get? b = none) := fun b q => by
    have f := a.rel.fresh (hW b q)
    exact f.2
  have hfr : ∀ b, Wf b → ∀ x, C'.sc.lookup x = some .free → C'.env.cells.lookup x ≠ some b := fun b Z x e => absurd e (nf x)
  refine codeAny_forLoop_any (fun n s₁ => ∃ ds τ₁, n = ds.length ∧ At K f C' A τ₁ s₁ ∧ Ok (mJ (fun d ρ₁ => (br ts d ρ₁ tt).bind fun ρ₂ => exIs K.g ρ₂ j) ds (aV f.ns τ₁)) (iX K f C A τ s Q) ∧ St (C.M τ₁) (C'.F τ₁) ds s₁.heap ∧ Step C τ s.heap τ₁ s₁.heap) (fun n s₁ hI => ?_)
    items.length ⟨items, τ, rfl, a', h, st', Step.grow k.grow⟩
  refine cW hI fun ds τ₁ e2_ a1 hl sts stp => ?_; obtain rfl := e2_
  cases ds with
  | nil =>
    refine itr.done sts fun h' tk ag => ?_
    dsimp only
    have Rn : Rel pwP K.w 66 C τ₁ { s₁ with heap := h', toks := tk } := a1.rel.dead (G := C.F₀) (W := Wf) (h' := h') (tk := tk) ag (fun b q => .inr q) hN hfr (fun b q => .inl q) (fun b q => by
        have nW : ¬ Wf b := fun z => by
          refine aA (a.nt b (.inl q)) fun o e Z => ?_
          rw [hW b z] at e; exact nS e
        exact (a1.nt b (.inl (.inl q))).grow fun o e => ag b o nW e)
    exact wpAny_execs_nil (hl τ₁ _ { s₁ with heap := h', toks := tk } rfl ⟨a.ok, a.hB, Rn, a.room, a.fra, a.sc⟩ (stp.dead ag hW) rfl)
  | cons d ds =>
    refine itr.item sts a1.nt fun v h' tk go => ?_
    dsimp only
    refine go _ _ fun h'' st'' rv ag => ?_
    have a2 : At K f C' A τ₁ { s₁ with heap := h'', toks := tk } := by
      have := a1.rel.dead (G := C'.F₀) (W := Wf) (h' := h'') (tk := tk) ag (fun b q => .inr q) hN hfr (fun b q => q) (fun b q => by
        by_cases z : Wf b
        · exact (itr.live st'' b z).1
        · exact (a1.nt b (.inl q)).grow fun o e => ag b o z e)
      exact ⟨a1.ok, a1.hB, this, a1.room, a1.fra, a1.sc⟩
    have stp2 : Step C τ s.heap τ₁ h'' := stp.dead ag hW
    refine up (lQ (C := C') (E := Bad) ht a2 rv ((aC.mp (aC.mp hl)).mono fun ρ hl s₃ e a3 st3 => ?_))
    rw [← e] at hl
    refine up (hb.run (C := C') nf a3 (hl.mono fun x hl τ₄ fw s₄ e4 a4 st4 hf => ?_))
    obtain ⟨fl, ρ'⟩ := x
    cases (show aV f.ns τ₄ = ρ' from e4)
    have st34 : Step C' τ₁ h'' τ₄ s₄.heap := st3.trans st4
    have stp4 : Step C τ s.heap τ₄ s₄.heap := stp2.trans ⟨st34.agree, st34.turn, st34.pins⟩
    have go2 : Ok (mJ (fun d ρ₁ => (br ts d ρ₁ tt).bind fun ρ₂ => exIs K.g ρ₂ j) ds (aV f.ns τ₄)) (iX K f C A τ s Q) → ∃ m, m < (d :: ds).length ∧ ∃ ds τ₁, m = ds.length ∧ At K f C' A τ₁ s₄ ∧ Ok (mJ (fun d ρ₁ => (br ts d ρ₁ tt).bind fun ρ₂ => exIs K.g ρ₂ j) ds (aV f.ns τ₁)) (iX K f C A τ s Q) ∧ St (C.M τ₁) (C'.F τ₁) ds s₄.heap ∧ Step C τ s.heap τ₁ s₄.heap :=
      fun hl => ⟨ds.length, Nat.lt_succ_self _, ds, τ₄, rfl, a4, hl, itr.step st'' st34.agree st34.turn st34.F (MF τ₁) (WF τ₄), stp4⟩
    cases fl with
    | next => cases (show fw = .next from hf); exact go2 hl
    | cont => cases (show fw = .cont from hf); exact go2 hl
    | ret dr =>
      refine aA hf fun u e1_ r => ?_; obtain rfl := e1_
      exact hl τ₄ _ s₄ rfl ⟨a.ok, a.hB, a4.rel.growF (G := C.F₀) (.refl _) (fun b q => .inl (.inl q)) fun b q => a4.nt b (.inl (.inl q)), a.room, a.fra, a.sc⟩ stp4 ⟨u, rfl, r.less fun b q => .inl q⟩⟩
end
end Mine
namespace Mine
open PySem PySem.Calls PyProof.Rows
section
variable {K : Cfg} {f : FX} {C : Cx} {A : Around} {τ : aQ} {s s' : Shared}
theorem v6 {x : Str} {b : Addr} {ds : List D} (a : At K f C A τ s) (e : τ.lookup x = some (.own b ds)) : oW 66 s.heap (C.F τ) b ds := by
  refine aA a.rel.ns fun m hn hv => ?_
  refine aA (hv x _ e) fun v h1 h2 => ?_
  exact h2.2

theorem cz {o a : Expr} {name : Str} {id : String} {apos pos : Pos} {Q : Value → Shared → Prop} (slot : Slot "list" name id) (hty : typeOf (.builtin id) = pure (.type "method_descriptor")) (hns : gu o = true) (hline : (apos.endLine == pos.line) = true)
    (hst : ∀ x p, a ≠ .Starred x p) (h : wpAny (K.M) A (eval o C.env) (fun ov s₁ => ∃ D vs, ov = .ref D ∧ s₁.heap.PlainList D vs ∧ wpAny (K.M) A (eval a C.env) (fun y s₂ => wpAny (K.M) A (call (.builtin id) [.ref D, y]) Q Bad s₂) Bad s₁) Bad s) :
    wpAny (K.M) A (eval (.Call (.Attribute o name apos) [a] [] pos) C.env) Q Bad s := by
  have hp : ∀ e ∈ [a], ∀ x p, e ≠ .Starred x p := fun e m x p => by
    have : e = a := by simpa using m
    rw [this]; exact hst x p
  refine wpAny_Call_method (T := "list") (id := id) (cM hns) ?_ hline PySem.F.plainAttrs_list slot hty (wpAny_mono h (fun ov s₁ q => ?_) fun Z Z x => x)
  · rw [(fK [a] C.env pos hp).2]; rfl
  · refine bm q fun D vs e2_ z3_ hc => ?_; obtain rfl := e2_; obtain ⟨m, hl⟩ := z3_; try clear q
    refine ⟨⟨_, hl, rfl⟩, fun b e => by cases e; exact ⟨_, hl, rfl⟩, ?_⟩
    refine bM (P := fun Z => True) hp (cI (by intro a h; cases h)) ?_
    have hs : starEach [a] C.env = (false, eval a C.env) :: starEach [] C.env := by
      cases a <;> first | rfl | exact absurd rfl (hst _ _)
    refine wpAny_items_cons (wpAny_mono hc (fun y s₂ q => wpAny_items_nil ⟨trivial, q⟩) fun Z Z x => x) hs

theorem lU {e o i : Expr} {p : Pos} {l : Nat} : swapsWith e (some (.Subscript o i p)) l C.env = pure false := by
  cases e <;> rfl
theorem vU {e : Expr} {es : List Expr} {k : Nat} {p : Pos} {l : Nat} : swapsWithSole [.Tuple es k p] e l C.env = pure false := by
  show swapsWith e (some (.Tuple es k p)) l C.env = pure false
  cases e <;> rfl
theorem rL {e : Expr} {es : List Expr} {k : Nat} {p : Pos} (h : tupT e = false) : swappedStores [.Tuple es k p] e C.env = pure none := by
  cases e <;> first | rfl | exact tF h

theorem cQ (ok : C.Ok) : interactive C.env = false := by
  unfold interactive
  rw [ok.kind]; rfl

theorem jw {h h' : Heap} {b : Addr} {vs : Array Value} (x : h.PlainList b vs) (k : bD h h') : h'.PlainList b vs := x.at fun o e => k b o e

theorem gZ (vs : Array Value) (k : Nat) : (vs.eraseIdxIfInBounds k).toList = vs.toList.eraseIdx k := by
  unfold Array.eraseIdxIfInBounds
  split
  · rw [Array.toList_eraseIdx]
  · rename_i h
    rw [List.eraseIdx_of_length_le]
    simpa using h
theorem nA {ds : List D} (h : flatAll ds = true) (k : Nat) : flatAll (ds.eraseIdx k) = true := bv.mpr fun d m => bv.mp h d (List.mem_of_mem_eraseIdx m)
theorem uP {ds r : List D} {k d : D} (h : ot ds k d = some r) : ∃ i, k = .int i ∧ 0 ≤ i ∧ i < ds.length ∧ r = ds.set i.toNat d := by
  cases k with
  | int i =>
    obtain ⟨hi, rfl⟩ := cJ h
    exact ⟨i, rfl, hi.1, hi.2, rfl⟩
  | _ => exact nS h
theorem qi {ds : List D} {d : D} (h : flatAll ds = true) (hd : bf d = true) (k : Nat) : flatAll (ds.set k d) = true := bv.mpr fun x m => by
  rcases List.mem_or_eq_of_mem_set m with m | rfl
  · exact bv.mp h x m
  · exact hd

theorem tG {x : Str} {b : Addr} {ds r : List D} {k d : D} {iv v : Value} {Q : Unit → Shared → Prop} (nf : ∀ y, C.sc.lookup y ≠ some .free) (a : At K f C A τ s) (e2 : τ.lookup x = some (.own b ds)) (ri : Rd 66 s.heap (C.F τ) k iv) (rv : Rd 66 s.heap (C.F τ) d v) (hf : bf d = true)
    (hp : ot ds k d = some r) (hQ : ∀ s', At K f C A (aS x (.own b r) τ) s' → Step C τ s.heap (aS x (.own b r) τ) s'.heap → Q () s') : wpAny (K.M) A (setItem (.ref b) iv v) Q Bad s := by
  refine iK (uP hp) fun i e1_ h0 h1 e4_ => ?_; obtain rfl := e1_; obtain rfl := e4_
  obtain ⟨t, rfl⟩ := bw ri
  refine iK (v6 a e2) fun vs hl hz hr hfl => ?_
  have len := hr.len
  rw [Array.length_toList] at len
  have szv : aF = 1000000 := rfl
  refine mw hl h0 (by (lia -abstractProof)) (by (lia -abstractProof)) fun h' hl' hs' => ?_
  obtain ⟨a2, st⟩ := ix (tk := s.toks) nf a e2 hs' hl' (ds' := ds.set i.toNat d) (by rw [Array.size_setIfInBounds]; exact hz) (by rw [Array.toList_setIfInBounds]; exact hr.set rv _) (qi hfl hf _)
  exact hQ _ a2 st

theorem dct_at {x : Str} {c : Addr} {es : List (Str × EA)} (a : At K f C A τ s) (e : τ.lookup x = some (.dct c es)) : RdV pwP K.w 66 s.heap (C.F τ) (.ref c) (.dct c es) := by
  refine aA a.rel.ns fun m hn hv => ?_
  refine aA (hv x _ e) fun v h1 h2 => ?_
  have : v = .ref c := h2.1
  exact this ▸ h2

theorem dY {x k : Str} {t : Tok} {c : Addr} {es : List (Str × EA)} {ea0 ea : EA} {v : Value} {s₀ : Shared} {Q : Unit → Shared → Prop} (nf : ∀ y, C.sc.lookup y ≠ some .free) (a : At K f C A τ s) (k0 : Gr s s₀)
    (e2 : τ.lookup x = some (.dct c es)) (ek : es.lookup k = some ea0) (hnew : ∀ b, ea.has b → s.heap.get? b = none) (hav : RdA 66 s₀.heap (C.F (aS x (.dct c (aS k ea es)) τ)) v ea)
    (hQ : ∀ s', At K f C A (aS x (.dct c (aS k ea es)) τ) s' → Step C τ s.heap (aS x (.dct c (aS k ea es)) τ) s'.heap → Q () s') :
    wpAny (K.M) A (setItem (.ref c) (.str k t) v) Q Bad s₀ := by
  obtain ⟨_, kvs, hd0, hlen, kk⟩ := dct_at a e2
  have hdct : s₀.heap.DictOf (PySem.strKind pwP K.w) c kvs := by
    refine nv hd0 fun o es1 ep g1 g2 => ?_; try clear hd0
    exact ⟨o, es1, ep, k0.grow _ _ g1, g2⟩
  refine wpAny_setItem_pairs (knd := PySem.strKind pwP K.w) (k := k) (kvs := kvs) (by simp [PySem.strKind, Value.isStrOf]) hdct (fun h' hd' hs' => ?_) (by have := cc; have : aF = 1000000 := rfl; exact nle (by assumption) (by decide))
  have cF : C.F (aS x (.dct c (aS k ea es)) τ) c := .inr (.inr ⟨x, .dct c (aS k ea es), by rw [aG, if_pos rfl], .inl rfl⟩)
  have agc : aU (C.F (aS x (.dct c (aS k ea es)) τ)) s₀.heap h' := fun b o nb eo => by rw [hs'.2 b fun q => nb (q ▸ cF)]; exact eo
  have havh : RdA 66 h' (C.F (aS x (.dct c (aS k ea es)) τ)) v ea := hav.step agc (.refl _ _) fun b hb o eo => by
    rw [hs'.2 b fun q => ?_]; exact eo
    refine aA (a.nt c (.inr (.inr ⟨x, _, e2, .inl rfl⟩))) fun o' e' Z => ?_
    have q1 := hnew b hb
    rw [q, e'] at q1; exact sN q1
  obtain ⟨a2, st⟩ := vH (tk := s₀.toks + 1) nf a e2 ek hd0 k0.grow hd' hs' hnew havh
  have eg : At K f C A (aS x (.dct c (aS k ea es)) τ) { s₀ with heap := h', toks := s₀.toks + 1 } := ⟨a2.ok, a2.hB, ⟨a2.rel.world, a2.rel.base, k0.gens.trans a2.rel.gens, k0.os.trans a2.rel.os, a2.rel.ns, a2.rel.cells, a2.rel.apart, a2.rel.ok, a2.rel.off, a2.rel.live, a2.rel.new, a2.rel.off0⟩, a2.room, a2.fra, a2.sc⟩
  exact hQ _ eg st

theorem oS {i : Expr} (h : ∀ lo hi st p, i ≠ .Slice lo hi st p) (ov iv new : Value) : augStore i ov iv new = (do holding [new, ov, iv] (setItem ov iv new); release [new, ov, iv] []; pure .next) := by
  cases i <;> first | rfl | exact absurd rfl (h _ _ _ _)

theorem pi {x k : Str} {c : Addr} {es : List (Str × EA)} {ea : EA} (e2 : τ.lookup x = some (.dct c es)) {b : Addr} (q : C.F (aS x (.dct c (aS k ea es)) τ) b) : C.F τ b ∨ ea.has b := by
  rcases q with q | q | q
  · exact .inl (.inl q)
  · exact .inl (.inr (.inl q))
  · rcases cB q with z | ⟨y, a', hy, e', h'⟩
    · rcases z with z | ⟨k', x', e', h''⟩
      · exact .inl (.inr (.inr ⟨x, _, e2, .inl z⟩))
      · rw [aG] at e'
        by_cases hk : k' = k
        · rw [if_pos hk] at e'; obtain rfl := Option.some.inj e'; exact .inr h''
        · rw [if_neg hk] at e'; exact .inl (.inr (.inr ⟨x, _, e2, .inr ⟨k', x', e', h''⟩⟩))
    · exact .inl (.inr (.inr ⟨y, a', e', h'⟩))

theorem gQ {x : Str} {i : Nat} {P : List D → Prop} (hp : pos f.ns x 0 = some i) (h : Ok (ownOf (aV f.ns τ i)) P) : ∃ b ds, τ.lookup x = some (.own b ds) ∧ P ds := by
  rw [dI hp] at h
  cases e : τ.lookup x with
  | none => rw [e] at h; exact False.elim h
  | some av =>
    rw [e] at h
    cases av with
    | own b ds => exact ⟨b, ds, rfl, h⟩
    | _ => exact False.elim h
theorem gc {x : Str} {i : Nat} {P : List (Nat × EV) → Prop} (hp : pos f.ns x 0 = some i) (h : Ok (eA (aV f.ns τ i)) P) : ∃ c es, τ.lookup x = some (.dct c es) ∧ P (erD es) := by
  rw [dI hp] at h
  cases e : τ.lookup x with
  | none => rw [e] at h; exact False.elim h
  | some av =>
    rw [e] at h
    cases av with
    | dct c es => exact ⟨c, es, rfl, h⟩
    | _ => exact False.elim h
theorem gX {d : D} {P : D → Prop} (h : Ok (cu d) P) : bf d = true ∧ P d := by
  unfold cu at h
  cases q : bf d with
  | false => rw [q] at h; exact False.elim h
  | true => rw [q] at h; exact ⟨rfl, h⟩
theorem oe {α : Type} {ds : List D} {x : α} {P : α → Prop} (h : Ok (room ds x) P) : ds.length < aF ∧ P x := by
  unfold room at h
  split at h
  · rename_i z; exact ⟨z, h⟩
  · exact False.elim h

theorem vd {x : Str} {e : Expr} {p1 apos p2 p : Pos} {i : Nat} {j : IE} (hx : f.at x = some i) (he : EP K f e j) (hst : ∀ x p, e ≠ .Starred x p) (hline : (apos.endLine == p2.line) = true) :
    SOk K f (.Expr (.Call (.Attribute (.Name x p1) "append" apos) [e] [] p2) p) (.app i j) := ⟨fun {C A τ s Q} nf a h => by
  obtain ⟨hp, hd⟩ := bp hx
  refine (aC.mp h).out fun d0 e0 h => ?_
  refine aA (Option.bind_eq_some_iff.mp e0) fun d e1 e2 => ?_
  refine bY (gQ hp (aC.mp h)) fun b ds el h => ?_
  obtain ⟨hz, h⟩ := oe h
  obtain ⟨hf, rfl⟩ := gX (P := fun z => z = d0) (by rw [e2]; exact rfl)
  refine wpAny_Expr_any (cz slot_list_append type_list_append rfl hline hst (co a hd el fun v r => ?_)) (cQ a.ok) rfl
  obtain ⟨rfl, vs, hl, hzv, hr, hfl⟩ := r
  refine ⟨b, vs, rfl, hl, he.ev a ?_⟩
  rw [e1]
  intro y s₁ ry k
  have a1 := a.gr k
  have len := hr.len
  rw [Array.length_toList] at len
  have szt := cc
  refine wpAny_list_append_plain (jw hl k.grow) (fun h' hl' hs' => ?_) (by exact nle (by assumption) (by decide))
  obtain ⟨a2, st⟩ := ix (tk := s₁.toks) nf a1 el hs' hl' (ds' := ds ++ [d]) (by rw [Array.size_push]; (lia -abstractProof)) (by rw [Array.toList_push]; exact (hr.grow k.grow).append (.cons ry .nil)) (cv hfl (by simp [flatAll, hf]))
  exact h _ _ _ (bG hp _ _) a2 ((Step.grow k.grow).trans st) rfl⟩
theorem rR {x k : Str} {e : Expr} {p0 p1 p3 apos p2 p : Pos} {u : Nat} {i m : Nat} {j : IE} (hx : f.at x = some i) (hk : pos bZ k 0 = some m) (he : EP K f e j) (hst : ∀ x p, e ≠ .Starred x p) (hline : (apos.endLine == p2.line) = true) :
    SOk K f (.Expr (.Call (.Attribute (.Subscript (.Name x p0) (.Constant (.str k) u p1) p3) "append" apos) [e] [] p2) p) (.appK i m j) := ⟨fun {C A τ s Q} nf a h => by
  obtain ⟨hp, hd⟩ := bp hx
  refine (aC.mp h).out fun d0 e0 h => ?_
  refine aA (Option.bind_eq_some_iff.mp e0) fun d e1 e2 => ?_
  obtain ⟨hf, rfl⟩ := gX (P := fun z => z = d0) (by rw [e2]; exact rfl)
  refine bY (gc hp (aC.mp h)) fun c es el h => ?_
  rw [l6 hk] at h
  cases ek : es.lookup k with
  | none => rw [ek] at h; exact False.elim h
  | some ea =>
    rw [ek] at h
    cases ea with
    | val d => exact False.elim h
    | own b ds =>
      obtain ⟨hz, h⟩ := oe (ds := ds) h
      refine wpAny_Expr_any (cz slot_list_append type_list_append rfl hline hst (jG a hd el ek fun v s₀ k0 r => ?_)) (cQ a.ok) rfl
      obtain ⟨rfl, vs, hl, hzv, hr, hfl⟩ := r
      have a0 := a.gr k0
      refine ⟨b, vs, rfl, hl, he.ev a0 ?_⟩
      rw [e1]
      intro y s₁ ry k1
      have a1 := a0.gr k1
      have len := hr.len
      rw [Array.length_toList] at len
      have szt := cc
      refine wpAny_list_append_plain (jw hl k1.grow) (fun h' hl' hs' => ?_) (by exact nle (by assumption) (by decide))
      obtain ⟨a2, st⟩ := xr (tk := s₁.toks) nf a1 el ek hs' hl' (ds' := ds ++ [d]) (by rw [Array.size_push]; lia) (by rw [Array.toList_push]; exact (hr.grow k1.grow).append (.cons ry .nil)) (cv hfl (by simp [flatAll, hf]))
      refine h _ _ _ ?_ a2 ((Step.grow (k0.trans k1).grow).trans st) rfl
      rw [bG hp]
      show upd _ i (.dct (erD (aS k (.own b (ds ++ [d])) es))) = _
      rw [vX hk _ ek]; rfl⟩
theorem vc {x y : Str} {i : Expr} {p1 p3 apos apos2 p2 p4 p : Pos} {xi yi : Nat} {j : IE} (hx : f.at x = some xi) (hy : f.at y = some yi) (hxy : x ≠ y) (hi : EP K f i j) (hst : ∀ x p, i ≠ .Starred x p) (hline : (apos.endLine == p2.line) = true) (hline2 : (apos2.endLine == p4.line) = true) :
    SOk K f (.Expr (.Call (.Attribute (.Name x p1) "append" apos) [.Call (.Attribute (.Name y p3) "pop" apos2) [i] [] p4] [] p2) p) (.appPop xi yi j) := ⟨fun {C A τ s Q} nf a h => by
  obtain ⟨hp, hd⟩ := bp hx
  obtain ⟨hp2, hd2⟩ := bp hy
  refine bY (gQ hp (aC.mp h)) fun b ds el h => ?_
  refine bY (gQ hp2 (aC.mp h)) fun c us ew h => ?_
  refine (aC.mp h).out fun k e1 h => (aC.mp h).out fun z h2 h => ?_
  obtain ⟨d, us'⟩ := z
  obtain ⟨hf, h⟩ := gX (aC.mp h)
  obtain ⟨hz, h⟩ := oe h
  refine wpAny_Expr_any (cz slot_list_append type_list_append rfl hline (by intro x p q; cases q) (co a hd el fun v r => ?_)) (cQ a.ok) rfl
  obtain ⟨rfl, vs, hl, hzv, hr, hfl⟩ := r
  refine ⟨b, vs, rfl, hl, ?_⟩
  refine cz PySem.F.slot_list_pop PySem.F.type_list_pop rfl hline2 hst (co a hd2 ew fun v r => ?_)
  obtain ⟨rfl, ws, hlw, hzw, hrw, hflw⟩ := r
  refine ⟨c, ws, rfl, hlw, hi.ev a ?_⟩
  rw [e1]
  intro iv s₁ ri k1
  have a1 := a.gr k1
  cases k with
  | int j =>
    replace h2 : (if 0 ≤ j ∧ j < us.length then (us[j.toNat]?).map (·, us.eraseIdx j.toNat) else none) = some (d, us') := h2
    split at h2
    · rename_i hj
      refine aA (Option.map_eq_some_iff.mp h2) fun d' h3 h4 => ?_
      cases h4
      obtain ⟨t, rfl⟩ := bw ri
      refine aA (hrw.get h3) fun v0 hv0 rv0 => ?_
      have lenw := hrw.len
      rw [Array.length_toList] at lenw
      have szt := cc
      have szv : aF = 1000000 := rfl
      refine uQ (jw hlw k1.grow) hj.1 (by (lia -abstractProof)) (by simpa using hv0) (by exact nle (by assumption) (by decide)) fun h' hl' hs' => ?_
      obtain ⟨a2, st2⟩ := ix (tk := s₁.toks) nf a1 ew hs' hl' (ds' := us.eraseIdx j.toNat) (by rw [← Array.length_toList, gZ, List.length_eraseIdx]; split <;> (rw [Array.length_toList]; (lia -abstractProof)))
        (by rw [gZ]; exact (hrw.grow k1.grow).erase _) (nA hflw _)
      have e2' : (aS y (.own c (us.eraseIdx j.toNat)) τ).lookup x = some (.own b ds) := by rw [aG, if_neg hxy]; exact el
      refine iK (v6 a2 e2') fun vs2 hl2 hz2 hr2 hf2 => ?_
      have len2 := hr2.len
      rw [Array.length_toList] at len2
      have rv2 : Rd 66 h' (C.F (aS y (.own c (us.eraseIdx j.toNat)) τ)) d v0 := st2.rd (rv0.grow k1.grow)
      refine wpAny_list_append_plain hl2 (fun h3' hl3 hs3 => ?_) (by exact nle (by assumption) (by decide))
      obtain ⟨a3, st3⟩ := ix (tk := s₁.toks) nf a2 e2' hs3 hl3 (ds' := ds ++ [d]) (by rw [Array.size_push]; (lia -abstractProof)) (by rw [Array.toList_push]; exact hr2.append (.cons rv2 .nil)) (cv hf2 (by simp [flatAll, hf]))
      exact h _ _ _ (by rw [bG hp, bG hp2]; rfl) a3 (((Step.grow k1.grow).trans st2).trans st3) rfl
    · exact nS h2
  | _ => exact nS h2⟩
theorem s_io {e : Expr} {p : Pos} {r : IX} (h : XOk K f e r) (hc : ∃ g as kw q, e = .Call g as kw q) : SOk K f (.Expr e p) (.io r) := ⟨fun {C A τ s Q} nf a q => by
  refine iI hc fun g as kw q2 e4_ => ?_; obtain rfl := e4_; try clear hc
  exact wpAny_Expr_any (h.run nf a ((aq.mp q).mono fun x q τ' v s' e a' st r => q τ' _ s' e a' st rfl)) (cQ a.ok) rfl⟩

theorem s_put {x : Str} {i e : Expr} {p1 tp p : Pos} {xi : Nat} {j k : IE} (hx : f.at x = some xi) (hi : EP K f i j) (he : EP K f e k) : SOk K f (.Assign [.Subscript (.Name x p1) i tp] e p) (.put xi j k) := ⟨fun {C A τ s Q} nf a h => by
  obtain ⟨hp, hd⟩ := bp hx
  refine bY (gQ hp (aC.mp h)) fun b ds el h => ?_
  refine wpAny_Assign_Subscript (he.ev a ((aC.mp (aC.mp h)).mono fun d h v s₁ rv k1 => ?_)) lU
  obtain ⟨hf, h⟩ := gX h
  have a1 := a.gr k1
  refine co a1 hd el fun ov r => ?_
  obtain ⟨rfl, _⟩ := r
  refine hi.ev a1 ((aC.mp h).mono fun kd h iv s₂ ri k2 => (aq.mp h).out fun r e h => ?_)
  have a2 := a1.gr k2
  exact tG nf a2 el ri (rv.grow k2.grow) hf e fun s' a3 st => h _ _ s' (bG hp _ _) a3 ((Step.grow (k1.trans k2).grow).trans st) rfl⟩
theorem gG {x k : Str} {i m : Nat} {c : Addr} {es : List (Str × EA)} {ea ea0 : EA} (hp : pos f.ns x 0 = some i) (hk : pos bZ k 0 = some m) (e : es.lookup k = some ea0) : aV f.ns (aS x (.dct c (aS k ea es)) τ) = upd (aV f.ns τ) i (.dct (st m ea.er (erD es))) := by
  rw [bG hp]
  show upd _ i (.dct (erD (aS k ea es))) = _
  rw [vX hk _ e]
theorem s_putK {x k : Str} {e : Expr} {p1 p2 tp p : Pos} {u : Nat} {xi m : Nat} {j : IE} (hx : f.at x = some xi) (hk : pos bZ k 0 = some m) (he : EP K f e j) : SOk K f (.Assign [.Subscript (.Name x p1) (.Constant (.str k) u p2) tp] e p) (.putK xi m j) := ⟨fun {C A τ s Q} nf a h => by
  obtain ⟨hp, hd⟩ := bp hx
  refine bY (gc hp (aC.mp h)) fun c es el h => ?_
  refine wpAny_Assign_Subscript (he.ev a ((aC.mp (aC.mp h)).mono fun d h v s₁ rv k1 => ?_)) lU
  obtain ⟨hf, h⟩ := gX h
  rw [l6 hk] at h
  cases ek : es.lookup k with
  | none => rw [ek] at h; exact False.elim h
  | some ea0 =>
    rw [ek] at h
    have a1 := a.gr k1
    refine co a1 hd el fun ov r => jF ?_
    obtain ⟨rfl, _⟩ := r
    refine dY (s₀ := { s₁ with toks := s₁.toks + 1 }) nf a1 (.toks _ _) el ek (ea := .val d) (fun b q => q.elim) (Rd.flatten (fun b z => ?_) _ _ hf rv) fun s' a3 st => h _ _ s' (gG hp hk ek) a3 ((Step.grow k1.grow).trans st) rfl
    exact (pi el z).elim (a1.nt b) False.elim⟩
theorem s_catK (W : Lw K) {x k : Str} {l r : Expr} {p1 p2 p3 tp p : Pos} {u : Nat} {xi m : Nat} {i j : IE} (hx : f.at x = some xi) (hk : pos bZ k 0 = some m) (hl : EP K f l i) (hr : EP K f r j) : SOk K f (.Assign [.Subscript (.Name x p1) (.Constant (.str k) u p2) tp] (.BinOp l .Add r p3) p) (.catK xi m (.bin .Add i j)) := ⟨fun {C A τ s Q} nf a h => by
  obtain ⟨hp, hd⟩ := bp hx
  refine bY (gc hp (aC.mp h)) fun c es el h => ?_
  replace h : Ok ((bW (aV f.ns τ) (evI K.g (aV f.ns τ) i) i).bind _) _ := aC.mp (aC.mp h)
  refine wpAny_Assign_Subscript (wpAny_BinOp (hl.pk a ((aC.mp h).mono fun d1 h y1 s₁ ry1 Z k1 => hr.ev (a.gr k1) ((aC.mp h).mono fun d2 h y2 s₂ ry2 k2 => ?_)))) lU
  have a2 := (a.gr k1).gr k2
  obtain ⟨d1, b1⟩ := d1
  cases d1 with
  | list xs => cases d2 with
    | list ys =>
      replace h : Ok (if xs.length + ys.length ≤ aF then some (PyData.list (xs ++ ys)) else none) _ := h
      split at h
      · rename_i hz
        replace h : Ok (bif flatAll (xs ++ ys) then some (xs ++ ys) else none) _ := h
        cases hfl : flatAll (xs ++ ys) with
        | false => rw [hfl] at h; exact False.elim h
        | true =>
          rw [hfl] at h
          replace h : Ok ((lk m (erD es)).map _) _ := h
          rw [l6 hk] at h
          cases ek : es.lookup k with
          | none => rw [ek] at h; exact False.elim h
          | some ea0 =>
            rw [ek] at h
            refine tR hz (ry1.grow k2.grow) ry2.rl fun cn vs s₃ hn hl hzv hrd k3 => ?_
            have a3 := a2.gr k3
            refine co a3 hd el fun ov r => jF ?_
            obtain ⟨rfl, _⟩ := r
            refine dY (s := s₂) (s₀ := { s₃ with toks := s₃.toks + 1 }) nf a2 (k3.trans (.toks _ _)) el ek (ea := .own cn (xs ++ ys)) (fun b q => by cases (show b = cn from q); exact hn) ⟨rfl, vs, hl, hzv, RdAll.flatten (fun b z => ?_) _ _ hfl hrd, hfl⟩ fun s' a4 st => h _ _ s' (gG hp hk ek) a4 ((Step.grow (k1.trans k2).grow).trans st) rfl
            rcases pi el z with z | z
            · exact a3.nt b z
            · cases (show b = cn from z); exact .list hl.isList
      · exact False.elim h
    | _ => exact False.elim h
  | int _ => cases d2 <;> exact False.elim h
  | _ => exact False.elim h⟩
theorem s_aug (W : Lw K) {x : Str} {i e : Expr} {p1 tp p : Pos} {xi : Nat} {j k : IE} (hsl : ∀ lo hi st p, i ≠ .Slice lo hi st p) (hx : f.at x = some xi) (hi : EP K f i j) (he : EP K f e k) : SOk K f (.AugAssign (.Subscript (.Name x p1) i tp) .Add e p) (.aug xi j k) := ⟨fun {C A τ s Q} nf a h => by
  obtain ⟨hp, hd⟩ := bp hx
  refine bY (gQ hp (aC.mp h)) fun b ds el h => ?_
  refine wpAny_AugAssign_SubscriptAny ?_ (oS hsl)
  refine co a hd el fun ov rv => ?_
  have rl := rv.rl_own
  obtain ⟨rfl, _⟩ := rv
  refine hi.ev a ((aC.mp h).mono fun kd h iv s₁ ri k1 => (aC.mp h).out fun d1 e1 h => ?_)
  have at1 := a.gr k1
  refine wpAny_mono (oB e1 (rl.grow k1.grow) ri) (fun old s₂ q => ?_) fun Z Z x => x
  obtain ⟨ro, k2⟩ := q
  refine he.ev (at1.gr k2) ((aC.mp h).mono fun d2 h v s₃ rv k3 => ?_)
  cases d1 with
  | int p => cases d2 with
    | int q =>
      obtain ⟨t0, rfl⟩ := bw ro
      obtain ⟨t1, rfl⟩ := bw rv
      refine P.iadd_int ?_
      have k4 : Gr s₃ { s₃ with toks := s₃.toks + 1 } := .toks _ _
      have at4 := ((at1.gr k2).gr k3).gr k4
      replace h : Ok ((ot ds kd (.int (p + q))).map _) _ := h
      refine (aq.mp h).out fun r e h => ?_
      exact tG nf at4 el (((ri.grow k2.grow).grow k3.grow).grow k4.grow) au rfl e fun s' a5 st => h _ _ s' (bG hp _ _) a5 ((Step.grow (((k1.trans k2).trans k3).trans k4).grow).trans st) rfl
    | _ => exact False.elim h
  | _ => exact False.elim h⟩
theorem s_augK {x k : Str} {e : Expr} {op : Operator} {p1 p2 tp p : Pos} {u : Nat} {xi m : Nat} {j : IE} (hop : op = .Add ∨ op = .Sub) (hx : f.at x = some xi) (hk : pos bZ k 0 = some m) (he : EP K f e j) : SOk K f (.AugAssign (.Subscript (.Name x p1) (.Constant (.str k) u p2) tp) op e p) (.augK xi op m j) := ⟨fun {C A τ s Q} nf a h => by
  obtain ⟨hp, hd⟩ := bp hx
  refine bY (gc hp (aC.mp h)) fun c es el h => ?_
  rw [l6 hk] at h
  cases ek : es.lookup k with
  | none => rw [ek] at h; exact False.elim h
  | some ea0 =>
    rw [ek] at h
    cases ea0 with
    | own b ds => exact False.elim h
    | val d1 =>
      replace h : Ok ((evI K.g (aV f.ns τ) j).bind fun b => (nK op d1 b).map fun c => _) _ := h
      refine wpAny_AugAssign_SubscriptAny ?_ (oS (by intro _ _ _ _ q; cases q))
      refine co a hd el fun ov rv => jF ?_
      obtain ⟨rfl, kvs, hdct, hlen, kk⟩ := rv
      refine aA (kk k _ ek) fun u' hu hr => ?_
      refine wpAny_getItem_of (knd := PySem.strKind pwP K.w) (k := k) (by simp [PySem.strKind, Value.isStrOf]) (s := { s with toks := s.toks + 1 }) hdct.mapOf hu ?_
      have k0 : Gr s { s with toks := s.toks + 1 + 1 } := .toks _ _
      refine he.ev (a.gr k0) ((aC.mp h).mono fun d2 h v s₁ rv k1 => ?_)
      cases d1 with
      | int i => cases d2 with
        | int j =>
          obtain ⟨t0, rfl⟩ := bw (show Rd 66 s.heap (C.F τ) (.int i) u' from hr)
          obtain ⟨t1, rfl⟩ := bw rv
          rcases hop with rfl | rfl
          · exact P.iadd_int (dY nf a ((k0.trans k1).trans (.toks _ _)) el ek (ea := .val (.int (i + j))) (fun b q => q.elim) (by show Rd _ _ _ _ _; exact au) fun s' a3 st => h _ _ s' (gG hp hk ek) a3 st rfl)
          · exact P.isub_int (dY nf a ((k0.trans k1).trans (.toks _ _)) el ek (ea := .val (.int (i - j))) (fun b q => q.elim) (by show Rd _ _ _ _ _; exact au) fun s' a3 st => h _ _ s' (gG hp hk ek) a3 st rfl)
        | _ => exact False.elim h
      | _ => exact False.elim h⟩
theorem s_unp {es : List Expr} {kk : Nat} {e : Expr} {tp p : Pos} {is : List Nat} {r : IX} (ht : tupT e = false) (l : NP f es is) (h : XOk K f e r) : SOk K f (.Assign [.Tuple es kk tp] e p) (.unp is r) := ⟨fun {C A τ s Q} nf a q =>
  PyProof.Rows.Assign_Tuple (h.run nf a ((aC.mp q).mono fun x q τ₁ v s₁ e a1 st r => lQ (.many l) a1 r (by
    rw [e]
    exact (aq.mp q).mono fun ρ q s' e a' st' => q _ _ s' e a' (st.trans st') rfl))) vU (rL ht)⟩
end
end Mine
namespace Mine
open PySem PySem.Calls PyProof.Rows
section
variable {K : Cfg} {f : FX} {C : Cx} {A : Around} {τ : aQ} {s s' : Shared} {rc : Addr}
theorem get?_size' (h : Heap) : h.get? h.objs.size = none := Heap.get?_none_of_le (Nat.le_refl _)
theorem s_set {x : Str} {e : Expr} {p1 p : Pos} {i : Nat} {r : IX} (hi : f.sto x = some i) (hb : ∀ env : Env, swapsWith e (some (.Name x p1)) p.line env = pure false) (h : XOk K f e r) : SOk K f (.Assign [.Name x p1] e p) (.set i r) := ⟨fun {C A τ s Q} nf a q => by
  obtain ⟨hs, hp⟩ := cO hi
  refine wpAny_Assign_Name (h.run nf a ((aq.mp q).mono fun z q τ₁ v s₁ e a1 st r => ?_)) (hb _)
  exact c9 a1 (a.sc ▸ hs) r fun s' a' st' => q _ _ s' (by rw [bG hp, e]; rfl) a' (st.trans st') rfl⟩
theorem uG {x : Str} {elt t iter : Expr} {ifs : List Expr} {scope : Scope} {cp p1 p : Pos} {i : Nat} {j : IE} (hi : f.sto x = some i) (he : EP K f (.ListComp elt [⟨t, iter, ifs, 0⟩] scope cp) j) (hc : CompP K f elt t iter ifs scope j) :
    SOk K f (.Assign [.Name x p1] (.ListComp elt [⟨t, iter, ifs, 0⟩] scope cp) p) (.set i (.e j)) := ⟨fun {C A τ s Q} nf a q => by
  obtain ⟨hs, hp⟩ := cO hi
  replace q : Ok ((evI K.g (aV f.ns τ) j).map _) _ := aq.mp q
  replace q := aq.mp q
  obtain ⟨bb, hb⟩ : ∃ b, swapsWith (.ListComp elt [⟨t, iter, ifs, 0⟩] scope cp) (some (.Name x p1)) p.line C.env = pure b := ⟨_, rfl⟩
  cases bb with
  | false => exact wpAny_Assign_Name (he.ev a (q.mono fun d q v s₁ r k => c9 (a.gr k) (a.sc ▸ hs) r fun s' a' st => q _ _ s' (bG hp _ _) a' ((Step.grow k.grow).trans st) rfl)) hb
  | true =>
    obtain ⟨h2, h5⟩ := hc.run (pos := cp) (RR := compPost K.M A Bad (some (assign (.Name x p1) C.env)) (fun Z s' => Q .next s')) a (q.mono fun d q L s' D k n1 ns r => by
        obtain ⟨m, ns⟩ := ns
        let G' : aR := fun b => C.F₀ b ∨ b = L
        have ntL : NT s'.heap L := .ns ns
        have R' : Rel pwP K.w 66 (C.withF G') τ s' := a.rel.growF (G := G') k (fun b q => by
          rcases q with q | q
          · exact .inl q
          · exact .inr (q ▸ n1)) fun b q => by
          rcases q with q | q
          · exact (a.nt b (.inl q)).grow (k.grow b)
          · exact q ▸ ntL
        have a' : At K f (C.withF G') A τ s' := ⟨a.ok.withF, a.hB, R', a.room, a.fra, a.sc⟩
        have r' : Rd 66 s'.heap ((C.withF G').F τ) d (.ref D) := r.less fun b q => by
          rcases q with (q | q) | q
          · exact .inl (.inl q)
          · exact .inr q
          · exact .inl (.inr q)
        show wpAny K.M A (assign (.Name x p1) C.env (.ref D)) _ Bad s'
        refine wpAny_assign_Name (c9 (C := C.withF G') a' (a.sc ▸ hs) r' fun s'' a'' st => ?_)
        have nML : ¬ C.M τ L := fun q => R'.off0 L (.inr rfl) q
        have ns'' : s''.heap.Ns L m := ns.at' fun o e => st.agree L o nML e
        refine ⟨m, ns'', fun h' hs' => ?_⟩
        have fr := a.rel.fresh n1
        have ag : aU (fun b => b = L) s''.heap h' := fun b o nb e => by rw [hs'.2 b nb]; exact e
        have Rn := a''.rel.dead (G := C.F₀) (W := fun b => b = L) (h' := h') (tk := s''.toks) ag (fun b q => .inr q) (fun b q => by cases q; exact fr.2) (fun b Z y e => absurd e (nf y)) (fun b q => .inl q) (fun b q => by
          have nW : ¬ b = L := fun z => by
            obtain ⟨o, e, _⟩ := a.nt b (.inl q)
            rw [z, n1] at e; exact nS e
          exact (a''.nt b (.inl (.inl q))).grow fun o e => ag b o nW e)
        have stp : Step C τ s.heap (aS x (.val d) τ) s''.heap := (Step.grow k.grow).trans ⟨st.agree, st.turn, st.pins⟩
        exact q _ _ _ (bG hp _ _) ⟨a.ok, a.hB, Rn, a.room, a.fra, a.sc⟩ (stp.dead ag fun b q => by cases q; exact n1) rfl)
    rw [exec_Assign_Name_used _ _ _ _ hb]
    refine wpAny_bind (wpAny_standAt (wpAny_bind ?_))
    show wpAny _ A (do let _ ← comprehension (.ListComp elt [⟨t, iter, ifs, 0⟩] scope cp) scope C.env _ (newList []) false (eval iter C.env) (some (assign (.Name x p1) C.env))) _ _ s
    refine wpAny_bind (wpAny_mono (wpAny_comprehension_free (use := some (assign (.Name x p1) C.env)) (Q := fun Z s' => Q .next s') rfl (fun x => fZ hc.ns x) h2 hc.kd hc.nm h5) (fun Z s' hq => wpAny_pure (wpAny_pure hq)) fun Z Z e => e)⟩
theorem s_nil {x : Str} {lp p1 p : Pos} {i : Nat} (hi : f.sto x = some i) : SOk K f (.Assign [.Name x p1] (.List [] lp) p) (.nil i) := ⟨fun {C A τ s Q} nf a q => by
  obtain ⟨hs, hp⟩ := cO hi
  refine wpAny_Assign_Name (wpAny_List_spliced (wpAny_items_nil ⟨Nat.zero_le _, ?_⟩)) rfl
  exact nP (b := s.heap.objs.size) (ds := []) (vs := #[]) (F := C.F τ) a (.push _ _ _) (a.sc ▸ hs) ⟨0, Heap.get?_push_size _ rfl⟩ (Nat.zero_le _) (by rfl) rfl (get?_size' _) fun s' a' st => q _ _ s' (bG hp _ _) a' st rfl⟩
theorem s_lst (W : Lw K) {x g : Str} {e : Expr} {fp p1 cp p : Pos} {i : Nat} {j : IE} (hi : f.sto x = some i) (hg : f.glob g = true) (hl : g = ("list" : Str)) (hst : ∀ x p, e ≠ .Starred x p) (he : EP K f e j) : SOk K f (.Assign [.Name x p1] (.Call (.Name g fp) [e] [] cp) p) (.lst i j) := ⟨fun {C A τ s Q} nf a q => by
  obtain ⟨hs, hp⟩ := cO hi
  have hz'' : aF ≤ sizeLine := aa
  refine wpAny_Assign_Name (wpAny_Call_NameR (ld_bi W (b := .list) a hg (by subst hl; rfl) (by intro q; cases q) ?_)) rfl
  refine bM (P := fun Z => True) (fun e' m => by
    have : e' = e := by simpa using m
    subst this; exact hst) (cI kg) ?_
  refine wpAny_items_cons (he.pk a ((aC.mp q).mono fun d q v s₁ rv Z k1 => wpAny_items_nil ⟨trivial, ?_⟩)) (de hst)
  refine (aq.mp q).out fun xs e0 q => ?_
  refine aA (Option.bind_eq_some_iff.mp e0) fun ys h2 e3 => ?_
  cases h3 : flatAll ys with
  | false => rw [h3] at e3; exact nS e3
  | true =>
    rw [h3] at e3; cases e3
    refine tI (gv h2 rv) fun b T' o us m e5_ hT ho hcl hd hz hr => ?_; obtain rfl := e5_
    refine call_list_seq b hT ho hcl hd (fun h' c' k hg => ?_) (by rw [List.size_toArray]; exact nle (by assumption) (by decide))
    have k' : Gr s { s₁ with heap := h' } := k1.trans ⟨k, rfl, rfl⟩
    refine nP (b := s₁.heap.objs.size) (ds := xs) (vs := us.toArray) (F := C.F τ) a k' (a.sc ▸ hs) ⟨c', hg⟩ (by simpa using hz) (by simpa using hr.grow k) h3 ?_ fun s' a' st => q _ _ s' (bG hp _ _) a' st rfl
    cases q : s.heap.get? s₁.heap.objs.size with
    | none => rfl
    | some o' => have := k1.grow _ _ q; rw [get?_size'] at this; exact nS this⟩
theorem s_mov {x y k : Str} {yp kp p1 sp p : Pos} {u : Nat} {i w m : Nat} (hi : f.sto x = some i) (hy : f.at y = some w) (hk : pos bZ k 0 = some m) : SOk K f (.Assign [.Name x p1] (.Subscript (.Name y yp) (.Constant (.str k) u kp) sp) p) (.mov i w m) := ⟨fun {C A τ s Q} nf a q => by
  obtain ⟨hs, hp⟩ := cO hi
  obtain ⟨hp2, hd⟩ := bp hy
  refine bY (gc hp2 (aC.mp q)) fun c es e2 q => ?_
  rw [l6 hk] at q
  cases ek : es.lookup k with
  | none => rw [ek] at q; exact False.elim q
  | some ea =>
  rw [ek] at q
  cases ea with
  | val d => exact wpAny_Assign_Name (jG a hd e2 ek fun v s₁ g r => c9 (a.gr g) (a.sc ▸ hs) (show Rd 66 s₁.heap (C.F τ) d v from r) fun s' a' st => q _ _ s' (bG hp _ _) a' ((Step.grow g.grow).trans st) rfl) rfl
  | own b ds =>
  have R' : Rel pwP K.w 66 C (aS y (.dct c (aS k (.val (.list ds)) es)) τ) s := a.rel.recast fun z av' q => by
    rw [aG] at q
    by_cases hz : z = y
    · rw [if_pos hz] at q; obtain rfl := Option.some.inj q
      subst hz
      refine ⟨_, e2, rfl, fun k' ea' q => ?_⟩
      rw [aG] at q
      by_cases hk : k' = k
      · rw [if_pos hk] at q; obtain rfl := Option.some.inj q
        subst hk
        exact ⟨_, ek, rfl⟩
      · rw [if_neg hk] at q
        refine ⟨_, q, ?_⟩
        cases ea' with
        | val d => exact rfl
        | own b ds => exact ⟨rfl, rfl⟩
    · rw [if_neg hz] at q
      refine ⟨_, q, ?_⟩
      cases av' with
      | val d => exact rfl
      | own b ds => exact ⟨rfl, rfl⟩
      | dct b es => exact ⟨rfl, fun k' ea' q => ⟨_, q, by
          cases ea' with
          | val d => exact rfl
          | own b ds => exact ⟨rfl, rfl⟩⟩⟩
  have a' : At K f C A (aS y (.dct c (aS k (.val (.list ds)) es)) τ) s := ⟨a.ok, a.hB, R', a.room, a.fra, a.sc⟩
  refine wpAny_Assign_Name (jG a' hd (by rw [aG, if_pos rfl]) (by rw [aG, if_pos rfl]) fun v s₁ k1 r => ?_) rfl
  have r' : Rd 66 s₁.heap (C.F (aS y (.dct c (aS k (.val (.list ds)) es)) τ)) (.list ds) v := r
  have st0 : Step C τ s.heap (aS y (.dct c (aS k (.val (.list ds)) es)) τ) s₁.heap := by
    refine ⟨(Step.grow (τ := τ) (C := C) k1.grow).agree, bu.sub fun b q => q.imp id fun z => ?_, gj.same e2 rfl⟩
    refine bY z fun z av' q hb => ?_; try clear z
    rw [aG] at q
    by_cases hz : z = y
    · rw [if_pos hz] at q; obtain rfl := Option.some.inj q
      rcases hb with hb | ⟨k', ea', q, hb⟩
      · exact ⟨y, _, e2, .inl hb⟩
      · rw [aG] at q
        by_cases hk : k' = k
        · rw [if_pos hk] at q; obtain rfl := Option.some.inj q; exact hb.elim
        · rw [if_neg hk] at q; exact ⟨y, _, e2, .inr ⟨k', ea', q, hb⟩⟩
    · rw [if_neg hz] at q; exact ⟨z, _, q, hb⟩
  exact c9 (a'.gr k1) (a.sc ▸ hs) r' fun s' a2 st => q _ _ s' (by rw [bG hp, gG hp2 hk ek]; rfl) a2 (st0.trans st) rfl⟩
theorem sE {x : Str} {pos : Pos} {d : D} {s₁ : Shared} {Q : Value → Shared → Prop} (a : At K f C A τ s) (k : Gr s s₁) (hd : eH x = false) (e : τ.lookup x = some (.val d)) (h : ∀ v, Rd 66 s.heap (C.F τ) d v → Q v s₁) :
    wpAny (K.M) A (eval (.Name x pos) C.env) Q Bad s₁ := by
  refine aA a.rel.ns fun m hn hv => ?_
  refine aA (hv x _ e) fun v h1 h2 => ?_
  refine wpAny_Name ?_ (gt hd)
  rcases h1 with ⟨k', hm⟩ | ⟨k', c, hc, hcell⟩
  · exact wpAny_loadName_local a.ok.kind (a.ok.loc x k') (hn.at' (k.grow _)) hm (h v h2)
  · have kk : C.env.kindOf x = some .cell := by
      rcases k' with k' | k'
      · exact (a.ok.cell x k').1
      · exact (a.ok.free x k').1
    refine aA hcell fun o h3 h4 => ?_; try clear hcell
    exact wpAny_loadName_cell a.ok.kind kk hc ⟨o, k.grow _ _ h3, h4⟩ (h v h2)

inductive Dis (rc : Addr) (F : aR) (h₀ : Heap) (h : Heap) : Heap → List (Str × EA) → List (Str × Value) → Prop
  | nil {h₁} : Dis rc F h₀ h h₁ [] []
  | val {h₁ k d v r q} : (bf d = true ∧ Rd rc h F d v ∨ Rd rc h₀ F d v) → Dis rc F h₀ h h₁ r q → Dis rc F h₀ h h₁ ((k, .val d) :: r) ((k, v) :: q)
  | own {h₁ h₂ k b r q} : h₁.get? b = none → (∃ o, h₂.get? b = some o) → bD h₁ h₂ → h.PlainList b #[] → Dis rc F h₀ h h₂ r q → Dis rc F h₀ h h₁ ((k, .own b []) :: r) ((k, .ref b) :: q)

theorem Dis.low {F : aR} {h₀ h h₁ h₂ : Heap} {es : List (Str × EA)} {kvs : List (Str × Value)} (x : Dis rc F h₀ h h₂ es kvs) (k : bD h₁ h₂) : Dis rc F h₀ h h₁ es kvs := by
  induction x with
  | nil => exact .nil
  | val a _ ih => exact .val a (ih k)
  | @own h₁' _ _ b _ _ a c d e f _ =>
    refine .own ?_ c (k.trans d) e f
    cases q : h₁.get? b with
    | none => rfl
    | some o => rw [k _ _ q] at a; exact sN a

noncomputable def zk (rc : Addr) (F : aR) (h₀ h h₁ : Heap) (u : Value) : EA → Prop
  | .val d => bf d = true ∧ Rd rc h F d u ∨ Rd rc h₀ F d u
  | .own b ds => u = .ref b ∧ ds = [] ∧ h₁.get? b = none ∧ h.PlainList b #[]

theorem zk.low {F : aR} {h₀ h h₁ h₂ : Heap} {u : Value} (k : bD h₁ h₂) : ∀ {ea : EA}, zk rc F h₀ h h₂ u ea → zk rc F h₀ h h₁ u ea
  | .val _, x => x
  | .own b _, ⟨a, c, d, e⟩ => by
    refine ⟨a, c, ?_, e⟩
    cases q : h₁.get? b with
    | none => exact rfl
    | some o => rw [k _ _ q] at d; exact sN d

theorem Dis.get {F : aR} {h₀ h h₁ : Heap} {es : List (Str × EA)} {kvs : List (Str × Value)} (x : Dis rc F h₀ h h₁ es kvs) : ∀ k ea, es.lookup k = some ea → ∃ u, valueAt kvs k = some u ∧ zk rc F h₀ h h₁ u ea := by
  induction x with
  | nil => intro k ea q; exact nS q
  | @val h₁ k' d v r q a _ ih =>
    intro k ea e
    rw [List.lookup_cons] at e
    by_cases hk : k = k'
    · subst hk
      simp at e; subst e
      exact ⟨v, by simp [valueAt], a⟩
    · rw [show (k == k') = false by simpa using hk] at e
      refine aA (ih k ea e) fun u h1 h2 => ?_
      refine ⟨u, ?_, h2⟩
      unfold valueAt at h1 ⊢
      rw [List.find?_cons_of_neg (by simpa using fun z => hk z.symm)]; exact h1
  | @own h₁ h₂ k' b r q a c g e f ih =>
    intro k ea e'
    rw [List.lookup_cons] at e'
    by_cases hk : k = k'
    · subst hk
      simp at e'; subst e'
      exact ⟨.ref b, by simp [valueAt], rfl, rfl, a, e⟩
    · rw [show (k == k') = false by simpa using hk] at e'
      refine aA (ih k ea e') fun u h1 h2 => ?_
      refine ⟨u, ?_, h2.low g⟩
      unfold valueAt at h1 ⊢
      rw [List.find?_cons_of_neg (by simpa using fun z => hk z.symm)]; exact h1

theorem Dis.fresh {F : aR} {h₀ h h₁ : Heap} {es : List (Str × EA)} {kvs : List (Str × Value)} (x : Dis rc F h₀ h h₁ es kvs) {k : Str} {ea : EA} {b : Addr} (e : es.lookup k = some ea) (hb : ea.has b) : h₁.get? b = none := by
  refine aA (x.get k ea e) fun u Z h2 => ?_
  cases ea with
  | val d => exact hb.elim
  | own c ds => cases (show b = c from hb); exact h2.2.2.1

theorem Dis.apart {F : aR} {h₀ h h₁ : Heap} {es : List (Str × EA)} {kvs : List (Str × Value)} (x : Dis rc F h₀ h h₁ es kvs) : ∀ k k' ea ea' b, es.lookup k = some ea → es.lookup k' = some ea' → ea.has b → ea'.has b → k = k' := by
  induction x with
  | nil => intro k k' ea ea' b q; exact nS q
  | @val h₁ k0 d v r q a _ ih =>
    intro k k' ea ea' b e e' hb hb'
    rw [List.lookup_cons] at e e'
    split at e
    · obtain rfl := Option.some.inj e; exact hb.elim
    · split at e'
      · obtain rfl := Option.some.inj e'; exact hb'.elim
      · exact ih k k' ea ea' b e e' hb hb'
  | @own h₁ h₂ k0 b0 r q a c g' pl f ih =>
    intro k k' ea ea' b e e' hb hb'
    rw [List.lookup_cons] at e e'
    obtain ⟨o, c⟩ := c
    split at e
    · rename_i hk
      obtain rfl := Option.some.inj e
      cases (show b = b0 from hb)
      split at e'
      · rename_i hk'
        exact (by simpa using hk : k = k0).trans (by simpa using hk' : k' = k0).symm
      · have := f.fresh e' hb'
        rw [c] at this; exact sN this
    · split at e'
      · obtain rfl := Option.some.inj e'
        cases (show b = b0 from hb')
        have := f.fresh e hb
        rw [c] at this; exact sN this
      · exact ih k k' ea ea' b e e' hb hb'

theorem Dis.keys {F : aR} {h₀ h h₁ : Heap} {es : List (Str × EA)} {kvs : List (Str × Value)} (x : Dis rc F h₀ h h₁ es kvs) : kvs.map (·.1) = es.map (·.1) := by
  induction x with
  | nil => rfl
  | val _ _ ih => simp [ih]
  | own _ _ _ _ _ ih => simp [ih]


inductive VP (K : Cfg) (f : FX) : Expr → IV → Prop where
  | nil {p} : VP K f (.List [] p) .nil
  | nm {y p i} : f.at y = some i → VP K f (.Name y p) (.nm i)
  | e {v i} : EP K f v i → VP K f v (.e i)
inductive DP (K : Cfg) (f : FX) : List (Option Expr) → List Expr → List (Nat × IV) → List Str → Prop where
  | nil : DP K f [] [] [] []
  | cons {k u kp j v a ks vs r ns} : pos bZ k 0 = some j → VP K f v a → DP K f ks vs r ns → (lk j r).isNone = true → DP K f (some (.Constant (.str k) u kp) :: ks) (v :: vs) ((j, a) :: r) (k :: ns)
theorem DP.mem {ks : List (Option Expr)} {vs : List Expr} {r : List (Nat × IV)} {ns : List Str} (h : DP K f ks vs r ns) {k : Str} {j : Nat} (hk : pos bZ k 0 = some j) : k ∈ ns → (lk j r).isSome = true := by
  induction h with
  | nil => intro m; cases m
  | @cons k' u kp j' v a ks vs r ns hj _ _ _ ih =>
    intro m
    show (bif j == j' then some a else lk j r).isSome = true
    cases q : j == j' with
    | true => rfl
    | false =>
      refine ih ((List.mem_cons.mp m).resolve_left fun e => ?_)
      subst e
      rw [hk] at hj; obtain rfl := Option.some.inj hj
      simp at q
theorem DP.shape {ks : List (Option Expr)} {vs : List Expr} {r : List (Nat × IV)} {ns : List Str} (h : DP K f ks vs r ns) : ks.all (·.isSome) = true ∧ ks.length = vs.length ∧ ns.length = ks.length ∧ ns.Nodup := by
  induction h with
  | nil => exact ⟨rfl, rfl, rfl, List.nodup_nil⟩
  | @cons k' u kp j' v a ks vs r ns hj _ hd hn ih =>
    refine wC ih fun a1 a2 a3 a4 => ?_; try clear ih
    refine ⟨by simpa using a1, congrArg (· + 1) a2, congrArg (· + 1) a3, List.nodup_cons.mpr ⟨fun m => ?_, a4⟩⟩
    have := hd.mem hj m
    cases q : lk j' r with
    | none => rw [q] at this; exact fT this
    | some _ => rw [q] at hn; exact fT hn
theorem sS {p : Pos} (a : At K f C A τ s) {ks : List (Option Expr)} {vs : List Expr} {is : List (Nat × IV)} {ns : List Str} (h : DP K f ks vs is ns) : ∀ {s₁ : Shared} {Q : List (Value × Value) → Shared → Prop}, Gr s s₁ →
    Ok (jU K.g (aV f.ns τ) is) (fun es => ∀ l kvs es' s₂, Carries (PySem.strKind pwP K.w) l kvs → Dis 66 (C.F τ) s.heap s₂.heap s₁.heap es' kvs → erD es' = es → es'.map (·.1) = ns → Gr s₁ s₂ → Q l s₂) →
    wpAny K.M A (evalPairs (pairTrees ks vs C.env p)) Q Bad s₁ := by
  induction h with
  | nil => exact fun k0 q => pairTrees_nil_walk (q _ _ _ _ (show Carries _ [] [] from trivial) .nil rfl rfl (.refl _))
  | @cons k u kp j v x ks vs r ns hj hv _ _ ih =>
    intro s₁ Q k0 q
    replace q : Ok ((evV K.g (aV f.ns τ) x).bind fun z => (jU K.g (aV f.ns τ) r).map ((j, z) :: ·)) _ := q
    refine pairTrees_cons_walk (jF ?_)
    have k1 : Gr s₁ { s₁ with toks := s₁.toks + 1 } := .toks _ _
    have car : ∀ {t : Nat} {v : Value} {l : List (Value × Value)} {kvs : List (Str × Value)}, Carries (PySem.strKind pwP K.w) l kvs → Carries (PySem.strKind pwP K.w) ((.str k t, v) :: l) ((k, v) :: kvs) := fun h => show Carries _ (_ :: _) (_ :: _) from ⟨by simp [PySem.strKind, Value.isStrOf], rfl, h⟩
    have er : ∀ {ea : EA} {es' : List (Str × EA)}, erD ((k, ea) :: es') = (j, ea.er) :: erD es' := fun {ea es'} => by
      show ((k, ea) :: es').filterMap _ = _
      rw [List.filterMap_cons, hj]; rfl
    cases hv with
    | nil =>
      refine wpAny_List_spliced (wpAny_items_nil ⟨Nat.zero_le _, ?_⟩)
      have k2 : Gr { s₁ with toks := s₁.toks + 1 } { s₁ with heap := s₁.heap.push { cls := .type "list", data := .seq ([] : List Value).toArray }, toks := s₁.toks + 1 } := .push _ _ _
      have k12 := k1.trans k2
      have hg := Heap.get?_push_size s₁.heap (o := { cls := .type "list", data := .seq ([] : List Value).toArray }) rfl
      exact ih (k0.trans k12) ((aq (X := jU K.g (aV f.ns τ) r)).mp q |>.mono fun es q l kvs es' s₃ hcar hd he hn k3 => q _ _ ((k, .own s₁.heap.objs.size []) :: es') _ (car hcar) (.own (get?_size' _) ⟨_, hg⟩ k12.grow ⟨0, k3.grow _ _ hg⟩ hd) (by rw [er, he]; rfl) (congrArg (k :: ·) hn) (k12.trans k3))
    | @nm y p i hy =>
      obtain ⟨hp, hdb⟩ := bp hy
      replace q := aC.mp q
      replace q : Ok ((yu (aV f.ns τ i)).map EV.val) _ := q
      rw [dI hp] at q
      cases e2 : τ.lookup y with
      | none => rw [e2] at q; exact False.elim q
      | some av =>
        rw [e2] at q
        cases av with
        | own b ds => exact False.elim q
        | dct b es => exact False.elim q
        | val d =>
          refine sE a (k0.trans k1) hdb e2 fun v rv => ?_
          exact ih (k0.trans k1) ((aq (X := jU K.g (aV f.ns τ) r)).mp q |>.mono fun es q l kvs es' s₃ hcar hd he hn k3 => q _ _ _ _ (car hcar) (.val (d := d) (.inr rv) (hd.low k1.grow)) (by rw [er, he]; rfl) (congrArg (k :: ·) hn) (k1.trans k3))
    | @e v i hv =>
      replace q := aC.mp q
      replace q : Ok ((evI K.g (aV f.ns τ) i).bind fun d => bif bf d then some (EV.val d) else none) _ := q
      refine hv.ev (a.gr (k0.trans k1)) ((aC.mp q).mono fun d q v s₂ rv k2 => ?_)
      cases hf : bf d with
      | false => rw [hf] at q; exact False.elim q
      | true =>
        rw [hf] at q
        exact ih ((k0.trans k1).trans k2) ((aq (X := jU K.g (aV f.ns τ) r)).mp q |>.mono fun es q l kvs es' s₃ hcar hd he hn k3 => q _ _ _ _ (car hcar) (.val (d := d) (.inl ⟨hf, rv.grow k3.grow⟩) (hd.low (k1.trans k2).grow)) (by rw [er, he]; rfl) (congrArg (k :: ·) hn) ((k1.trans k2).trans k3))
theorem s_dct {x : Str} {ks : List (Option Expr)} {vs : List Expr} {is : List (Nat × IV)} {ns : List Str} {dp p1 p : Pos} {i : Nat} (hi : f.sto x = some i) (h0 : 0 < ks.length) (h10 : ks.length ≤ 10) (h : DP K f ks vs is ns) : SOk K f (.Assign [.Name x p1] (.Dict ks vs dp) p) (.dct i is) := ⟨fun {C A τ s Q} nf a q => by
  obtain ⟨hs, hp⟩ := cO hi
  refine wC h.shape fun hall hlen hlen2 hnd => ?_
  have k0 : Gr s { s with heap := s.heap.push { cls := .type "dict", data := .dict #[] } } := .push _ _ _
  refine wpAny_Assign_Name (wpAny_Dict_walk (knd := PySem.strKind pwP K.w) hall hlen (by rintro rfl; simp at h0) (by exact nle (by assumption) (by decide)) (sS a h k0 ((aq.mp q).mono fun es q l kvs es' s₁ hcar hd hes hns k1 => ?_))) rfl
  refine nv (Heap.DictOf.new (knd := PySem.strKind pwP K.w) s.heap) fun o es1 ep g1 g2 => ?_
  refine ⟨kvs, hcar, ⟨o, es1, ep, k1.grow _ _ g1, g2⟩, fun h' hdct hsame => ?_⟩
  have hkeys : kvs.map (·.1) = es'.map (·.1) := hd.keys
  rw [merged_nil_of_nodup kvs (by rw [hkeys, hns]; exact hnd)] at hdct
  have nD : s.heap.get? s.heap.objs.size = none := get?_size' _
  have g1' : (s.heap.push { cls := .type "dict", data := .dict #[] }).get? s.heap.objs.size = some o := g1
  have k2 : Gr s { s₁ with heap := h', toks := s₁.toks + l.length } := by
    refine ⟨fun b o' e => ?_, (k0.trans k1).gens, (k0.trans k1).os⟩
    show h'.get? b = some o'
    rw [hsame.2 b fun z => ?_]
    · exact (k0.trans k1).grow _ _ e
    · rw [z, nD] at e; exact nS e
  have neD : ∀ {k ea b}, es'.lookup k = some ea → ea.has b → b ≠ s.heap.objs.size := fun e hb z => by
    have := hd.fresh e hb
    rw [z] at this
    rw [show ({ s with heap := s.heap.push { cls := .type "dict", data := .dict #[] } } : Shared).heap.get? s.heap.objs.size = some o from g1] at this
    exact sN this
  have frs : ∀ {k ea b}, es'.lookup k = some ea → ea.has b → s.heap.get? b = none := fun {k ea b} e hb => by
    cases q : s.heap.get? b with
    | none => rfl
    | some o => have := hd.fresh e hb; rw [k0.grow _ _ q] at this; exact sN this
  have fresh : ∀ b, (AV.dct s.heap.objs.size es').has b → s.heap.get? b = none := fun b q => by
    rcases q with q | ⟨k, ea, e, hb⟩
    · rw [q]; exact nD
    · exact frs e hb
  have pl : ∀ {k b ds}, es'.lookup k = some (.own b ds) → ds = [] ∧ s₁.heap.PlainList b #[] := fun {k b ds} e => by
    refine aA (hd.get k _ e) fun u Z hu => ?_
    exact ⟨hu.2.1, hu.2.2.2⟩
  have nt1 := tJ (x := x) (av := .dct s.heap.objs.size es') a (k0.trans k1) fun b q => by
    rcases q with q | ⟨k, ea, e, hb⟩
    · rw [q]; exact ⟨o, k1.grow _ _ g1, .inr fun vs n e => by rw [g2.2.1] at e; cases e⟩
    · cases ea with
      | val d => exact hb.elim
      | own c ds => cases (show b = c from hb); exact .list (pl e).2.isList
  have FD : C.F (aS x (.dct s.heap.objs.size es') τ) s.heap.objs.size := .inr (.inr ⟨x, _, by rw [aG, if_pos rfl], show AV.has _ (.dct _ _) from .inl rfl⟩)
  have ag : aU (C.F (aS x (.dct s.heap.objs.size es') τ)) s₁.heap h' := fun b o nb e => by rw [hsame.2 b fun z => nb (z ▸ FD)]; exact e
  have tn : bu (C.F τ) s.heap (C.F (aS x (.dct s.heap.objs.size es') τ)) := fun b q => by
    rcases q with q | q | q
    · exact .inl (.inl q)
    · exact .inl (.inr (.inl q))
    · rcases cB q with z | ⟨y, a', _, e', h'⟩
      · exact .inr (fresh b z)
      · exact .inl (.inr (.inr ⟨y, a', e', h'⟩))
  refine pd (av := .dct s.heap.objs.size es') a k2 (a.sc ▸ hs) ⟨rfl, kvs, hdct, ?_, fun k ea e => ?_⟩ ⟨fun k ea e hb => neD e hb rfl, hd.apart⟩ fresh fun s' a' st => q _ _ s' (by rw [bG hp, ← hes]; rfl) a' st rfl
  · have := congrArg List.length (hkeys.trans hns)
    simp at this hlen2
    (lia -abstractProof)
  · refine aA (hd.get k ea e) fun u h1 h2 => ?_
    refine ⟨u, h1, ?_⟩
    cases ea with
    | val d =>
      rcases h2 with ⟨hf, rv⟩ | rv
      · exact Rd.step ag (.refl _ _) d u (rv.flatten nt1 d u hf)
      · exact Rd.step (k2.grow.agree _) tn d u rv
    | own b ds =>
      obtain ⟨rfl, hp⟩ := pl e
      refine ⟨h2.1, #[], ?_, Nat.zero_le _, rfl, rfl⟩
      obtain ⟨m, hp⟩ := hp
      exact ⟨m, by rw [hsame.2 b (neD e rfl)]; exact hp⟩⟩
end
end Mine
namespace Mine
open PySem PySem.Calls PyProof.Rows
section
variable {K : Cfg} {f : FX}
theorem i6 {e : Expr} {i : IE} (h : trE txP f e = some i) : ∀ x p, e ≠ .Starred x p := by
  rintro x p rfl
  exact nS h
theorem jH {e : Expr} {j : Nat} (h : n6 e = some j) : ∃ k u p, e = .Constant (.str k) u p ∧ pos bZ k 0 = some j := by
  cases e with
  | Constant c u p => cases c with
    | str k => exact ⟨_, _, _, rfl, h⟩
    | _ => exact nS h
  | _ => exact nS h
theorem trV_ok (W : Lw K) (v : Expr) : Al (trV txP f v) (VP K f v) := by
  have d : ∀ e, trV txP f e = (trE txP f e).map .e → Al (trV txP f e) (VP K f e) := fun e h => Al.eq h (Al.map ((ae W e f).1.mono fun i h => .e h))
  cases v with
  | List es p => cases es with
    | nil => exact .nil
    | cons _ _ => exact d _ rfl
  | Name y p =>
    cases h : f.at y with
    | some i => exact Al.eq (show (match f.at y with | some i => some (IV.nm i) | none => (trE txP f (.Name y p)).map .e) = some (.nm i) by rw [h]) (.nm h)
    | none => exact d _ (show (match f.at y with | some i => some (IV.nm i) | none => (trE txP f (.Name y p)).map .e) = _ by rw [h])
  | _ => exact d _ rfl
theorem vN (W : Lw K) : ∀ (ks : List (Option Expr)) (vs : List Expr), Al (trD txP f ks vs) fun is => ∃ ns, DP K f ks vs is ns
  | [], [] => ⟨[], .nil⟩
  | [], _ :: _ => trivial
  | none :: _, vs => by cases vs <;> exact trivial
  | some k :: _, [] => trivial
  | some k :: ks, v :: vs => Al.bind (Al.of fun j hj => Al.bind ((trV_ok W v).mono fun a ha => Al.bind ((vN W ks vs).mono fun r hr => Al.guard fun hn => by
      refine nv (jH hj) fun k' u p e3_ hk => ?_; obtain rfl := e3_
      obtain ⟨ns, hr⟩ := hr
      exact ⟨k' :: ns, .cons hk ha hr hn⟩)))
theorem t8 {e : Expr} {x : Str} {p1 : Pos} {l : Nat} (h : ∀ elt gens sc p, e ≠ .ListComp elt gens sc p) (h2 : ∀ elt gens sc p, e ≠ .SetComp elt gens sc p) (h3 : ∀ k v gens sc p, e ≠ .DictComp k v gens sc p) (env : Env) : swapsWith e (some (.Name x p1)) l env = pure false := by
  cases e <;> first | rfl | exact absurd rfl (h _ _ _ _) | exact absurd rfl (h2 _ _ _ _) | exact absurd rfl (h3 _ _ _ _ _)
theorem rO (W : Lw K) (IK : IoOK K) {x : Str} {e : Expr} {p1 p : Pos} {i : Nat} (hi : f.sto x = some i) : Al ((trX txP f e).map (.set i)) (SOk K f (.Assign [.Name x p1] e p)) := by
  by_cases hc : ∃ elt gs sc cp, e = .ListComp elt gs sc cp
  · refine iI hc fun elt gs sc cp e4_ => ?_; obtain rfl := e4_
    refine Al.map (Al.of fun r h => ?_)
    refine aA (Option.map_eq_some_iff.mp (show (trE txP f (.ListComp elt gs sc cp)).map IX.e = some r from h)) fun j hj e2_ => ?_; obtain rfl := e2_
    have t := ae W (.ListComp elt gs sc cp) f
    refine nv (t.2.comp _ _ _ _ _ rfl hj) fun t' it ifs e3_ cpp => ?_; obtain rfl := e3_
    exact uG hi (t.1.get hj) cpp
  · refine Al.map (Al.of fun r h => s_set hi (t8 (fun a b c d q => hc ⟨a, b, c, d, q⟩) ?_ ?_) ((ib W IK e).get h))
    · rintro a b c d rfl; exact nS h
    · rintro a b c d g rfl; exact nS h
theorem vR (W : Lw K) (IK : IoOK K) {x : Str} {g : Expr} {as : List Expr} {kw : List Keyword} {q p1 p : Pos} {i : Nat} (hi : f.sto x = some i) : Al (trA txP f i (.Call g as kw q)) (SOk K f (.Assign [.Name x p1] (.Call g as kw q) p)) := by
  have d : ∀ e, trA txP f i e = (trX txP f e).map (.set i) → Al (trA txP f i e) (SOk K f (.Assign [.Name x p1] e p)) := fun e h => Al.eq h (rO W IK hi)
  cases g with
  | Name y q2 => cases as with
    | nil => exact d _ rfl
    | cons a r => cases r with
      | cons _ _ => exact d _ rfl
      | nil => cases kw with
        | cons _ _ => exact d _ rfl
        | nil =>
          cases hq : (f.glob y && y == ("list" : Str)) with
          | true =>
            refine Al.eq (show (bif f.glob y && y == ("list" : Str) then _ else _) = _ by rw [hq] <;> rfl) ?_
            rw [Bool.and_eq_true] at hq
            exact Al.map (Al.of fun j hj => s_lst W hi hq.1 (beq_iff_eq.mp hq.2) (i6 hj) ((ae W a f).1.get hj))
          | false => exact d _ (show (bif f.glob y && y == ("list" : Str) then _ else _) = _ by rw [hq] <;> rfl)
  | _ => exact d _ rfl
theorem x8 (W : Lw K) (IK : IoOK K) {x : Str} {b sl : Expr} {q p1 p : Pos} {i : Nat} (hi : f.sto x = some i) : Al (trA txP f i (.Subscript b sl q)) (SOk K f (.Assign [.Name x p1] (.Subscript b sl q) p)) := by
  have d : ∀ e, trA txP f i e = (trX txP f e).map (.set i) → Al (trA txP f i e) (SOk K f (.Assign [.Name x p1] e p)) := fun e h => Al.eq h (rO W IK hi)
  cases b with
  | Name w q2 => cases sl with
    | Constant c u q3 => cases c with
      | str k => exact Al.bind (Al.of fun w hw => Al.map (Al.of fun m hm => s_mov hi hw hm))
      | _ => exact d _ rfl
    | _ => exact d _ rfl
  | _ => exact d _ rfl
theorem trA_ok (W : Lw K) (IK : IoOK K) {x : Str} {e : Expr} {p1 p : Pos} {i : Nat} (hi : f.sto x = some i) : Al (trA txP f i e) (SOk K f (.Assign [.Name x p1] e p)) := by
  have d : ∀ e, trA txP f i e = (trX txP f e).map (.set i) → Al (trA txP f i e) (SOk K f (.Assign [.Name x p1] e p)) := fun e h => Al.eq h (rO W IK hi)
  cases e with
  | List es q => cases es with
    | nil => exact s_nil hi
    | cons _ _ => exact d _ rfl
  | Call g as kw q => exact vR W IK hi
  | Dict ks vs q =>
    refine Al.guard fun hq => Al.map ((vN W ks vs).mono fun is h => ?_)
    rw [Bool.and_eq_true] at hq
    obtain ⟨ns, h⟩ := h
    exact s_dct hi (Nat.blt_eq.mp hq.1) (Nat.le_of_ble_eq_true hq.2) h
  | Subscript b sl q => exact x8 W IK hi
  | _ => exact d _ rfl
theorem sK {e : Expr} (h : j4 e = true) : ∃ l r p, e = .BinOp l .Add r p := by
  cases e with
  | BinOp l op r p => cases op with
    | Add => exact (ei3 rfl)
    | _ => exact fT h
  | _ => exact fT h
theorem add_tr {l r : Expr} {p : Pos} : trE txP f (.BinOp l .Add r p) = (trE txP f l).bind fun a => (trE txP f r).map fun b => IE.bin .Add a b := rfl
theorem x7 (W : Lw K) {x : Str} {p1 p2 p : Pos} {i e : Expr} : Al (trT txP f (.Subscript (.Name x p1) i p2) e) (SOk K f (.Assign [.Subscript (.Name x p1) i p2] e p)) := by
  refine Al.bind (Al.of fun a ha => ?_)
  cases hk : tT i with
  | true =>
    rw [cond_true]
    refine Al.bind (Al.of fun k hk => Al.map (Al.of fun b hb => ?_))
    obtain ⟨k', u, q, rfl, hk⟩ := jH hk
    cases hf : j4 e with
    | false => exact s_putK ha hk ((ae W e f).1.get hb)
    | true =>
      obtain ⟨l, r, p3, rfl⟩ := sK hf
      rw [add_tr] at hb
      obtain ⟨i, h1, hb⟩ := Option.bind_eq_some_iff.mp hb
      obtain ⟨j, h2, rfl⟩ := Option.map_eq_some_iff.mp hb
      exact s_catK W ha hk ((ae W l f).1.get h1) ((ae W r f).1.get h2)
  | false =>
    rw [cond_false]
    exact Al.bind ((ae W i f).1.mono fun j hj => Al.map ((ae W e f).1.mono fun b hb => s_put ha hj hb))
theorem trT_ok (W : Lw K) (IK : IoOK K) {t e : Expr} {p : Pos} : Al (trT txP f t e) (SOk K f (.Assign [t] e p)) := by
  cases t with
  | Name x p1 => exact Al.bind (Al.of fun i hi => trA_ok W IK hi)
  | Tuple es k q => exact Al.guard fun ht => Al.bind ((lx _).mono fun is l => Al.map ((ib W IK e).mono fun r h => s_unp (by simpa using ht) l h))
  | Subscript b i p2 => cases b with
    | Name x p1 => exact x7 W
    | _ => exact trivial
  | _ => exact trivial
theorem t6 (W : Lw K) {x : Str} {p1 p2 p : Pos} {i e : Expr} {op : Operator} : Al (vQ txP f op e (.Subscript (.Name x p1) i p2)) (SOk K f (.AugAssign (.Subscript (.Name x p1) i p2) op e p)) := by
  refine Al.bind (Al.of fun a ha => ?_)
  cases hk : tT i with
  | true =>
    rw [cond_true]
    refine Al.guard fun hop => Al.bind (Al.of fun k hk => Al.map (Al.of fun b hb => ?_))
    obtain ⟨k', u, q, rfl, hk⟩ := jH hk
    exact s_augK (by cases op <;> first | exact .inl rfl | exact .inr rfl | exact fT hop) ha hk ((ae W e f).1.get hb)
  | false =>
    rw [cond_false]
    clear hk
    cases op with
    | Add => exact Al.bind (Al.of fun j hj => Al.map ((ae W e f).1.mono fun b hb => s_aug W (by rintro lo hi st q rfl; exact nS hj) ha ((ae W i f).1.get hj) hb))
    | _ => exact trivial
theorem vP (W : Lw K) {t e : Expr} {op : Operator} {p : Pos} : Al (vQ txP f op e t) (SOk K f (.AugAssign t op e p)) := by
  cases t with
  | Subscript b i p2 => cases b with
    | Name x p1 => exact t6 W
    | _ => exact trivial
  | _ => exact trivial
theorem uA (o a : Expr) : xh a ∨ trP txP f o a = (trE txP f a).bind fun e => (match o with
    | .Name x _ => (f.at x).map (.app · e)
    | .Subscript (.Name w _) k _ => (f.at w).bind fun i => (n6 k).map (.appK i · e)
    | _ => none) := by
  cases a with
  | Starred x p => exact .inl (ei2 rfl)
  | _ => exact .inr rfl
theorem trP_ok (W : Lw K) {o a : Expr} {apos p2 p : Pos} (hline : (apos.endLine == p2.line) = true) : Al (trP txP f o a) (SOk K f (.Expr (.Call (.Attribute o "append" apos) [a] [] p2) p)) := by
  by_cases hs : xh a
  · refine cY hs fun x q e_ => ?_; obtain rfl := e_
    exact trivial
  · refine Al.eq ((uA o a).resolve_left hs) (Al.bind ((ae W a f).1.mono fun j hj => ?_))
    have hns : ∀ x p, a ≠ .Starred x p := fun x p q => hs ⟨x, p, q⟩
    clear hs
    cases o with
    | Name x q => exact Al.map (Al.of fun i hi => vd hi hj hns hline)
    | Subscript b k q => cases b with
      | Name w q2 =>
        refine Al.bind (Al.of fun i hi => Al.map (Al.of fun m hk => ?_))
        obtain ⟨k', u, q, rfl, hk⟩ := jH hk
        exact rR hi hk hj hns hline
      | _ => exact trivial
    | _ => exact trivial
noncomputable def IsPop (a : Expr) : Prop := ∃ y p3 m2 apos2 i p4, a = .Call (.Attribute (.Name y p3) m2 apos2) [i] [] p4
noncomputable def appP (f : FX) (o a : Expr) : Option IS := match a with
    | .Call (.Attribute (.Name y _) m₂ apos2) [i] [] p2 => ak (m₂ == ("pop" : Str) && apos2.endLine == p2.line) (match o with
      | .Name x _ => ak (!(x == y)) ((f.at x).bind fun a => (f.at y).bind fun b => (trE txP f i).map (.appPop a b ·))
      | _ => none)
    | a => trP txP f o a
theorem vv (o a : Expr) : IsPop a ∨ appP f o a = trP txP f o a := by
  cases a with
  | Call g as kw p => cases g with
    | Attribute b m q => cases b with
      | Name y q2 => cases as with
        | nil => exact .inr rfl
        | cons i r => cases r with
          | cons _ _ => exact .inr rfl
          | nil => cases kw with
            | nil => exact .inl (ei6 rfl)
            | cons _ _ => exact .inr rfl
      | _ => exact .inr rfl
    | _ => exact .inr rfl
  | _ => exact .inr rfl
theorem app_ok (W : Lw K) {o a : Expr} {apos p2 p : Pos} (hline : (apos.endLine == p2.line) = true) : Al (appP f o a) (SOk K f (.Expr (.Call (.Attribute o "append" apos) [a] [] p2) p)) := by
  rcases vv o a with ⟨y, p3, m2, apos2, i, p4, rfl⟩ | q
  · refine Al.guard fun hq2 => ?_
    rw [Bool.and_eq_true] at hq2
    obtain rfl : m2 = "pop" := beq_iff_eq.mp hq2.1
    cases o with
    | Name x p1 =>
      refine Al.guard fun hxy => Al.bind (Al.of fun a ha => Al.bind (Al.of fun b hb => Al.map (Al.of fun j hj => ?_)))
      exact vc ha hb (by simpa using hxy) ((ae W i f).1.get hj) (i6 hj) hline hq2.2
    | _ => exact trivial
  · exact Al.eq q (trP_ok W hline)
theorem t5 (W : Lw K) (IK : IoOK K) {e : Expr} {p : Pos} : Al (vO txP f e) (SOk K f (.Expr e p)) := by
  cases e with
  | Call g as kw q => cases g with
    | Name x q2 => cases kw with
      | nil => exact Al.guard fun Z => Al.map ((ib W IK _).mono fun r h => s_io h (ei4 rfl))
      | cons _ _ => exact trivial
    | Attribute o m apos => cases as with
      | nil => exact trivial
      | cons a r => cases r with
        | cons _ _ => exact trivial
        | nil => cases kw with
          | cons _ _ => exact trivial
          | nil =>
            refine Al.guard fun hq => ?_
            rw [Bool.and_eq_true] at hq
            obtain rfl : m = "append" := beq_iff_eq.mp hq.1
            exact app_ok W hq.2
    | _ => exact trivial
  | _ => exact trivial
mutual
theorem trS_ok (W : Lw K) (IK : IoOK K) : ∀ st : Stmt, Al (trS txP f st) (SOk K f st)
  | .Expr e _ => t5 W IK
  | .Assign ts e p => by
    cases ts with
    | nil => exact trivial
    | cons t ts => cases ts with
      | nil => exact trT_ok W IK
      | cons _ _ => exact trivial
  | .AugAssign t op e _ => vP W
  | .If t b o _ => Al.bind ((ae W t f).1.mono fun c hc => Al.bind ((trSs_ok W IK b).mono fun x hb => Al.map ((trSs_ok W IK o).mono fun y ho => s_if hc hb ho)))
  | .For t it b o p => by
    have hb := trSs_ok W IK b
    cases o with
    | nil => exact Al.bind ((nN t).mono fun ts ht => Al.bind ((tri_ok W ht it).mono fun i hi => Al.guard fun hg => Al.map (hb.mono fun j hj => s_for ht (hi hg) hj)))
    | cons _ _ => exact trivial
  | .While t b o p => by
    have hb := trSs_ok W IK b
    cases o with
    | nil => exact Al.bind ((ae W t f).1.mono fun c hc => Al.map (hb.mono fun j hj => yF hc hj))
    | cons _ _ => exact trivial
  | .Return o p => by
    cases o with
    | none => exact trivial
    | some e =>
      cases hio : hasIO txP.ios e with
      | false => exact (show Al (bif !hasIO txP.ios e then (trE txP f e).map IS.ret else (trX txP f e).map IS.retX) (SOk K f (.Return (some e) p)) by rw [hio]; exact Al.map ((ae W e f).1.mono fun i h => vb h))
      | true => exact (show Al (bif !hasIO txP.ios e then (trE txP f e).map IS.ret else (trX txP f e).map IS.retX) (SOk K f (.Return (some e) p)) by rw [hio]; exact Al.map ((ib W IK e).mono fun r h => uH h))
  | .Continue _ => s_cont
  | .FunctionDef _ _ _ _ _ _ _ _ _ _ => trivial
  | .AsyncFunctionDef _ _ _ _ _ _ _ _ _ _ => trivial
  | .ClassDef _ _ _ _ _ _ _ _ _ _ _ => trivial
  | .Delete _ _ => trivial
  | .TypeAlias _ _ _ _ _ _ _ => trivial
  | .AnnAssign _ _ _ _ _ => trivial
  | .AsyncFor _ _ _ _ _ => trivial
  | .With _ _ _ => trivial
  | .AsyncWith _ _ _ => trivial
  | .Match _ _ _ => trivial
  | .Raise _ _ _ => trivial
  | .Try _ _ _ _ _ => trivial
  | .TryStar _ _ _ _ _ => trivial
  | .Assert _ _ _ => trivial
  | .Import _ _ => trivial
  | .ImportFrom _ _ _ _ => trivial
  | .Global _ _ => trivial
  | .Nonlocal _ _ => trivial
  | .Pass _ => trivial
  | .Break _ => trivial
theorem trSs_ok (W : Lw K) (IK : IoOK K) : ∀ b : List Stmt, Al (trSs txP f b) (BOk K f b)
  | [] => b_nil
  | st :: b => Al.bind ((trS_ok W IK st).mono fun i h => Al.map ((trSs_ok W IK b).mono fun is hs => b_cons h hs))
end
end
end Mine
namespace Mine
open PySem PySem.Calls PyProof.Rows

theorem q7 : ∀ (lvs : List LV) (k : Nat) (ρ : Rho) (i : Nat), iW k lvs ρ i = if k ≤ i ∧ i < k + lvs.length then lvs[i - k]? else ρ i
  | [], k, ρ, i => by rw [if_neg (by intro h; have := h.2; simp at this; lia)]; rfl
  | v :: vs, k, ρ, i => by
    show iW (k + 1) vs (upd ρ k v) i = _
    rw [q7 vs (k + 1) (upd ρ k v) i]
    by_cases h1 : k + 1 ≤ i ∧ i < k + 1 + vs.length
    · rw [if_pos h1, if_pos (by simp; lia), show i - k = (i - (k + 1)) + 1 by lia, List.getElem?_cons_succ]
    · rw [if_neg h1]
      unfold upd
      by_cases h2 : i = k
      · subst h2
        rw [beq_self_eq_true, cond_true, if_pos (by simp), Nat.sub_self, List.getElem?_cons_zero]
      · rw [show (i == k) = false by simpa using h2, cond_false, if_neg (by simp; lia)]
theorem gq {α : Type} : ∀ (l : List α) (i : Nat), nth l i = l[i]?
  | [], _ => rfl
  | _ :: _, 0 => rfl
  | _ :: r, i + 1 => (gq r i).trans (by rw [List.getElem?_cons_succ])
theorem tA {rest : List Str} {x : Str} : ∀ {ps : List Str} {i : Nat} {k : Nat}, ps.Nodup → ps[i]? = some x → pos (ps ++ rest) x k = some (k + i)
  | [], _, _, _, h => nomatch h
  | p :: ps, 0, k, _, h => by
    obtain rfl : p = x := Option.some.inj h
    show (bif p == p then some k else _) = _
    rw [beq_self_eq_true]; rfl
  | p :: ps, i + 1, k, nd, h => by
    rw [List.getElem?_cons_succ] at h
    show (bif x == p then some k else pos (ps ++ rest) x (k + 1)) = _
    have : (x == p) = false := by
      cases q : x == p with
      | false => rfl
      | true => exact absurd (beq_iff_eq.mp q ▸ List.mem_of_getElem? h) (List.nodup_cons.mp nd).1
    rw [this, cond_false, tA (List.nodup_cons.mp nd).2 h]
    congr 1; lia
theorem xk {ps : List Str} {avs : List AV} {i : Nat} {x : Str} (nd : ps.Nodup) (hl : avs.length = ps.length) (h : ps[i]? = some x) : (ps.zip avs).lookup x = avs[i]? := by
  induction ps generalizing avs i with
  | nil => exact nS h
  | cons p ps ih =>
    cases avs with
    | nil => cases hl
    | cons a avs =>
      rw [List.zip_cons_cons, List.lookup_cons]
      cases i with
      | zero => obtain rfl := Option.some.inj h; rw [beq_self_eq_true]; rfl
      | succ i =>
        rw [List.getElem?_cons_succ] at h ⊢
        have : (x == p) = false := by
          cases q : x == p with
          | false => rfl
          | true => exact absurd (beq_iff_eq.mp q ▸ List.mem_of_getElem? h) (List.nodup_cons.mp nd).1
        rw [this]
        exact ih (List.nodup_cons.mp nd).2 (by simpa using hl) h
theorem u6 {ps : List Str} {avs : List AV} {x : Str} (h : x ∉ ps) : (ps.zip avs).lookup x = none := by
  cases q : (ps.zip avs).lookup x with
  | none => rfl
  | some v => exact absurd (List.of_mem_zip (mem_of_lookup q)).1 h
theorem ty {ps rest : List Str} {avs : List AV} (nd : ps.Nodup) (hl : avs.length = ps.length) (hr : ∀ x ∈ rest, x ∉ ps) : aV (ps ++ rest) (ps.zip avs) = iW 0 (avs.map AV.er) fun Z => none := by
  funext i
  rw [q7]
  unfold aV
  rw [gq]
  by_cases hi : i < ps.length
  · rw [if_pos (by rw [List.length_map]; (lia -abstractProof)), List.getElem?_append_left hi, List.getElem?_eq_getElem hi, Option.bind_some]
    have e := List.getElem?_eq_getElem hi
    rw [gy.mpr ((tA (k := 0) nd e).trans (by rw [Nat.zero_add])), cond_true, xk nd hl e, Nat.sub_zero, List.getElem?_map]
  · rw [if_neg (by rw [List.length_map]; (lia -abstractProof))]
    cases q : (ps ++ rest)[i]? with
    | none => rfl
    | some y =>
      rw [List.getElem?_append_right (by exact Nat.le_of_not_lt (by assumption))] at q
      rw [Option.bind_some, u6 (hr y (List.mem_of_getElem? q))]
      cases mB (ps ++ rest) y i <;> rfl
section
variable {K : Cfg} {A : Around} {s s' : Shared}
theorem wt {h : Heap} {a : Addr} {fn : Fn} (fi : kF h a fn) : fn.ps.Nodup := by
  obtain ⟨o, fd, p, sc, code, ho, hd, rfl, rfl, rfl, hbody, hglob, hclos, hdef, hbui, hcr, hst, hps, hsc⟩ := fi
  unfold fb at hst
  simp only [Bool.and_eq_true, decide_eq_true_eq] at hst
  rw [hps]; exact hst.1.1.1.1.1.1.2
theorem vg (W : Lw K) (IK : IoOK K) {a : Addr} {fn : Fn} {ir : IFn} (fi : kF K.hB a fn) (ht : trF txP fn = some ir) {A : Around} {s : Shared} (room : Room A (K.n + 1)) (fo : ∃ outer, A.frames = some outer) (gw : bD K.hB s.heap)
    {avs : List AV} {vs : List Value} {F₀ : aR} {Q : Value → Shared → Prop} (hlv : vs.length = avs.length)
    (rd : ∀ (i : Nat) (av : AV) (v : Value), avs[i]? = some av → vs[i]? = some v → RdV pwP K.w 66 s.heap (fun b => F₀ b ∨ bT (fn.ps.zip avs) b) v av)
    (hX : ∀ b, bT (fn.ps.zip avs) b → K.hB.get? b = none) (off : ∀ b, F₀ b → ¬ bT (fn.ps.zip avs) b) (nt : ∀ b, F₀ b → NT s.heap b)
    (apart : ∀ x y av av' b, (fn.ps.zip avs).lookup x = some av → (fn.ps.zip avs).lookup y = some av' → av.has b → av'.has b → x = y) (ok : ∀ x av, (fn.ps.zip avs).lookup x = some av → av.Ok)
    (hr : Ok (gC K.g ir (avs.map AV.er)) fun x => ∀ r s', Rd 66 s'.heap F₀ x.1 r → aU (bT (fn.ps.zip avs)) s.heap s'.heap → s'.gens = s.gens → s'.os = s.os →
      (∃ (C : Cx) (τ' : aQ), aV (wE fn) τ' = x.2 ∧ C.sc = fn.sc ∧ C.F₀ = F₀ ∧ gj fn.sc (fn.ps.zip avs) τ' ∧ Rel pwP K.w 66 C τ' s' ∧ (∀ b, bT τ' b → bT (fn.ps.zip avs) b ∨ s.heap.get? b = none)) → Q r s') :
    wpAny K.M A (call (.ref a) vs) Q Bad s := by
  refine aA (Option.map_eq_some_iff.mp ht) fun is hb e2_ => ?_; obtain rfl := e2_
  have hl : avs.length = fn.ps.length := by
    cases q : ((avs.map AV.er).length == fn.ps.length) with
    | true => simpa using q
    | false =>
      have : gC K.g ⟨fn.ps.length, is⟩ (avs.map AV.er) = none := by unfold gC; rw [q]; rfl
      rw [this] at hr; exact False.elim hr
  have e0 : gC K.g ⟨fn.ps.length, is⟩ (avs.map AV.er) = (exIs K.g (iW 0 (avs.map AV.er) fun Z => none) is).bind endOf := by
    unfold gC; rw [show ((avs.map AV.er).length == fn.ps.length) = true by simpa using hl]; rfl
  rw [e0, ← ty (rest := ((fn.sc.filter fun x => (match x.2 with | .globalImplicit => false | _ => true) && !fn.ps.contains x.1).map (·.1))) (wt fi) hl (fun x m hm => by
    refine aA (List.mem_map.mp m) fun y hy e2_ => ?_; obtain rfl := e2_
    have := (List.mem_filter.mp hy).2
    rw [Bool.and_eq_true, Bool.not_eq_true'] at this
    have h2 := this.2
    rw [List.contains_iff_mem.mpr hm] at h2; exact tF h2)] at hr
  refine za W.W fi room fo gw (X := bT (fn.ps.zip avs)) hl (by rw [hlv, hl]) rd (fun b q => ⟨q, hX b q⟩) off nt apart ok fun C A' s₁ cok nf csc chB ch0 cX cF0 cgens cos R room' fra => ?_
  have at0 : At K ⟨fn.sc, wE fn⟩ C A' (fn.ps.zip avs) s₁ := ⟨cok, chB, R, room', fra, csc⟩
  refine ((trSs_ok W IK fn.body).get hb).run nf at0 ((aC.mp hr).mono fun x hr τ' fw s₂ e a2 st hf => ?_)
  have hnew : ∀ b, bT τ' b → bT (fn.ps.zip avs) b ∨ s.heap.get? b = none := fun b q => by
    have := (a2.rel.new b (.inr q)).2
    rw [cX, ch0] at this; exact this
  have ag : aU (bT (fn.ps.zip avs)) s.heap s₂.heap := by
    have := a2.rel.base
    rwa [cX, ch0] at this
  have tail : ∃ (C : Cx) (τ'' : aQ), aV (wE fn) τ'' = x.2 ∧ C.sc = fn.sc ∧ C.F₀ = F₀ ∧ gj fn.sc (fn.ps.zip avs) τ'' ∧ Rel pwP K.w 66 C τ'' s₂ ∧ (∀ b, bT τ'' b → bT (fn.ps.zip avs) b ∨ s.heap.get? b = none) :=
    ⟨C, τ', e, csc, cF0, by have := st.pins; rwa [csc] at this, a2.rel, hnew⟩
  obtain ⟨fl, ρ⟩ := x
  cases fl with
  | next =>
    cases (show fw = .next from hf)
    exact hr _ _ rX ag (a2.rel.gens.trans cgens) (a2.rel.os.trans cos) tail
  | cont => exact False.elim hr
  | ret d =>
    refine aA hf fun v e1_ rv => ?_; obtain rfl := e1_; try clear hf
    rw [cF0] at rv
    exact hr _ _ rv ag (a2.rel.gens.trans cgens) (a2.rel.os.trans cos) tail
theorem dE {ps : List Str} {ds : List D} {b : Addr} : ¬ bT (ps.zip (ds.map AV.val)) b := by
  rintro ⟨x, av, e, h⟩
  have m := (List.of_mem_zip (mem_of_lookup e)).2
  refine aA (List.mem_map.mp m) fun d Z e2_ => ?_; obtain rfl := e2_
  exact h

theorem jv {h : Heap} {F : aR} : ∀ {ds : List D} {vs : List Value}, RdAll 66 h F ds vs → ∀ (i : Nat) (d : D) (v : Value), ds[i]? = some d → vs[i]? = some v → Rd 66 h F d v
  | [], _, _, i, d, v, e, _ => by simp at e
  | d :: ds, vs, r, i, d', v, e, e' => by
    refine bm (dC r) fun v0 l e2_ h1 h2 => ?_; obtain rfl := e2_
    cases i with
    | zero => simp at e e'; subst e e'; exact h1
    | succ i => exact jv h2 i d' v (by simpa using e) (by simpa using e')


theorem pq (W : Lw K) (IK : IoOK K) {a : Addr} {fn : Fn} {ir : IFn} (fi : kF K.hB a fn) (ht : trF txP fn = some ir) {A : Around} {s : Shared} (room : Room A (K.n + 1)) (fo : ∃ outer, A.frames = some outer) (gw : bD K.hB s.heap)
    {ds : List D} {vs : List Value} {F : aR} {d : D} (nt : ∀ b, F b → NT s.heap b) (r : RdAll 66 s.heap F ds vs) (hr : (gC K.g ir (ds.map LV.val)).map (·.1) = some d) :
    wpAny K.M A (call (.ref a) vs) (fun r s' => Rd 66 s'.heap F d r ∧ Gr s s') Bad s := by
  have e : (ds.map AV.val).map AV.er = ds.map LV.val := by rw [List.map_map]; rfl
  refine vg W IK fi ht room fo gw (avs := ds.map AV.val) (F₀ := F) (by rw [List.length_map]; exact r.len.symm ▸ rfl) (fun i av v e1 e2 => ?_) (fun b q => (dE q).elim) (fun b Z q => dE q) nt
    (fun x y av av' b e1 e2 h1 h2 => (dE ⟨x, av, e1, h1⟩).elim) (fun x av e1 => ?_) ?_
  · rw [List.getElem?_map] at e1
    refine aA (Option.map_eq_some_iff.mp e1) fun d' e3 e2_ => ?_; obtain rfl := e2_
    exact (jv r i d' v e3 e2).less fun b q => q.elim id fun z => (dE z).elim
  · have m := (List.of_mem_zip (mem_of_lookup e1)).2
    refine aA (List.mem_map.mp m) fun d' Z e2_ => ?_; obtain rfl := e2_
    trivial
  · rw [e]
    refine aA (Option.map_eq_some_iff.mp hr) fun x hx e2_ => ?_; obtain rfl := e2_
    rw [hx]
    exact fun v s' h1 h2 h3 h4 Z => ⟨h1, fun b o e1 => h2 b o (fun z => dE z) e1, h3, h4⟩
theorem vt {h : Heap} {F : aR} {v : Value} : ∀ {av : AV} {b : Addr}, av.ad = some b → RdV pwP K.w 66 h F v av → v = .ref b
  | .val _, _, e, _ => by exact nS e
  | .own c _, b, e, r => by obtain rfl := Option.some.inj e; exact r.1
  | .dct c _, b, e, r => by obtain rfl := Option.some.inj e; exact r.1
theorem zd : ∀ {av : AV}, (∀ x, av.er ≠ .val x) → ∃ b, av.ad = some b
  | .val d, h => absurd rfl (h d)
  | .own b _, _ => ⟨b, rfl⟩
  | .dct b _, _ => ⟨b, rfl⟩

theorem wj {p : Str} {ps : List Str} {av : AV} {ds : List D} {b : Addr} : bT ((p :: ps).zip (av :: ds.map AV.val)) b ↔ av.has b := by
  constructor
  · rintro ⟨x, av', e, h⟩
    rw [List.zip_cons_cons, List.lookup_cons] at e
    split at e
    · obtain rfl := Option.some.inj e; exact h
    · exact (dE ⟨x, av', e, h⟩).elim
  · intro h
    exact ⟨p, av, by rw [List.zip_cons_cons, List.lookup_cons, beq_self_eq_true], h⟩


theorem run_io (W : Lw K) (IK : IoOK K) {a : Addr} {fn : Fn} {ir : IFn} (fi : kF K.hB a fn) (ht : trF txP fn = some ir) {A : Around} {s : Shared} (room : Room A (K.n + 1)) (fo : ∃ outer, A.frames = some outer) (gw : bD K.hB s.heap)
    {p : Str} {ps : List Str} (hps : fn.ps = p :: ps) (hpin : cA fn.sc p = false) {F : aR} {v : Value} {av : AV} {ds : List D} {vs : List Value} {d : D} {lv' : LV} (hav : ∀ x, av.er ≠ .val x)
    (nt : ∀ b, F b → NT s.heap b) (hF : ∀ b, av.has b → ¬ F b ∧ K.hB.get? b = none) (hok : av.Ok) (rv : RdV pwP K.w 66 s.heap (fun b => F b ∨ av.has b) v av) (r : RdAll 66 s.heap (fun b => F b ∨ av.has b) ds vs)
    (hr : (gC K.g ir (av.er :: ds.map LV.val)).bind (fun r => (r.2 0).map (r.1, ·)) = some (d, lv')) :
    wpAny K.M A (call (.ref a) (v :: vs)) (fun r s' => ∃ av', av'.er = lv' ∧ av'.Ok ∧ RdV pwP K.w 66 s'.heap (fun b => F b ∨ av'.has b) v av' ∧ (bf d = true → ∀ G : aR, (∀ b, G b → NT s'.heap b) → Rd 66 s'.heap G d r) ∧
      aU (fun b => av.has b) s.heap s'.heap ∧ (∀ b, av'.has b → av.has b ∨ s.heap.get? b = none) ∧ s'.gens = s.gens ∧ s'.os = s.os ∧ av'.ad = av.ad) Bad s := by
  have e : (av :: ds.map AV.val).map AV.er = av.er :: ds.map LV.val := by rw [List.map_cons, List.map_map]; rfl
  have one : ∀ b, bT (fn.ps.zip (av :: ds.map AV.val)) b ↔ av.has b := fun b => by rw [hps]; exact wj
  have ps1 : ∀ {x : Str} {av' : AV} {b : Addr}, (fn.ps.zip (av :: ds.map AV.val)).lookup x = some av' → av'.has b → x = p := fun {x av' b} e1 h1 => by
    rw [hps, List.zip_cons_cons, List.lookup_cons] at e1
    split at e1
    · rename_i q; simpa using q
    · exact (dE ⟨x, av', e1, h1⟩).elim
  refine vg W IK fi ht room fo gw (avs := av :: ds.map AV.val) (F₀ := F) (by simp [r.len]) (fun i av' v' e1 e2 => ?_) (fun b q => (hF b ((one b).mp q)).2) (fun b q z => (hF b ((one b).mp z)).1 q) nt
    (fun x y av1 av2 b e1 e2 h1 h2 => (ps1 e1 h1).trans (ps1 e2 h2).symm) (fun x av' e1 => ?_) ?_
  · have sub : ∀ b, (F b ∨ bT (fn.ps.zip (av :: ds.map AV.val)) b) → F b ∨ av.has b := fun b q => q.imp id (one b).mp
    cases i with
    | zero =>
      simp at e1 e2
      subst e1 e2
      exact rv.sub sub
    | succ i =>
      rw [List.getElem?_cons_succ, List.getElem?_map] at e1
      refine aA (Option.map_eq_some_iff.mp e1) fun d' e3 e2_ => ?_; obtain rfl := e2_
      rw [List.getElem?_cons_succ] at e2
      exact (jv r i d' v' e3 e2).less sub
  · have m := (List.of_mem_zip (mem_of_lookup e1)).2
    rcases List.mem_cons.mp m with rfl | m
    · exact hok
    · refine aA (List.mem_map.mp m) fun d' Z e2_ => ?_; obtain rfl := e2_
      trivial
  · rw [e]
    refine aA (Option.bind_eq_some_iff.mp hr) fun x hx h2 => ?_
    refine aA (Option.map_eq_some_iff.mp h2) fun lv2 hp h3 => ?_
    cases h3
    rw [hx]
    intro res s₂ rr ag hg ho q
    refine ob2_6 q fun C τ' ev csc cF pins R hnew => ?_; try clear q
    have hp0 : pos (wE fn) p 0 = some 0 := by
      show pos (fn.ps ++ _) p 0 = some 0
      rw [hps]
      show (bif p == p then some 0 else _) = some 0
      rw [beq_self_eq_true]; rfl
    rw [← ev, dI hp0] at hp
    refine aA (Option.map_eq_some_iff.mp hp) fun av' e2 e2_ => ?_; obtain rfl := e2_
    have ep : (fn.ps.zip (av :: ds.map AV.val)).lookup p = some av := by rw [hps, List.zip_cons_cons, List.lookup_cons, beq_self_eq_true]
    obtain ⟨b0, eb⟩ := zd hav
    refine aA (pins p hpin av b0 ep eb) fun av2 e3 e4 => ?_
    rw [e2] at e3; obtain rfl := Option.some.inj e3
    refine aA R.ns fun m hn hv => ?_
    refine aA (hv p av' e2) fun v' Z rv' => ?_
    obtain rfl : v = v' := (vt eb rv).trans (vt e4 rv').symm
    refine ⟨av', rfl, R.ok p av' e2, rv'.sub fun b q => ?_, fun hf G ntG => rr.flatten ntG _ res hf, fun b o nb eo => ag b o (fun z => nb ((one b).mp z)) eo, fun b q => (hnew b ⟨p, av', e2, q⟩).imp (one b).mp id, hg, ho, e4.trans eb.symm⟩
    rcases q with q | q
    · exact .inl (by rw [cF]; exact q)
    · exact .inr (.inr ⟨p, av', e2, q⟩)
theorem sL {h : Heap} {a : Addr} {fn : Fn} (fi : kF h a fn) : ∃ o fd, h.get? a = some o ∧ o.data = .func fd := by
  refine ob5_3 fi fun o fd p sc code ho hd Z => ?_; try clear fi
  exact ⟨o, fd, ho, hd⟩

theorem irs_ok : (recsOf pwP).map (fun d => trF txP (fc d)) = dU.map some := by kernel_rfl
theorem irm_ok : ((cD pwP "RegionTable").drop 1).map (fun m => trF txP m.2) = (da.drop 1).map some := by kernel_rfl
theorem ios_ok : (List.range 47).all (fun k => bif TT.ios.contains k then (match nth (recsOf pwP) k with
  | some d => (match (fc d).ps with
    | p :: _ => !cA (fc d).sc p
    | [] => false)
  | none => false) else true) = true := by decide +kernel
theorem ir_fn {k : Nat} {d : DefRec} {ir : IFn} (h1 : nth (recsOf pwP) k = some d) (h2 : nth dU k = some ir) : trF txP (fc d) = some ir := by
  have := congrArg (·[k]?) irs_ok
  simp only [List.getElem?_map] at this
  rw [gq] at h1 h2
  rw [h1, h2] at this
  exact Option.some.inj this
theorem yk {k : Nat} {m : Str} {fn : Fn} {ir : IFn} (h1 : nth (cD pwP "RegionTable") (k + 1) = some (m, fn)) (h2 : nth da (k + 1) = some ir) : trF txP fn = some ir := by
  have := congrArg (·[k]?) irm_ok
  simp only [List.getElem?_map, List.getElem?_drop] at this
  rw [gq] at h1 h2
  rw [Nat.add_comm 1 k, h1, h2] at this
  exact Option.some.inj this
noncomputable def Cfg.at (K : Cfg) (n : Nat) : Cfg := { K with g := gN TT n, n := n + 3 }
theorem runN_0 (W : Wd pwP K.w 66 K.hB K.mg) : Lw (K.at 0) ∧ IoOK (K.at 0) := by
  refine ⟨⟨W, ⟨Nat.le_refl _, fun k ds d d0 h0 h => ?_, fun k m fn ds d h0 h => ?_⟩⟩, ⟨fun k lv ds d lv' d0 h0 hlv h => ?_⟩⟩
  · replace h : (bif TT.ios.contains k then none else (nth dU k).bind fun fn => ((none : Option (D × Rho))).map (·.1)) = some d := h
    cases q' : TT.ios.contains k with
    | true => rw [q'] at h; exact nS h
    | false => rw [q'] at h; cases q : nth dU k <;> (rw [q] at h; exact nS h)
  · replace h : (nth da k).bind (fun fn => ((none : Option (D × Rho))).map (·.1)) = some d := h
    cases q : nth da k <;> (rw [q] at h; exact nS h)
  · replace h : (bif TT.ios.contains k then (nth dU k).bind fun fn => (none : Option (D × Rho)).bind fun r => (r.2 0).map (r.1, ·) else none) = some (d, lv') := h
    cases q' : TT.ios.contains k with
    | false => rw [q'] at h; exact nS h
    | true => rw [q'] at h; cases q : nth dU k <;> (rw [q] at h; exact nS h)
set_option tactic.hygienic true in
theorem runN_s (W : Wd pwP K.w 66 K.hB K.mg) {n : Nat} (CK : Lw (K.at n)) (IK : IoOK (K.at n)) : Lw (K.at (n + 1)) ∧ IoOK (K.at (n + 1)) := by
  refine ⟨⟨W, ⟨by show 3 ≤ n + 1 + 3; (lia -abstractProof), fun k ds d d0 h0 h => ?_, fun k m fn ds d h0 h => ?_⟩⟩, ⟨fun k lv ds d lv' d0 h0 hlv h => ?_⟩⟩
  · replace h : (bif TT.ios.contains k then none else (nth dU k).bind fun fn => (gC (gN TT n) fn (ds.map .val)).map (·.1)) = some d := h
    cases q : TT.ios.contains k with
    | true => rw [q] at h; exact nS h
    | false =>
      rw [q] at h
      refine aA (Option.bind_eq_some_iff.mp h) fun ir h1 h2 => ?_
      refine aA (W.fns k d0 h0) fun a e1 fi => ?_
      refine bY (sL fi) fun o fd e2 e3 => ?_
      exact ⟨a, o, fd, e1, e2, e3, fun A s F vs room fo gw nt r => pq (K := K.at n) CK IK fi (ir_fn h0 h1) room fo gw nt r h2⟩
  · replace h : (nth da k).bind (fun fn => (gC (gN TT n) fn (ds.map .val)).map (·.1)) = some d := h
    refine aA (Option.bind_eq_some_iff.mp h) fun ir h1 h2 => ?_
    refine aA (W.meth k m fn h0) fun a fi gm => ?_
    refine bY (sL fi) fun o fd e2 e3 => ?_
    refine ⟨a, o, fd, e2, e3, gm, fun A s F vs room fo gw nt r => ?_⟩
    cases k with
    | succ k => exact pq (K := K.at n) CK IK fi (yk h0 h1) room fo gw nt r h2
    | zero =>
      obtain rfl := Option.some.inj h1
      cases ds with
      | nil => exact nS h2
      | cons _ _ => exact nS h2
  · replace h : (bif TT.ios.contains k then (nth dU k).bind fun fn => (gC (gN TT n) fn (lv :: ds.map .val)).bind fun r => (r.2 0).map (r.1, ·) else none) = some (d, lv') := h
    cases q : TT.ios.contains k with
    | false => rw [q] at h; exact nS h
    | true =>
      rw [q] at h
      refine aA (Option.bind_eq_some_iff.mp h) fun ir h1 h2 => ?_
      refine aA (W.fns k d0 h0) fun a e1 fi => ?_
      refine bY (sL fi) fun o fd e2 e3 => ?_
      refine ⟨a, o, fd, e1, e2, e3, fun A s F v av vs hlve room fo gw nt hF hok rv r => ?_⟩
      subst hlve
      have hk : k < 47 := by
        have : k ∈ [10, 22, 23, 24] := by simpa using q
        simp at this; (lia -abstractProof)
      have hi := List.all_eq_true.mp ios_ok k (List.mem_range.mpr hk)
      rw [q, cond_true, h0] at hi
      dsimp only at hi
      split at hi
      · rename_i p ps hps
        exact run_io (K := K.at n) CK IK fi (ir_fn h0 h1) room fo gw hps (by simpa using hi) hlv nt hF hok rv r h2
      · exact fT hi
theorem yK (W : Wd pwP K.w 66 K.hB K.mg) (n : Nat) : Lw (K.at n) ∧ IoOK (K.at n) := by
  induction n with
  | zero => exact runN_0 W
  | succ n ih => exact runN_s W ih.1 ih.2
end
end Mine
namespace Mine
open PySem PySem.Calls PyProof.Rows

noncomputable def nsK (K : Frag) (x : Str) : Option Value := match K.lookup 3 with
  | some ⟨_, _, .dict es _, _⟩ => nsFind es x
  | _ => none
noncomputable def fnD (K : Frag) (a : Addr) : Option Fn := match K.lookup a with
  | some o => (match o.data with
    | .func fd => (match fd.body with
      | .stmts b => bif fd.globals == mainGlobals && (fd.closure.isEmpty && (fd.defaults == .none && (fd.builtins == builtinsNs && (codeIn K fd.code fd.qualname && fb fd.params fd.scope)))) then some ⟨fd.params.args.map (·.arg), b, fd.scope.names⟩ else none
      | _ => none)
    | _ => none)
  | none => none
noncomputable def tu : List Addr := [28, 35, 42, 49, 56, 63]
noncomputable def okA (K : Frag) : Str × Addr → Bool := fun x => findIn K (.ref 66) x.1 == some (some (.ref x.2)) && (typeIn K (.ref x.2) == some (.type "function") && !(("clauses" : Str) == x.1))
noncomputable def zY (ms : List Str) (K : Frag) : Bool :=
  nsK K "RegionTable" == some (.ref 66) && (findIn K (.ref 66) "__getattribute__" == some (some (.builtin "object.__getattribute__")) && (findIn K (.ref 66) "__getattr__" == some none && (findIn K (.ref 66) "clauses" == some none &&
  (findIn K (.ref 66) "__setattr__" == some (some (.builtin "object.__setattr__")) && (findIn K (.ref 66) "__init__" == some (some (.ref 28)) && (typeIn K (.ref 28) == some (.type "function") && ((clsIn K 66).any (·.hasDict) && (specialIn K (.ref 66) "__call__" == some (some (.builtin "type.__call__")) && (makesIn K 66 && (plainOver K 66 && (takerIn K 66 "clauses" == some none && ((ms.zip tu).all (okA K)))))))))))))
noncomputable def pG (h : Heap) : Frag := (3 :: List.range' 24 45).filterMap fun a => (h.get? a).map (a, ·)
theorem ud (h : Heap) : (pG h).In h := by
  unfold pG
  generalize (3 :: List.range' 24 45) = l
  induction l with
  | nil => intro a o e; exact nS e
  | cons b r ih =>
    intro a o e
    rw [List.filterMap_cons] at e
    cases q : h.get? b with
    | none => rw [q] at e; exact ih a o e
    | some x =>
      rw [q] at e
      replace e : List.lookup a ((b, x) :: List.filterMap (fun a => (h.get? a).map (a, ·)) r) = some o := e
      rw [List.lookup_cons] at e
      cases q2 : a == b with
      | true => rw [q2] at e; obtain rfl := Option.some.inj e; rw [beq_iff_eq.mp q2]; exact q
      | false => rw [q2] at e; exact ih a o e
noncomputable def ze (h : Heap) : Prop := ∃ K : Frag, K.In h ∧ zY ((cD pwP "RegionTable").map (·.1)) K = true ∧ tu.map (fnD K) = (cD pwP "RegionTable").map fun m => some m.2
noncomputable def Obs (s : Shared) : Bool × List (Option Fn) := (zY ((cD pwP "RegionTable").map (·.1)) (pG s.heap), tu.map (fnD (pG s.heap)))
noncomputable def Val : Bool × List (Option Fn) := (true, (cD pwP "RegionTable").map fun m => some m.2)
theorem yE {s : Shared} (e : Obs s = Val) : ze s.heap := ⟨_, ud _, congrArg Prod.fst e, congrArg Prod.snd e⟩
theorem rQ {h h' : Heap} (x : ze h) (k : ∀ b o, h.get? b = some o → h'.get? b = some o) : ze h' := let ⟨K, i, q⟩ := x; ⟨K, i.keeps k, q⟩

set_option tactic.hygienic true in
theorem wu {K : Frag} {h : Heap} (X : K.In h) {a : Addr} {fn : Fn} (e : fnD K a = some fn) : kF h a fn := by
  unfold fnD at e
  split at e
  · rename_i o ho
    split at e
    · rename_i fd hd
      split at e
      · rename_i b hb
        cases q : (fd.globals == mainGlobals && (fd.closure.isEmpty && (fd.defaults == .none && (fd.builtins == builtinsNs && (codeIn K fd.code fd.qualname && fb fd.params fd.scope))))) with
        | false => rw [q] at e; exact nS e
        | true =>
          rw [q] at e
          obtain rfl := Option.some.inj e
          simp only [Bool.and_eq_true] at q
          refine ob0_6 q fun q1 q2 q3 q4 q5 q6 => ?_
          exact ⟨o, fd, _, _, _, X _ _ ho, hd, rfl, rfl, rfl, hb, beq_iff_eq.mp q1, List.isEmpty_iff.mp q2, beq_iff_eq.mp q3, beq_iff_eq.mp q4, codeRec_of X q5, q6, rfl, fun Z => rfl⟩
      · exact nS e
    · exact nS e
  · exact nS e
set_option tactic.hygienic true in
theorem mg_K {K : Frag} {h : Heap} {mg : Str → Option Value} (X : K.In h) (g : h.Ns mainGlobals mg) {x : Str} {v : Value} (e : nsK K x = some v) : mg x = some v := by
  unfold nsK at e
  split at e
  · rename_i es n _ hk
    have := X _ _ hk
    refine kK g fun o es' ep h1 h2 Z h3 => ?_
    rw [show mainGlobals = 3 from rfl, this] at h1
    obtain rfl := Option.some.inj h1
    cases h2
    rw [← h3]; exact e
  · exact nS e
structure KOk (K : Frag) : Prop where
  region : nsK K "RegionTable" = some (.ref 66)
  ga : findIn K (.ref 66) "__getattribute__" = some (some (.builtin "object.__getattribute__"))
  gat : findIn K (.ref 66) "__getattr__" = some none
  cl : findIn K (.ref 66) "clauses" = some none
  set : findIn K (.ref 66) "__setattr__" = some (some (.builtin "object.__setattr__"))
  init : findIn K (.ref 66) "__init__" = some (some (.ref 28))
  tinit : typeIn K (.ref 28) = some (.type "function")
  dict : (clsIn K 66).any (·.hasDict) = true
  keep : specialIn K (.ref 66) "__call__" = some (some (.builtin "type.__call__"))
  make : makesIn K 66 = true
  over : plainOver K 66 = true
  taker : takerIn K 66 "clauses" = some none
  meth : ∀ k m fn, nth (cD pwP "RegionTable") k = some (m, fn) → ∃ a, fnD K a = some fn ∧ okA K (m, a) = true
theorem kok_of {K : Frag} (h : zY ((cD pwP "RegionTable").map (·.1)) K = true) (e : tu.map (fnD K) = (cD pwP "RegionTable").map fun m => some m.2) : KOk K := by
  unfold zY at h
  simp only [Bool.and_eq_true, beq_iff_eq] at h
  refine ob0_13 h fun h1 h2 h3 h4 h5 h6 h7 h8 h9 h10 h11 h12 h14 => ?_
  refine ⟨h1, h2, h3, h4, h5, h6, h7, h8, h9, h10, h11, h12, fun k m fn hk => ?_⟩
  rw [gq] at hk
  have e1 := congrArg (·[k]?) e
  simp only [List.getElem?_map, hk, Option.map_some] at e1
  refine aA (Option.map_eq_some_iff.mp e1) fun a ha e2 => ?_
  refine ⟨a, e2, List.all_eq_true.mp h14 _ ?_⟩
  refine List.mem_of_getElem? (i := k) ?_
  rw [List.getElem?_zip_eq_some]
  exact ⟨by rw [List.getElem?_map, hk]; rfl, ha⟩
end Mine
namespace Mine
open PySem PySem.Calls PyProof.Rows
noncomputable def isNm : Stmt → Bool
  | .Assign [.Name y _] _ _ => ("__name__" : Str) == y
  | _ => false
noncomputable def vw : Program := { pwP with main := { pwP.main with body := pwP.main.body.filter fun s => !isNm s } }
noncomputable abbrev vi : RowW := OpenRow.toRowW PySem.Challenge.rw_xm0262_01.row
noncomputable abbrev kG (s : Shared) := openSeen vw [] (importedModules PySem.Challenge.pw_xm0262_01.main.body) (fun s => xlAt vw [] s && recOk (RowW.records vi) s) true s
theorem uW (w : World) : (openEnds treeTable PySem.Challenge.pw_xm0262_01 w 4142).map (fun s => (kG s).1) = some (openGood vw []).1 := by
  unfold openEnds fencedOpening topFrom kG
  rw [PySem.W.Fast.te10274390034422433532, PySem.W.Fast.te1435165496053646825, PySem.W.Fast.te14289696077712309145, PySem.W.Fast.te14082659384304107361, PySem.W.Fast.te14364793385576792824, PySem.W.Fast.te4187177175401517315]
  kernel_rfl
theorem ye (w : World) : (openEnds treeTable PySem.Challenge.pw_xm0262_01 w 4142).map (fun s => ((kG s).2.1, (kG s).2.2.1, (kG s).2.2.2.1)) = some (bltViewBooted, true, true) := by
  unfold openEnds fencedOpening topFrom kG
  rw [PySem.W.Fast.te10274390034422433532, PySem.W.Fast.te1435165496053646825, PySem.W.Fast.te14289696077712309145, PySem.W.Fast.te14082659384304107361, PySem.W.Fast.te14364793385576792824, PySem.W.Fast.te4187177175401517315]
  kernel_rfl
theorem yd (w : World) : (openEnds treeTable PySem.Challenge.pw_xm0262_01 w 4142).map (fun s => (kG s).2.2.2.2) = some (pinGoodD (drecsOf vw), plainGoodE vw (looseW vw []), plainGoodD vw [], wideGood vw, clsGoodW vw []) := by
  unfold openEnds fencedOpening topFrom kG
  rw [PySem.W.Fast.te10274390034422433532, PySem.W.Fast.te1435165496053646825, PySem.W.Fast.te14289696077712309145, PySem.W.Fast.te14082659384304107361, PySem.W.Fast.te14364793385576792824, PySem.W.Fast.te4187177175401517315]
  kernel_rfl
theorem wP (w : World) : (openEnds treeTable PySem.Challenge.pw_xm0262_01 w 4142).map Obs = some Val := by
  unfold openEnds fencedOpening topFrom
  rw [PySem.W.Fast.te10274390034422433532, PySem.W.Fast.te1435165496053646825, PySem.W.Fast.te14289696077712309145, PySem.W.Fast.te14082659384304107361, PySem.W.Fast.te14364793385576792824]
  kernel_rfl
theorem qO {α β γ : Type} {X : Option α} {f : α → β × γ} {a : β × γ} (h1 : X.map (fun s => (f s).1) = some a.1) (h2 : X.map (fun s => (f s).2) = some a.2) : X.map f = some a := by
  cases X with
  | none => cases h1
  | some s => exact congrArg some (Prod.ext (Option.some.inj h1) (Option.some.inj h2))
theorem wJ {σ α β γ δ : Type} {X : Option σ} {f : σ → α × β × γ × δ} {a : α} {b : β} {c : γ} {d : δ} (h : X.map (fun s => ((f s).1, (f s).2.1, (f s).2.2.1)) = some (a, b, c)) (k : X.map (fun s => (f s).2.2.2) = some d) : X.map f = some (a, b, c, d) := by
  cases X with
  | none => cases h
  | some s =>
    have h := Option.some.inj h
    exact congrArg some (Prod.ext (congrArg (·.1) h) (Prod.ext (congrArg (·.2.1) h) (Prod.ext (congrArg (·.2.2) h) (Option.some.inj k))))
theorem leftW : LeftO PySem.Challenge.pw_xm0262_01 vw [] (fun s => xlAt vw [] s && recOk (RowW.records vi) s) Obs (fun Z => Val) 4142 := fun w =>
  qO (qO (uW w) (wJ (ye w) (yd w))) (wP w)
end Mine
namespace Mine
open PySem PySem.Calls PyProof.Rows
theorem rh {fn : Fn} (h : ∀ x ∈ fn.ps, (fn.sc.lookup x).isSome = true) (x : Str) : fn.pin.sc.lookup x = fn.sc.lookup x := by
  unfold Fn.pin
  dsimp only
  rw [dz]
  cases e : fn.sc.lookup x with
  | some v => rfl
  | none =>
    cases hp : fn.ps with
    | nil => rfl
    | cons p ps =>
      have hs := h p (by rw [hp]; exact .head _)
      show List.lookup x [(p, NameKind.globalImplicit)] = none
      rw [List.lookup_cons]
      have : (x == p) = false := by
        cases q : x == p with
        | false => rfl
        | true => rw [← beq_iff_eq.mp q, e] at hs; exact fT hs
      rw [this]; rfl
theorem yw {p : Program} {loose : List Str} {mean : ExcName → Option Value} {mg mb : Str → Option Value} {h : Heap} (T : Top p loose mean mg mb h) (st : ((recsOf p).all fun d => fb d.params d.scope) = true) {d : DefRec}
    (hm : d ∈ recsOf p) : ∃ a, mg d.name = some (.ref a) ∧ kF h a (fc d) := by
  have hst := List.all_eq_true.mp st d hm
  have hst' := hst
  refine ob5_4 (T.fn d hm) fun a o pm code doc h1 h2 h3 h4 => ?_
  unfold fb at hst
  simp only [Bool.and_eq_true] at hst
  have hargs := hst.1.2
  have key : ∀ x, (pI d).pin.sc.lookup x = d.scope.names.lookup x := rh fun x hx => by
    refine aA (List.mem_map.mp hx) fun b hb e2_ => ?_; obtain rfl := e2_
    have := List.all_eq_true.mp hargs b hb
    simp only [Bool.or_eq_true, beq_iff_eq] at this
    rcases this with q | q <;> (show (d.scope.names.lookup b.arg).isSome = true; rw [q]; rfl)
  unfold fc
  refine ⟨a, h1, o, _, d.params, d.scope, code, h2, h3, rfl, rfl, rfl, ?_, rfl, rfl, rfl, rfl, h4, hst', ?_, ?_⟩
  · split <;> rfl
  · split <;> rfl
  · split
    · exact key
    · intro x; rfl
noncomputable def s3 : D → Bool
  | .int _ => true
  | .str _ => true
  | _ => false
noncomputable def wL (p : Program) : Bool := (litsOf p).all fun x => s3 x.2 && match valOf p x.1, x.2 with
  | some (.int i), .int j => i == j
  | some (.str i), .str j => i == j
  | _, _ => false
theorem vq {h : Heap} {F : aR} {rc : Addr} {v : Value} {d : D} (hs : s3 d = true) (r : Reads h v d []) : Rd rc h F d v := by
  cases r <;> first | exact au | (exact ⟨_, rfl⟩) | exact fT hs

theorem um {p : Program} {loose : List Str} {mean : ExcName → Option Value} {mg mb : Str → Option Value} {h : Heap} {rc : Addr} (T : Top p loose mean mg mb h) (ck : wL p = true) (x : Str) (d : D) (hx : (litsOf p).lookup x = some d) : ∃ v, mg x = some v ∧ ∀ h F, Rd rc h F d v := by
  have := List.all_eq_true.mp ck _ (PySem.mem_of_lookup hx)
  rw [Bool.and_eq_true] at this
  obtain ⟨h1, h2⟩ := this
  have e : valOf p x = some d := by
    replace h2 : (match (generalizing := false) valOf p x, d with
      | some (.int i), .int j => i == j
      | some (.str i), .str j => i == j
      | _, _ => false) = true := h2
    cases hv : valOf p x with
    | none => rw [hv] at h2; exact fT h2
    | some v =>
      rw [hv] at h2
      cases v with
      | int i => cases d with
        | int j => rw [beq_iff_eq.mp (show (i == j) = true from h2)]
        | _ => exact fT h2
      | str i => cases d with
        | str j => rw [beq_iff_eq.mp (show (i == j) = true from h2)]
        | _ => exact fT h2
      | _ => exact fT h2
  refine aA (T.const x d e) fun v h3 h4 => ?_
  exact ⟨v, h3, fun h F => vq h1 (h4 h)⟩

noncomputable def wq (p : Program) (loose : List Str) : Bool := (["len", "list", "tuple", "sorted", "min", "max", "range", "enumerate", "reversed"].map Str.ofString).all fun x =>
  !startupNames.contains x && !loose.contains x && !((recsOf p).map (·.name)).contains x && !((litsOf p).map (·.1)).contains x && !((clssOf p loose).map (·.name)).contains x

theorem wp {p : Program} {loose : List Str} {mean : ExcName → Option Value} {mg mb : Str → Option Value} {h : Heap} (T : Top p loose mean mg mb h) (ck : wq p loose = true) (x : String) (hx : ["len", "list", "tuple", "sorted", "min", "max", "range", "enumerate", "reversed"].contains x = true) : mg (Str.ofString x) = none := by
  have hm : Str.ofString x ∈ ["len", "list", "tuple", "sorted", "min", "max", "range", "enumerate", "reversed"].map Str.ofString := List.mem_map_of_mem (by simpa using hx)
  have := List.all_eq_true.mp ck _ hm
  simp only [Bool.and_eq_true, Bool.not_eq_true', List.contains_eq_mem, decide_eq_false_iff_not] at this
  obtain ⟨⟨⟨⟨h1, h2⟩, h3⟩, h4⟩, h5⟩ := this
  exact T.free _ h1 h2 h3 h4 h5
theorem v_recs : recsOf vw = recsOf pwP := by kernel_rfl
theorem v_lits : litsOf vw = litsOf pwP := by kernel_rfl
theorem v_free : wq vw (looseW vw []) = true := by kernel_rfl
theorem v_chkf : ((recsOf vw).all fun d => fb d.params d.scope) = true := by kernel_rfl
theorem v_chkl : wL vw = true := by kernel_rfl
end Mine
namespace Mine
open PySem PySem.Calls PyProof.Rows
section
variable {prog : Program} {w : World} {K : Frag} {rc : Addr} {A : Around} {E : Value → Shared → Prop} {s : Shared}

theorem tX {x dx : Addr} {u : Value} (i : d8 s.heap rc x dx u) : ∃ od, InstAt s.heap x (instObj rc dx) rc (some od) ∧ ∃ hs t n, od = dictOf [⟨hs, .str "clauses" t, u⟩] n := by
  refine nv i fun hs t n h1 h2 => ?_; try clear i
  exact ⟨_, ⟨h1, rfl, rfl, h2⟩, hs, t, n, rfl⟩

theorem meth_K (X : K.In s.heap) (hga : findIn K (.ref rc) "__getattribute__" = some (some (.builtin "object.__getattribute__"))) (hk : findIn K (.ref rc) "__getattr__" = some none) {m : Str} {f x dx : Addr} {u : Value} {pl : Sem Bool} {Q : Value × List Value → Shared → Prop}
    (hf : findIn K (.ref rc) m = some (some (.ref f))) (ht : typeIn K (.ref f) = some (.type "function")) (hm : (("clauses" : Str) == m) = false) (i : d8 s.heap rc x dx u) (h : Q (.ref f, [.ref x]) s) : wpAny (model prog w) A (getMethod (.ref x) m pl) Q E s := by
  obtain ⟨od, I, hs, t, n, rfl⟩ := tX i
  refine method_fn X I hga hk hf ht ?_ h
  have e1 : (Value.str (Str.ofString "clauses") t).isStr m = false := hm
  unfold shadowIn lookIn dictOf
  simp only [List.find?_cons, e1, List.find?_nil, List.any_cons, List.any_nil, DictEntry.refKey]
  rfl

theorem attr_K (X : K.In s.heap) (hga : findIn K (.ref rc) "__getattribute__" = some (some (.builtin "object.__getattribute__"))) {cd : ClassData} (hc : clsIn K rc = some cd) (hd : cd.hasDict = true) (hf : findIn K (.ref rc) "clauses" = some none)
    {x dx b : Addr} {Q : Value → Shared → Prop} (i : d8 s.heap rc x dx (.ref b)) (h : Q (.ref b) { s with toks := s.toks + 1 }) : wpAny (model prog w) A (getAttr (.ref x) "clauses" true) Q E s := by
  obtain ⟨od, I, hs, t, n, rfl⟩ := tX i
  refine get_value X I hga ?_ rfl h
  have e1 : (Value.str (Str.ofString "clauses") t).isStr (Str.ofString "clauses") = true := beq_self_eq_true _
  have e2 : W.ownOf cd (some (dictOf [⟨hs, .str "clauses" t, .ref b⟩] n)) "clauses" = some (some (.ref b)) := by
    unfold W.ownOf lookIn dictOf
    simp only [hd, List.find?_cons, e1]
    rfl
  unfold findObj
  rw [hc, hf]
  simp only [Option.bind_some, e2]
end
noncomputable abbrev initB : List Stmt := [.Assign [.Attribute (.Name "self" ⟨20, 8, 20, 12⟩) "clauses" ⟨20, 8, 20, 20⟩] (.Name "clauses" ⟨20, 23, 20, 30⟩) ⟨20, 8, 20, 30⟩]
noncomputable abbrev wZ : List (Str × NameKind) := [("self", .local), ("clauses", .local)]
theorem yt : nth (cD pwP "RegionTable") 0 = some (("__init__" : Str), (⟨["self", "clauses"], initB, wZ⟩ : Fn)) := by rfl
theorem yr {K : Frag} {h : Heap} (X : K.In h) (O : KOk K) : kF h 28 ⟨["self", "clauses"], initB, wZ⟩ := by
  refine aA (O.meth _ _ _ yt) fun a h1 h2 => ?_
  have e := beq_iff_eq.mp (Bool.and_eq_true_iff.mp h2).1
  rw [O.init] at e
  cases e
  exact wu X h1
section
variable {prog : Program} {w : World} {K : Frag} {hB : Heap}
theorem tg (h : (clsIn K 66).any (·.hasDict) = true) : ∃ cd, clsIn K 66 = some cd ∧ cd.hasDict = true := by
  cases q : clsIn K 66 with
  | none => rw [q] at h; exact fT h
  | some cd => rw [q] at h; exact ⟨cd, rfl, h⟩
theorem xm (X : K.In hB) (O : KOk K) (k : Nat) (m : Str) (fn : Fn) (hf : nth (cD pwP "RegionTable") k = some (m, fn)) : ∃ a, kF hB a fn ∧ ∀ (A : Around) (E : Value → Shared → Prop) (s : Shared) (x dx : Addr) (u : Value) (pl : Sem Bool) (Q : Value × List Value → Shared → Prop), bD hB s.heap → d8 s.heap 66 x dx u →
    Q (.ref a, [.ref x]) s → wpAny (model prog w) A (getMethod (.ref x) m pl) Q E s := by
  refine aA (O.meth k m fn hf) fun a h1 h2 => ?_
  unfold okA at h2
  simp only [Bool.and_eq_true, beq_iff_eq, Bool.not_eq_true'] at h2
  exact ⟨a, wu X h1, fun A E s x dx u pl Q k i q => meth_K (X.keeps k) O.ga O.gat h2.1 h2.2.1 h2.2.2 i q⟩
theorem xp (X : K.In hB) (O : KOk K) (A : Around) (E : Value → Shared → Prop) (s : Shared) (x dx : Addr) (u : Value) (Q : Value → Shared → Prop) (k : bD hB s.heap) (i : d8 s.heap 66 x dx u) (h : ∀ tk, Q u { s with toks := tk }) (hu : ∃ b, u = .ref b) :
    wpAny (model prog w) A (getAttr (.ref x) "clauses" true) Q E s := by
  obtain ⟨b, rfl⟩ := hu
  refine aA (tg O.dict) fun cd h1 h2 => ?_
  exact attr_K (X.keeps k) O.ga h1 h2 O.cl i (h _)
set_option tactic.hygienic true in
theorem xo (X : K.In hB) (O : KOk K) (h : Heap) (k : bD hB h) : Looks (model prog w) h (keeperOf (.ref 66)) .machine := by
  have X' := X.keeps k
  refine aA (tg O.dict) fun cd h1 Z => ?_
  unfold clsIn at h1
  split at h1
  · rename_i oc od cd sl ho
    exact (Looks.ld (part := none) (X' 66 _ ho)).andThen ((looks_specialIn X' O.keep).andThen .now)
  · exact nS h1
theorem xn (hnl : hB.NoLimit) (X : K.In hB) (O : KOk K) (A : Around) (E : Value → Shared → Prop) (s : Shared) (b : Addr) (Q : Value → Shared → Prop) (gw : bD hB s.heap) (room : Room A 3)
    (h : ∀ s' x dx, Gr s s' → s.heap.get? x = none → s.heap.get? dx = none → d8 s'.heap 66 x dx (.ref b) → Q (.ref x) s') : wpAny (model prog w) A (call (.ref 66) [.ref b]) Q E s := by
  have X1 := X.keeps gw
  have hnl1 := hnl.keeps gw
  refine wpAny_call ?_
  obtain ⟨hh, g, d, t, os⟩ := s
  refine make_core (makes_of X1 O.make) (looks_findIn X1 O.init) (fun self => bind_fn X1 self O.tinit) (.inl rfl) ?_
  obtain ⟨o, fd, p, sc, code, ho, hd', rfl, rfl, rfl, hb, hglob, hcl, q5, hbui, hcode, hst, hps, hn⟩ := yr X1 O
  unfold fb at hst
  simp only [Bool.and_eq_true, Bool.not_eq_true', List.isEmpty_iff, Option.isNone_iff_eq_none] at hst
  obtain ⟨⟨⟨⟨⟨⟨⟨⟨⟨⟨q1, q2⟩, q3⟩, q4⟩, -⟩, -⟩, c3⟩, c2⟩, c1⟩, -⟩, -⟩ := hst
  replace c3 : fd.scope.kind = .function := by
    cases q : fd.scope.kind with
    | function => rfl
    | _ => rw [q] at c3; exact fT c3
  clear hglob hbui
  have k2 : bD hh ((hh.push emptyDict).push (instObj 66 hh.objs.size)) := fun b o e => Heap.get?_push_of_some _ (Heap.get?_push_of_some _ e)
  have X2 := X1.keeps k2
  have gx : ((hh.push emptyDict).push (instObj 66 hh.objs.size)).get? (hh.objs.size + 1) = some (instObj 66 hh.objs.size) := by heap_get
  have gd : ((hh.push emptyDict).push (instObj 66 hh.objs.size)).get? hh.objs.size = some emptyDict := by heap_get
  have fx : hh.get? (hh.objs.size + 1) = none := Heap.get?_none_of_le (Nat.le_succ _)
  have fd0 : hh.get? hh.objs.size = none := Heap.get?_none_of_le (Nat.le_refl _)
  generalize hh.objs.size + 1 = x at *
  have hr := room.depth
  refine codeAny_call_function (by show A.depth + 1 < _; (lia -abstractProof)) (k2 _ _ ho) hd' c1 c2 hb (hcode.keeps k2) ?_
  have hlen : fd.params.args.length = 2 := by have := congrArg List.length hps; rw [List.length_map] at this; exact this.symm
  rw [jb q1 q2 q3 q4 q5 (by rw [hlen]; rfl) (by rw [← hps]; decide), ← hps]
  refine wpAny_pure ?_
  rw [hcl]
  refine wpAny_newFunctionEnv_cells c3 (fun y hy => .inl ?_) fun env he s' xx => ?_
  · rw [← hn]
    rcases List.mem_cons.mp hy with rfl | hy
    · rfl
    · rcases List.mem_cons.mp hy with rfl | hy
      · rfl
      · cases hy
  have gr2 : bD ((hh.push emptyDict).push (instObj 66 hh.objs.size)) s'.heap := xx.toInCall.keep
  have gr : bD hh s'.heap := k2.trans gr2
  refine cY xx.toInCall.same fun h₁ tk hs' => ?_
  have hns := xx.toInCall.ns
  have hfresh := xx.toInCall.fresh
  have sx : x < ((hh.push emptyDict).push (instObj 66 hh.objs.size)).objs.size := Heap.lt_size gx
  have sd : hh.objs.size < ((hh.push emptyDict).push (instObj 66 hh.objs.size)).objs.size := Heap.lt_size gd
  have ek : env.scope = fd.scope := by rw [he]; rfl
  have k_self : env.kindOf "self" = some .local := by unfold Env.kindOf; rw [ek, ← hn]; rfl
  have k_cls : env.kindOf "clauses" = some .local := by unfold Env.kindOf; rw [ek, ← hn]; rfl
  have m_self := jc env.kindOf "self" (.ref x) k_self (([("self" : Str), ("clauses" : Str)]).zip [.ref x, .ref b]) (fun Z => none) (by show ([("self" : Str), ("clauses" : Str)]).Nodup; decide) (.head _)
  have m_cls := jc env.kindOf "clauses" (.ref b) k_cls (([("self" : Str), ("clauses" : Str)]).zip [.ref x, .ref b]) (fun Z => none) (by show ([("self" : Str), ("clauses" : Str)]).Nodup; decide) (.tail _ (.head _))
  have kk : env.scope.kind = .function := by rw [ek]; exact c3
  refine ⟨(hnl1.keeps k2).keeps gr2, codeAny_func ?_⟩
  have X3 := X2.keeps gr2
  have F : Fr hh env.locals s'.heap (bindL env.kindOf (([("self" : Str), ("clauses" : Str)]).zip [.ref x, .ref b]) fun Z => none) := ⟨hns, gr, by have : hh.objs.size < ((hh.push emptyDict).push (instObj 66 hh.objs.size)).objs.size := sd; dsimp only at hfresh; (lia -abstractProof)⟩
  have N : News hh env.locals s'.heap ([(x, instObj 66 hh.objs.size)] ++ (hh.objs.size, emptyDict) :: []) := by
    intro p hp
    rcases List.mem_cons.mp hp with rfl | hp
    · exact ⟨gr2 _ _ gx, Nat.ne_of_lt (Nat.lt_of_lt_of_le sx hfresh), fx⟩
    · rcases List.mem_cons.mp hp with rfl | hp
      · exact ⟨gr2 _ _ gd, Nat.ne_of_lt (Nat.lt_of_lt_of_le sd hfresh), fd0⟩
      · cases hp
  refine wpAny_execs_cons ?_
  refine plainObj_wpAny_Assign_Attribute ?_ 
  refine wpAny_Name (wpAny_loadName_local kk k_cls hns m_cls ?_)
  refine wpAny_Name (wpAny_loadName_local kk k_self hns m_self ?_)
  refine set_plain X3 (od := some emptyDict) (ox := instObj 66 hh.objs.size) (C := 66) ⟨gr2 _ _ gx, rfl, rfl, gr2 _ _ gd⟩ O.set ?_
  have nxd : x ≠ hh.objs.size := fun e => by
    subst e
    rw [gd] at gx; cases gx
  refine osa_dict (s := { s' with toks := s'.toks + 1 }) (pre := [(x, instObj 66 hh.objs.size)]) (post := []) (es := [⟨PyData.keyHash w.params "clauses", .str "clauses" (s'.toks + 1), .ref b⟩]) (n := 1) F N X3 ⟨gr2 _ _ gx, rfl, rfl, gr2 _ _ gd⟩ rfl O.over O.taker O.dict rfl
    (fun p hp => by rcases List.mem_cons.mp hp with rfl | hp; exact nxd; cases hp) (fun p hp => nomatch hp) (putName_dict "clauses" _ _ _ [] 0) rfl (by show 1 ≤ 1000; decide) fun h' F' N' => ?_
  refine wpAny_execs_nil ?_
  refine ⟨rfl, h _ x hh.objs.size ⟨F'.keep, ?_, ?_⟩ fx fd0 ⟨_, _, _, (N' _ (.head _)).1, (N' _ (.tail _ (.head _))).1⟩⟩
  · show s'.gens = g; rw [hs']
  · show s'.os = os; rw [hs']
end
end Mine
namespace Mine
open PySem PySem.Calls PyProof.Rows
theorem tW {rc : Addr} {h : Heap} {F : aR} {vs : List Value} {ns : List Int} (x : IntsAre vs ns) : RdAll rc h F (ns.map PyData.int) vs ∧ vs.length = ns.length := by
  induction x with
  | nil => exact ⟨rfl, rfl⟩
  | cons n t r ih => exact ⟨RdAll.cons au ih.1, congrArg (· + 1) ih.2⟩
noncomputable def tv : Prop := ∀ xs : List Int, (gN TT 9).call 46 [.list (xs.map .int)] = some (.bool true)
theorem sV {n : Nat} (h : n ≤ 100) : Room callerA (n + 4) := ⟨rfl, by show 1 + claimMargin + (n + 4) + 200 < recursionLimit; unfold claimMargin recursionLimit; (lia -abstractProof), by show 4 + 8 * (n + 4) + 300 < cLine; unfold cLine; (lia -abstractProof)⟩
theorem wd_top {w : World} {mg mb : Str → Option Value} {h : Heap} {mean : ExcName → Option Value} {K : Frag} (T : Top vw (looseW vw []) mean mg mb h) (X : K.In h) (O : KOk K) : Wd pwP w 66 h mg := {
  tree := rfl
  g := T.g
  b := ⟨mb, T.b, T.builtins⟩
  nolimit := T.nolimit
  seer := T.seer (by kernel_rfl)
  const := fun x d h => um T v_chkl x d (by rw [v_lits]; exact h)
  free := fun x hx => wp T v_free x hx
  region := mg_K X T.g O.region
  fns := fun k d h => yw T v_chkf (by rw [v_recs]; exact List.mem_of_getElem? (gq _ _ ▸ h))
  attr := fun A E s x dx u Q k i h hu => xp X O A E s x dx u Q k i h hu
  meth := fun k m fn hf => xm X O k m fn hf
  make := fun A E s b Q gw room Z h => xn T.nolimit X O A E s b Q gw room h
  keep := fun h k => xo X O h k }
theorem tQ : (defOf vw "law").isSome = true := by kernel_rfl
noncomputable def m8 : DefRec × List (Str × Expr) := (defOf vw "law").get tQ
theorem tP : defOf vw "law" = some (m8.1, m8.2) := (Option.some_get tQ).symm
theorem said : PySem.Challenge.rw_xm0262_01.wellSaid = true := by
  rw [PySem.W.Fast.te9446332074065402090]
  kernel_rfl
theorem yf : pwP.theDef "law" = some (m8.1.params, m8.1.body, m8.1.scope) := by kernel_rfl
theorem law_kw : kwWritten? m8.1.params.kwonlyargs m8.1.params.kw_defaults = some m8.2 := by kernel_rfl
theorem law_ok : (chainsOk vw && opensWell pwP && (frees vi && vi.within.isEmpty)) = true := by kernel_rfl
theorem law_at : (nth (recsOf pwP) 46).map (·.name) = some "law" := by kernel_rfl
set_option tactic.hygienic true in
theorem law_of (L : tv) : PySem.Challenge.rw_xm0262_01.Holds := by
  refine holds_law said fun rsaid => ?_
  refine holds_open (q := vw) (loose := []) (Xt := fun s => xlAt vw [] s && recOk (RowW.records vi) s) (XP := XL vw []) (Yf := Obs) (Ya := fun Z => Val) (YP := fun Z h => ze h) (N := 4142) (d := m8.1) (kwd := m8.2) leftW (fun Z Z e => yE e) (fun Z Z Z x k => rQ x k) (fun s e => xl_of s (Bool.and_eq_true_iff.mp e).1) XL.keeps tP yf law_kw (fun s e => recFacts_of (Bool.and_eq_true_iff.mp e).2) (by rfl) rsaid law_ok ⟨rfl, rfl, rfl, rfl, rfl, by decide +kernel⟩ ?_ ?_
  · w_witness2
  intro w s₀ s₁ mg mb G Y fa o pm cd doc dV kV ho hd hcd hD hmg hg args vals as hpre hlay hrd hwl hlo
  obtain ⟨K, X, hK, eK⟩ := Y
  have T := G.T
  have W := wd_top (w := w) T X (kok_of hK eK)
  have hmg : mg "law" = some (.ref fa) := by rw [← defOf_name tP]; exact hmg
  clear hcd ho hD hd G X T hK eK
  wrow_args hpre hlay hrd hwl hlo
  rename_i xs _ _ _ _ _ _ _ la vs _ hL _ _ _ hI _ hlen _
  have hvl : vs.length = xs.length := (tW (rc := 66) (h := s₁.heap) (F := fun Z => False) hI).2
  have rd : RdAll 66 s₁.heap (fun Z => False) [PyData.list (xs.map .int)] [.ref la] := by
    refine RdAll.cons ?_ rfl
    exact ⟨la, _, rfl, hL, id, by show vs.toArray.size ≤ _; rw [List.size_toArray, hvl]; unfold aF; (lia -abstractProof), by rw [List.toList_toArray]; exact (tW hI).1⟩
  obtain ⟨d0, e0, n0⟩ := Option.map_eq_some_iff.mp law_at
  obtain ⟨a, o, fd, e1, _, _, run⟩ := (yK (K := ⟨w, s₁.heap, mg, gN TT 0, 0⟩) W 9).1.CK.call 46 [PyData.list (xs.map .int)] _ d0 e0 (L xs)
  rw [n0, show (Cfg.at _ 9).mg = mg from rfl, hmg] at e1
  cases e1
  refine wpAny_mono (run callerA s₁ (fun Z => False) [.ref la] (sV (n := 8) (by decide)) ⟨[], rfl⟩ (.refl _) (fun Z q => q.elim) rd) (fun v s' q => ?_) fun Z Z f => f.elim
  obtain ⟨q, gr⟩ := q
  obtain rfl := q
  refine GoodW.toG ⟨.inl ⟨_, _, [], rfl, fun Z => rfl, ReadsW.bool true, (by first | decide | wrow_post), fun Z => ⟨List.nodup_nil, fun Z hm => (nomatch hm)⟩⟩, gr.grow, gr.os, by rw [gr.gens, hg]⟩
end Mine
namespace Mine
open PySem
theorem Ok.ex {α : Type} {X : Option α} {Q : α → Prop} (h : Ok X Q) : ∃ a, X = some a ∧ Q a := by
  cases X with
  | none => exact h.elim
  | some a => exact ⟨a, rfl, h⟩
theorem xg {α : Type} {X : Option α} {Q Q' : α → Prop} (h : ∀ a, Q a ↔ Q' a) : Ok X Q ↔ Ok X Q' := ⟨fun k => k.mono fun a => (h a).mp, fun k => k.mono fun a => (h a).mpr⟩
@[simp] noncomputable def Fl.goes : Fl → Prop
  | .ret _ => False
  | _ => True
noncomputable def cont (g : G) (r : List IS) (Q : Fl × Rho → Prop) (x : Fl × Rho) : Prop := match x.1 with
  | .next => Ok (exIs g x.2 r) Q
  | _ => Q x
@[simp] theorem zh {g : G} {s : IS} {r : List IS} {Q : Fl × Rho → Prop} {ρ : Rho} : Ok (exIs g ρ (s :: r)) Q ↔ Ok (exI g ρ s) (cont g r Q) := by
  rw [exIs_c]
  rw [aC]
  exact xg fun ⟨fl, ρ'⟩ => by cases fl <;> exact Iff.rfl
noncomputable def ku (Q : D × Rho → Prop) (x : Fl × Rho) : Prop := match x.1 with
  | .ret d => Q (d, x.2)
  | .next => Q (.none, x.2)
  | .cont => False
theorem sk {g : G} {f : IFn} {lvs : List LV} {Q : D × Rho → Prop} (hl : (lvs.length == f.ps) = true) (h : Ok (exIs g (iW 0 lvs fun Z => none) f.body) (ku Q)) : Ok (gC g f lvs) Q := by
  unfold gC
  rw [hl]
  refine aC.mpr (h.mono fun x hx => ?_)
  obtain ⟨fl, ρ⟩ := x
  cases fl with
  | next => exact hx
  | ret d => exact hx
  | cont => exact hx.elim
noncomputable def kb (k : Nat) : List D → Rho → Rho
  | [], ρ => ρ
  | d :: ds, ρ => kb (k + 1) ds (upd ρ k (.val d))
theorem zb (k d ds ρ) : kb k (d :: ds) ρ = kb (k + 1) ds (upd ρ k (.val d)) := rfl
theorem fh : ∀ (ds : List D) (k : Nat) (ρ : Rho), iW k (ds.map .val) ρ = kb k ds ρ
  | [], _, _ => rfl
  | _ :: ds, k, ρ => fh ds (k + 1) (upd ρ k _)
noncomputable def emp : Rho := fun Z => none
theorem vf {g : G} {fn : IFn} {ds : List D} {d : D} (hl : (ds.length == fn.ps) = true) (h : Ok (exIs g (kb 0 ds emp) fn.body) (ku fun r => r.1 = d)) : (gC g fn (ds.map .val)).map (·.1) = some d := by
  have h' := h
  rw [← fh] at h'
  refine aA ((sk (lvs := ds.map .val) (by rw [List.length_map]; exact hl) h').ex) fun r e q => ?_
  rw [e, ← q]; rfl
theorem zZ {f : Nat} {fn : IFn} (n : Nat) {ds : List D} {d : D} (hf : nth dU f = some fn) (hio : TT.ios.contains f = false) (hl : (ds.length == fn.ps) = true)
    (h : Ok (exIs (gN TT n) (kb 0 ds emp) fn.body) (ku fun r => r.1 = d)) : (gN TT (n + 1)).call f ds = some d := by
  show (bif TT.ios.contains f then none else (nth dU f).bind fun fn => (gC (gN TT n) fn (ds.map .val)).map (·.1)) = _
  rw [hio, hf, cond_false, Option.bind_some]
  exact vf hl h
theorem yY {f : Nat} {fn : IFn} (n : Nat) {ds : List D} {d : D} (hf : nth da f = some fn) (hl : (ds.length == fn.ps) = true)
    (h : Ok (exIs (gN TT n) (kb 0 ds emp) fn.body) (ku fun r => r.1 = d)) : (gN TT (n + 1)).meth f ds = some d := by
  show (nth da f).bind (fun fn => (gC (gN TT n) fn (ds.map .val)).map (·.1)) = _
  rw [hf, Option.bind_some]
  exact vf hl h
theorem an {g : G} {s : IS} {r : List IS} {Q : Fl × Rho → Prop} {ρ : Rho} (h : Ok (exI g ρ s) (cont g r Q)) : Ok (exIs g ρ (s :: r)) Q := zh.mpr h

noncomputable def dW {α β : Type} (f : β → α → Sum β D) : List α → β → Sum β D
  | [], b => .inl b
  | a :: r, b => match f b a with
    | .inl b' => dW f r b'
    | .inr d => .inr d
theorem jR {α β : Type} (f : β → α → Sum β D) (a r b) : dW f (a :: r) b = (match f b a with
    | .inl b' => dW f r b'
    | .inr d => .inr d) := rfl
theorem foldR_n {α β : Type} (f : β → α → Sum β D) (b) : dW f [] b = .inl b := rfl
theorem jj {α β : Type} {enc : α → D} {step : D → Rho → Option (Fl × Rho)} {Q : Fl × Rho → Prop} (I : β → Rho → Prop) (f : β → α → Sum β D) : ∀ (xs : List α) (b : β) (ρ : Rho), I b ρ →
    (∀ a ∈ xs, ∀ b ρ, I b ρ → Ok (step (enc a) ρ) fun x => match f b a with
      | .inl b' => I b' x.2 ∧ x.1.goes
      | .inr d => x.1 = .ret d) →
    (match dW f xs b with
      | .inl b' => ∀ ρ', I b' ρ' → Q (.next, ρ')
      | .inr d => ∀ ρ', Q (.ret d, ρ')) → Ok (mJ step (xs.map enc) ρ) Q
  | [], b, ρ, hI, _, hk => hk ρ hI
  | a :: xs, b, ρ, hI, hs, hk => by
    rw [jR] at hk
    refine aC.mpr ((hs a (.head _) b ρ hI).mono fun x hx => ?_)
    obtain ⟨fl, ρ'⟩ := x
    cases e : f b a with
    | inl b' =>
      rw [e] at hx hk
      cases fl with
      | ret d => exact hx.2.elim
      | next => exact jj I f xs b' ρ' hx.1 (fun a m => hs a (.tail _ m)) hk
      | cont => exact jj I f xs b' ρ' hx.1 (fun a m => hs a (.tail _ m)) hk
    | inr d =>
      rw [e] at hx hk
      cases (show fl = .ret d from hx)
      exact hk ρ'
theorem Ok_for {α β : Type} {enc : α → D} {step : D → Rho → Option (Fl × Rho)} {Q : Fl × Rho → Prop} (I : β → Rho → Prop) (f : β → α → β) (xs : List α) (b : β) (ρ : Rho) (hI : I b ρ)
    (hs : ∀ a ∈ xs, ∀ b ρ, I b ρ → Ok (step (enc a) ρ) fun x => I (f b a) x.2 ∧ x.1.goes)
    (hk : ∀ ρ', I (xs.foldl f b) ρ' → Q (.next, ρ')) : Ok (mJ step (xs.map enc) ρ) Q := by
  refine jj I (fun b a => .inl (f b a)) xs b ρ hI hs ?_
  have : ∀ (l : List α) (b : β), dW (fun b a => Sum.inl (f b a)) l b = .inl (l.foldl f b) := by
    intro l
    induction l with
    | nil => intro b; rfl
    | cons a l ih => intro b; exact ih _
  rw [this]; exact hk
theorem Ok_all {α : Type} {enc : α → D} {step : D → Rho → Option (Fl × Rho)} {Q : Fl × Rho → Prop} (I : Rho → Prop) (p : α → Bool) (d : D) (xs : List α) (ρ : Rho) (hI : I ρ)
    (hs : ∀ a ∈ xs, ∀ ρ, I ρ → Ok (step (enc a) ρ) fun x => if p a then I x.2 ∧ x.1.goes else x.1 = .ret d)
    (hk1 : xs.all p = true → ∀ ρ', I ρ' → Q (.next, ρ')) (hk2 : xs.all p = false → ∀ ρ', Q (.ret d, ρ')) : Ok (mJ step (xs.map enc) ρ) Q := by
  refine jj (β := Unit) (fun Z => I) (fun Z a => if p a then .inl () else .inr d) xs () ρ hI (fun a m b ρ h => ?_) ?_
  · have := hs a m ρ h
    cases q : p a <;> simpa [q] using this
  · have : ∀ l : List α, dW (fun Z a => if p a then Sum.inl () else .inr d) l () = if l.all p then .inl () else .inr d := by
      intro l
      induction l with
      | nil => rfl
      | cons a l ih =>
        rw [jR, List.all_cons]
        cases q : p a
        · rfl
        · simpa using ih
    rw [this]
    cases q : xs.all p
    · exact hk2 q
    · exact hk1 q
theorem mR (n : Nat) : bz n 1 = min 1 n := by simp [bz]
@[simp] theorem zQ {α β : Type} (f : α → β) (xs : List α) : db none (some 1) (xs.map f) = (xs.take 1).map f := by
  unfold db
  simp only [mR, List.length_map, List.drop_zero, Nat.sub_zero]
  cases xs with
  | nil => rfl
  | cons a r =>
    have : min 1 (a :: r).length = 1 := by rw [List.length_cons]; (lia -abstractProof)
    rw [this, List.map_take]
/- behind the first -/
@[simp] theorem zR {α β : Type} (f : α → β) (xs : List α) : db (some 1) none (xs.map f) = (xs.drop 1).map f := by
  unfold db
  simp only [mR, List.length_map]
  cases xs with
  | nil => rfl
  | cons a r =>
    have : min 1 (a :: r).length = 1 := by rw [List.length_cons]; lia
    rw [this, List.drop_one, List.drop_one, List.map_cons, List.tail_cons, List.tail_cons, List.length_cons, Nat.add_sub_cancel, ← List.length_map (f := f), List.take_length]
@[simp] theorem xI {α : Type} (a : α) (xs : List α) : db none (some 1) (a :: xs) = [a] := by
  have := zQ id (a :: xs)
  simpa using this
@[simp] theorem mM {α : Type} (a : α) (xs : List α) : db (some 1) none (a :: xs) = xs := by
  have := zR id (a :: xs)
  simpa using this
theorem c8 {i : Int} (h : i ≤ 1000000) : i < aj := by unfold aj; exact ilt (by assumption) (by decide)
theorem lC {i : Int} (h : -1000000 ≤ i) : -aj < i := by unfold aj; exact ige (by assumption) (by decide)
theorem jo {i b : Int} (h : i < b) (d : b ≤ 1000000) : i < aj := c8 (ilw h d)
theorem oa {i : Int} (h : 0 ≤ i) : -aj < i := lC (ige h (by decide))
theorem dl {i : Int} {n : Nat} (h : i < n) (hn : n ≤ 100) : i < aj := c8 (Int.le_trans (Int.le_of_lt h) (icl hn (by decide)))
theorem toNat_lt {i : Int} {n : Nat} (h0 : 0 ≤ i) (h : i < n) : i.toNat < n := (Int.toNat_lt h0).mpr h
theorem vS {i : Int} {n : Nat} (h0 : 0 ≤ i) (h : i < n) (hn : n ≤ 100) : (0 ≤ i + 1 ∧ i + 1 ≤ n) ∧ -aj < i + 1 ∧ i + 1 < aj := ⟨⟨Int.le_of_lt (Int.lt_add_one_of_le h0), h⟩, oa (Int.le_of_lt (Int.lt_add_one_of_le h0)), c8 (Int.le_trans h (icl hn (by decide)))⟩
theorem tN {m : Int} {n : Nat} (h0 : 0 ≤ m) (h : m < n) : min m.toNat n + 1 + (n - (m + 1).toNat) = n := by
  obtain ⟨k, rfl⟩ := Int.eq_ofNat_of_zero_le h0
  have h : k < n := Int.ofNat_lt.mp h
  show min k n + 1 + (n - (k + 1)) = n
  rw [Nat.min_eq_left (Nat.le_of_lt h)]
  exact Nat.add_sub_of_le h
theorem pg {a n k : Nat} (h : n ≤ 100) (hk : k ≤ 100) : min a n + k ≤ aF := Nat.le_trans (Nat.add_le_add (Nat.min_le_right a n) hk) (nle (Nat.add_le_add_right h 100) (by decide))
theorem yC {n : Nat} (h : n ≤ 100) : n ≤ aF := nle h (by decide)
theorem sn {i : Int} {n b : Nat} (h : i < n) (hn : n ≤ b) (d : (b : Int) ≤ 1000000) : i < aj := c8 (Int.le_trans (Int.le_of_lt h) (icl hn d))
theorem rJ {k n : Nat} (h : k < n) (hn : n ≤ 100) : (k : Int) < aj := dl (Int.ofNat_lt.mpr h) hn
theorem yc {c n : Nat} (k : Nat) (h : c < n) (hn : n ≤ 100) (hk : k ≤ 100) : min c n + k + (n - (c + 1)) ≤ aF := by
  rw [Nat.min_eq_left (Nat.le_of_lt h), Nat.add_right_comm]
  exact Nat.le_trans (Nat.add_le_add (Nat.add_le_add (Nat.le_trans (Nat.le_of_lt h) hn) (Nat.le_trans (Nat.sub_le ..) hn)) hk) (by decide)
theorem zg {α β : Type} {enc : α → D} {step : D → Rho → Option (Fl × Rho)} {Q : Fl × Rho → Prop} (I : Nat → β → Rho → Prop) (f : β → α → β) (xs : List α) : ∀ (k : Nat) (b : β) (ρ : Rho), I k b ρ →
    (∀ j a, xs[j]? = some a → ∀ b ρ, I (k + j) b ρ → Ok (step (enc a) ρ) fun x => I (k + j + 1) (f b a) x.2 ∧ x.1.goes) →
    (∀ ρ', I (k + xs.length) (xs.foldl f b) ρ' → Q (.next, ρ')) → Ok (mJ step (xs.map enc) ρ) Q := by
  induction xs with
  | nil => intro k b ρ hI _ hk; exact hk ρ hI
  | cons a xs ih =>
    intro k b ρ hI hs hk
    refine aC.mpr ((hs 0 a rfl b ρ hI).mono fun x hx => ?_)
    obtain ⟨fl, ρ'⟩ := x
    have go : Ok (mJ step (xs.map enc) ρ') Q := ih (k + 1) (f b a) ρ' hx.1 (fun j a' e b ρ hI => by
      have := hs (j + 1) a' (by rw [List.getElem?_cons_succ]; exact e) b ρ (by rw [show k + (j + 1) = k + 1 + j by (lia -abstractProof)]; exact hI)
      rw [show k + (j + 1) + 1 = k + 1 + j + 1 by (lia -abstractProof)] at this
      exact this) fun ρ'' hI => hk ρ'' (by rw [List.length_cons, show k + (xs.length + 1) = k + 1 + xs.length by (lia -abstractProof)]; exact hI)
    cases fl with
    | ret d => exact hx.2.elim
    | next => exact go
    | cont => exact go
theorem bk {α : Type} {enc : α → D} (h : ∀ a, bf (enc a) = true) : ∀ xs : List α, flatAll (xs.map enc) = true
  | [] => rfl
  | a :: xs => by rw [List.map_cons, j6, h a, bk h xs]; rfl
structure Cl where
  s : Int
  t0 : Int
  t1 : Int
  h0 : Int
  h1 : Int
  x : Int
noncomputable abbrev aL (c : Cl) : D := .tuple [.int c.s, .int c.t0, .int c.t1, .int c.h0, .int c.h1, .int c.x]
noncomputable abbrev Pr := Int × Int
noncomputable abbrev aZ (p : Pr) : D := .tuple [.int p.1, .int p.2]
noncomputable abbrev cC (o : Int) : D := .tuple [.int o, .int 0]

noncomputable def Sm (k : Nat) (d : D) : Prop := d.canLay0 = true ∧ d.depth ≤ k
theorem dA (i : Int) (k : Nat) : Sm (k + 1) (.int i) := ⟨rfl, by simp [PyData.depth]⟩
theorem lF (i : Bool) (k : Nat) : Sm (k + 1) (.bool i) := ⟨rfl, by simp [PyData.depth]⟩
theorem lX {k : Nat} : ∀ {ds : List D}, (∀ d ∈ ds, Sm k d) → PyData.canLayAll0 ds = true ∧ PyData.depthAll ds ≤ k
  | [], _ => ⟨rfl, by simp [PyData.depthAll]⟩
  | d :: ds, h => by
    obtain ⟨a, b⟩ := h d (.head _)
    obtain ⟨c, e⟩ := lX fun x m => h x (.tail _ m)
    exact ⟨by simp [PyData.canLayAll0, a, c], by simp only [PyData.depthAll]; (lia -abstractProof)⟩
theorem lE {k : Nat} {ds : List D} (h : ∀ d ∈ ds, Sm k d) : Sm (k + 1) (.list ds) := ⟨by simpa [PyData.canLay0] using (lX h).1, by have := (lX h).2; simp only [PyData.depth]; exact Nat.lt_succ_of_le (by assumption)⟩
theorem gK {k : Nat} {ds : List D} (h : ∀ d ∈ ds, Sm k d) : Sm (k + 1) (.tuple ds) := ⟨by simpa [PyData.canLay0] using (lX h).1, by have := (lX h).2; simp only [PyData.depth]; exact Nat.lt_succ_of_le (by assumption)⟩
theorem cS {α : Type} {enc : α → D} {k : Nat} (h : ∀ a, Sm k (enc a)) (xs : List α) : Sm (k + 1) (.list (xs.map enc)) := lE fun d m => by
  refine aA (List.mem_map.mp m) fun a Z e2_ => ?_; obtain rfl := e2_
  exact h a
theorem nV {k : Nat} {d : D} (h : Sm k d) (hk : Nat.ble k 64 = true) : SeqAt.shaped d = true := by
  unfold SeqAt.shaped
  rw [h.1, Bool.true_and]
  exact decide_eq_true (Nat.le_trans h.2 (Nat.le_of_ble_eq_true hk))
theorem eu {k l : Nat} {a b : D} (h : Sm k a) (h' : Sm l b) (hk : Nat.ble k 64 = true) (hl : Nat.ble l 64 = true) : qH a b = true := by
  unfold qH
  rw [nV h hk, nV h' hl]; rfl
theorem kq (p : Pr) : Sm 3 (aZ p) := gK fun d m => by
  simp only [List.mem_cons, List.not_mem_nil, or_false] at m
  rcases m with rfl | rfl <;> exact dA _ _
theorem vY (c : Cl) : Sm 3 (aL c) := gK fun d m => by
  simp only [List.mem_cons, List.not_mem_nil, or_false] at m
  rcases m with rfl | rfl | rfl | rfl | rfl | rfl <;> exact dA _ _
theorem lK (i j : Int) : (PyData.int i).eqv (.int j) = decide (i = j) := by
  simp only [PyData.eqv]; rfl
theorem te (a b : Pr) : (aZ a).eqv (aZ b) = decide (a = b) := by
  obtain ⟨a1, a2⟩ := a
  obtain ⟨b1, b2⟩ := b
  simp only [PyData.eqv, PyData.eqvAll, Prod.mk.injEq, Bool.and_true]
  by_cases h1 : a1 = b1 <;> by_cases h2 : a2 = b2 <;> simp [h1, h2]
theorem pM {α : Type} {enc : α → D} (he : ∀ a b, (enc a).eqv (enc b) = true ↔ a = b) : ∀ (xs ys : List α), PyData.eqvAll (xs.map enc) (ys.map enc) = true ↔ xs = ys
  | [], [] => by simp [PyData.eqvAll]
  | [], y :: ys => by simp [PyData.eqvAll]
  | x :: xs, [] => by simp [PyData.eqvAll]
  | x :: xs, y :: ys => by rw [List.map_cons, List.map_cons, PyData.eqvAll, Bool.and_eq_true, he, pM he xs ys, List.cons.injEq]
theorem qn (i j : Bool) : (PyData.bool i).eqv (.bool j) = (i == j) := by
  simp only [PyData.eqv]
@[simp] theorem zW (i j : Bool) : be .Eq (.bool i) (.bool j) = some (i == j) := by
  unfold be
  dsimp only
  rw [eu (lF _ 0) (lF _ 0) rfl rfl, if_pos rfl, qn]
@[simp] theorem th (i j : Bool) : be .NotEq (.bool i) (.bool j) = some (!(i == j)) := by
  unfold be
  dsimp only
  rw [eu (lF _ 0) (lF _ 0) rfl rfl, if_pos rfl, qn]
section
variable {p : Prop} [Decidable p] {c : Bool}
variable {b : Bool}
end
@[simp] theorem cmp_eq (i j : Int) : be .Eq (.int i) (.int j) = some (decide (i = j)) := by
  unfold be
  dsimp only
  rw [eu (dA _ 0) (dA _ 0) rfl rfl, if_pos rfl, lK]
@[simp] theorem cmp_ne (i j : Int) : be .NotEq (.int i) (.int j) = some (!decide (i = j)) := by
  unfold be
  dsimp only
  rw [eu (dA _ 0) (dA _ 0) rfl rfl, if_pos rfl, lK]

noncomputable def aM (c : Cl) : List Pr := if c.s = 1 then [(c.t0, c.t1), (c.x, c.h0), (c.h0, c.h1)] else [(c.t0, c.t1), (c.h0, c.h1)]
noncomputable def iu (a b : Pr) : Bool := decide (a.2 ≤ b.1) || decide (b.2 ≤ a.1)
noncomputable def cr (a b : Pr) : Bool := decide (b.1 ≤ a.1) && decide (a.2 ≤ b.2)
noncomputable def bl (ps qs : List Pr) : Bool := ps.all fun a => qs.all fun b => iu a b
noncomputable def allInside (ps qs : List Pr) : Bool := qs.any fun b => ps.all fun a => cr a b

end Mine
namespace Mine
open PySem
section
variable {g : G} {ρ : Rho} {w : Option D} {own : Bool}
@[simp] theorem yj {f a} : evIter g ρ own w (.call f a) = (w.map (·, false)).bind fun a => bif a.2 && !own then none else ba a.1 := rfl
@[simp] theorem pk_v {i} : bW ρ w (.v i) = tB (ρ i) := rfl
@[simp] theorem wV {as} : evIter g ρ own w (.range as) = (evEs g ρ as).bind dD := rfl
@[simp] theorem yh {a} : evIter g ρ own w (.enum a) = (evI g ρ a).bind w9 := rfl
@[simp] theorem evT_no {x} : evT g ρ w (.no x) = (evT g ρ (evI g ρ x) x).map (!·) := rfl
@[simp] theorem zA {op a b} : evT g ρ w (.cmp op a b) = (bW ρ (evI g ρ a) a).bind fun x => (bW ρ (evI g ρ b) b).bind fun y => be op x.1 y.1 := rfl
@[simp] theorem ql {op op' a b c} : evT g ρ w (.cmp2 op op' a b c) = (bW ρ (evI g ρ a) a).bind fun x => (bW ρ (evI g ρ b) b).bind fun y => (be op x.1 y.1).bind fun t =>
      bif t then (bW ρ (evI g ρ c) c).bind fun z => be op' y.1 z.1 else some false := rfl
@[simp] theorem hO {op a b} : evI g ρ (.bin op a b) = (bW ρ (evI g ρ a) a).bind fun x => (evI g ρ b).bind fun y => ux op x.1 y := rfl
@[simp] theorem zC {x n} : evI g ρ (.rep x n) = (evI g ρ x).bind fun a => (evI g ρ n).bind fun b => yN a b := rfl
@[simp] theorem evI_no {x} : evI g ρ (.no x) = ((evI g ρ x).bind c7).map fun b => .bool (!b) := rfl
@[simp] theorem tc {t b o} : evI g ρ (.ite t b o) = (evT g ρ (evI g ρ t) t).bind fun c => bif c then evI g ρ b else evI g ρ o := rfl
@[simp] theorem ta {es} : evI g ρ (.tup es) = (evEs g ρ es).map .tuple := rfl
@[simp] theorem zD {es} : evI g ρ (.lst es) = (evEs g ρ es).map .list := rfl
@[simp] theorem zE {a i} : evI g ρ (.idx a i) = (bW ρ (evI g ρ a) a).bind fun x => (evI g ρ i).bind fun k => gT x.1 k := rfl
@[simp] theorem pK {a lo hi} : evI g ρ (.cut a lo hi) = (bW ρ (evI g ρ a) a).bind fun x => ((evI g ρ lo).bind o5).bind fun l => ((evI g ρ hi).bind o5).bind fun h => ul l h x.1 := rfl
@[simp] theorem zB {a} : evI g ρ (.rev a) = (bW ρ (evI g ρ a) a).bind fun x => yM x.1 := rfl
@[simp] theorem qm {f as} : evI g ρ (.call f as) = (evArgs g ρ as).bind fun a => (g.call f a.1).bind (dP a.2) := rfl
@[simp] theorem pL {b as} : evI g ρ (.bi b as) = (evArgs g ρ as).bind fun a => bif a.2 && !pT b then none else biD b a.1 := rfl
@[simp] theorem w7 {m o as} : evI g ρ (.meth m o as) = (evI g ρ o).bind fun s => bif ik s then (evArgs g ρ as).bind fun a => (g.meth m (s :: a.1)).bind (dP a.2) else none := rfl
@[simp] theorem w8 {fs ts tt it c e} : evI g ρ (.comp fs ts tt it c e) = (evIter g ρ true (evI g ρ it) it).bind fun items =>
      (iT (fun d => (br ts d (cy fs ρ) tt).bind fun ρ₁ => (evT g ρ₁ (evI g ρ₁ c) c).bind fun b => bif b then (evI g ρ₁ e).bind fun r => bif bf r then some (some r) else none else some none) items).map .list := rfl
@[simp] theorem pJ {i r} : exI g ρ (.set i r) = (evX g ρ r).map fun x => bn (upd x.2 i (.val x.1)) := rfl
@[simp] theorem y0 {i a} : exI g ρ (.lst i a) = (bW ρ (evI g ρ a) a).bind fun d => ((ba d.1).bind fun xs => bif flatAll xs then some xs else none).map fun xs => bn (upd ρ i (.own xs)) := rfl
@[simp] theorem y6 {i es} : exI g ρ (.dct i es) = (jU g ρ es).map fun r => bn (upd ρ i (.dct r)) := rfl
@[simp] theorem yz {i w k} : exI g ρ (.mov i w k) = (eA (ρ w)).bind fun es => (lk k es).map fun x => bn (moved ρ i w es k x) := rfl
@[simp] theorem yx {is r} : exI g ρ (.unp is r) = (evX g ρ r).bind fun x => (br is x.1 x.2 true).map bn := rfl
@[simp] theorem yy {x i e} : exI g ρ (.put x i e) = (ownOf (ρ x)).bind fun ds => ((evI g ρ e).bind cu).bind fun d => (evI g ρ i).bind fun k => (ot ds k d).map fun r => bn (upd ρ x (.own r)) := rfl
@[simp] theorem wx {x k e} : exI g ρ (.catK x k e) = (eA (ρ x)).bind fun es => ((evI g ρ e).bind sD).bind fun xs => (lk k es).map fun Z => bn (upd ρ x (.dct (st k (.own xs) es))) := rfl
@[simp] theorem y7 {x i e} : exI g ρ (.aug x i e) = (ownOf (ρ x)).bind fun ds => (evI g ρ i).bind fun k => (gT (.list ds) k).bind fun a => (evI g ρ e).bind fun b => (nK .Add a b).bind fun c => (ot ds k c).map fun r => bn (upd ρ x (.own r)) := rfl
@[simp] theorem wz {x op k e} : exI g ρ (.augK x op k e) = (eA (ρ x)).bind fun es => (wl (lk k es)).bind fun a => (evI g ρ e).bind fun b => (nK op a b).map fun c => bn (upd ρ x (.dct (st k (.val c) es))) := rfl
@[simp] theorem y8 {x e} : exI g ρ (.app x e) = ((evI g ρ e).bind cu).bind fun d => (ownOf (ρ x)).bind fun ds => room ds (bn (upd ρ x (.own (ds ++ [d])))) := rfl
@[simp] theorem sP {x y i} : exI g ρ (.appPop x y i) = (ownOf (ρ x)).bind fun ds => (ownOf (ρ y)).bind fun us => (evI g ρ i).bind fun k => (yU us k).bind fun r => (cu r.1).bind fun d => room ds (bn (upd (upd ρ y (.own r.2)) x (.own (ds ++ [d])))) := rfl
@[simp] theorem w4 {w k e} : exI g ρ (.appK w k e) = ((evI g ρ e).bind cu).bind fun d => (eA (ρ w)).bind fun es => (yW (lk k es)).bind fun ds => room ds (bn (upd ρ w (.dct (st k (.own (ds ++ [d])) es)))) := rfl
@[simp] theorem exI_io {r} : exI g ρ (.io r) = (evX g ρ r).map fun x => bn x.2 := rfl
@[simp] theorem y5 {t a b} : exI g ρ (.ite t a b) = (evT g ρ (evI g ρ t) t).bind fun c => bif c then exIs g ρ a else exIs g ρ b := rfl
@[simp] theorem jT {ts tt it b} : exI g ρ (.loop ts tt it b) = (evIter g ρ false (evI g ρ it) it).bind fun items => mJ (fun d ρ₁ => (br ts d ρ₁ tt).bind fun ρ₂ => exIs g ρ₂ b) items ρ := rfl
@[simp] theorem wv {t b} : exI g ρ (.whil t b) = ia (fun ρ₁ => evT g ρ₁ (evI g ρ₁ t) t) (fun ρ₁ => exIs g ρ₁ b) 1000 ρ := rfl
@[simp] theorem w5 {e} : evX g ρ (.e e) = (evI g ρ e).map (·, ρ) := rfl
@[simp] theorem sQ {f x as} : evX g ρ (.io f x as) = (kQ (ρ x)).bind fun lv => (evEs g ρ as).bind fun ds => (g.io f lv ds).bind fun r => bif bf r.1 then some (r.1, upd ρ x r.2) else none := rfl
@[simp] theorem y9 {op a b} : evX g ρ (.bin op a b) = (evX g ρ a).bind fun x => (evX g x.2 b).bind fun y => (nK op x.1 y.1).map (·, y.2) := rfl
@[simp] theorem w6 {f as} : evX g ρ (.call f as) = (evXs g ρ as).bind fun r => (g.call f r.1).map (·, r.2) := rfl
@[simp] theorem sR {x y r} : evAnd g ρ (x :: y :: r) = (evI g ρ x).bind fun v => (c7 v).bind fun b => bif b then evAnd g ρ (y :: r) else some v := rfl
@[simp] theorem uf {x y r} : evOr g ρ (x :: y :: r) = (evI g ρ x).bind fun v => (c7 v).bind fun b => bif b then some v else evOr g ρ (y :: r) := rfl
@[simp] theorem oU {x r} : allT g ρ (x :: r) = (evT g ρ (evI g ρ x) x).bind fun b => bif b then allT g ρ r else some false := rfl
@[simp] theorem oT {x r} : anyT g ρ (x :: r) = (evT g ρ (evI g ρ x) x).bind fun b => bif b then some true else anyT g ρ r := rfl
@[simp] theorem ug {e es} : evEs g ρ (e :: es) = (evI g ρ e).bind fun d => (evEs g ρ es).map (d :: ·) := rfl
@[simp] theorem dQ {e es} : evArgs g ρ (e :: es) = (bW ρ (evI g ρ e) e).bind fun a => (evArgs g ρ es).map fun r => (a.1 :: r.1, a.2 || r.2) := rfl
@[simp] theorem ue {e es} : evXs g ρ (e :: es) = (evX g ρ e).bind fun a => (evXs g a.2 es).map fun r => (a.1 :: r.1, r.2) := rfl
@[simp] theorem tZ {e} : exI g ρ (.ret e) = (evI g (frz ρ) e).map fun d => (.ret d, ρ) := rfl
@[simp] theorem ww {r} : exI g ρ (.retX r) = (evX g ρ r).map ret1 := rfl
@[simp] theorem wo {i} : frz ρ i = (ρ i).map pE := rfl
@[simp] theorem uz {ts ds} : br ts (.tuple ds) ρ true = dK ts ds ρ := rfl
@[simp] theorem qh {b d} : dP b d = bif b && !bf d then none else some d := rfl
end
end Mine
namespace Mine
open PySem
theorem bR {α : Type} {enc : α → D} {xs : List α} {i : Int} {a : α} (h : xs[i.toNat]? = some a) (h0 : 0 ≤ i) (h1 : i < aj) : gT (.list (xs.map enc)) (.int i) = some (enc a) := by
  show (if 0 ≤ i ∧ i < aj then (xs.map enc)[i.toNat]? else none) = _
  rw [if_pos ⟨h0, h1⟩, List.getElem?_map, h]; rfl
theorem we {α : Type} {enc : α → D} {xs : List α} {i : Int} {a : α} (h : xs[i.toNat]? = some a) (h0 : 0 ≤ i) (h1 : i < aj) : gT (.tuple (xs.map enc)) (.int i) = some (enc a) := bR (enc := enc) h h0 h1
noncomputable abbrev Row := List (Option LV)
noncomputable def E (l : Row) : Rho := fun i => (nth l i).join
noncomputable def cZ : Nat → Option LV → Row → Row
  | _, _, [] => []
  | 0, v, _ :: r => v :: r
  | i + 1, v, x :: r => x :: cZ i v r
theorem cK (i : Nat) (v : LV) (l : Row) (h : Nat.blt i l.length = true) : upd (E l) i v = E (cZ i (some v) l) := by
  replace h : i < l.length := Nat.le_of_ble_eq_true h
  funext j
  show (bif j == i then some v else (nth l j).join) = (nth (cZ i (some v) l) j).join
  induction l generalizing i j with
  | nil => cases h
  | cons x r ih =>
    cases i with
    | zero => cases j with
      | zero => rfl
      | succ j => rfl
    | succ i => cases j with
      | zero => rfl
      | succ j =>
        have := ih i (Nat.lt_of_succ_lt_succ h) j
        rw [show (j + 1 == i + 1) = (j == i) from by simp [BEq.beq]]
        exact this
theorem jd : ∀ (ds : List D) (pre : Row) (m : Nat), kb pre.length ds (E (pre ++ List.replicate (ds.length + m) none)) = E (pre ++ (ds.map fun d => some (.val d)) ++ List.replicate m none)
  | [], pre, m => by rw [List.map_nil, List.append_nil, List.length_nil, Nat.zero_add]; rfl
  | d :: ds, pre, m => by
    have e : cZ pre.length (some (.val d)) (pre ++ List.replicate ((d :: ds).length + m) none) = (pre ++ [some (.val d)]) ++ List.replicate (ds.length + m) none := by
      rw [show (d :: ds).length + m = (ds.length + m) + 1 by rw [List.length_cons]; (lia -abstractProof), List.replicate_succ]
      induction pre with
      | nil => rfl
      | cons x r ih => exact congrArg (x :: ·) ih
    have l : Nat.blt pre.length (pre ++ List.replicate ((d :: ds).length + m) none).length = true := by
      show Nat.ble (pre.length + 1) _ = true
      rw [Nat.ble_eq, List.length_append, List.length_replicate, List.length_cons]; (lia -abstractProof)
    have := jd ds (pre ++ [some (.val d)]) m
    rw [List.length_append] at this
    rw [zb, cK _ _ _ l, e]
    refine this.trans ?_
    rw [List.map_cons, List.append_assoc pre]; rfl
theorem tf (m : Nat) : emp = E (List.replicate m none) := by
  funext i
  show none = (nth (List.replicate m none) i).join
  induction m generalizing i with
  | zero => rfl
  | succ m ih => cases i with
    | zero => rfl
    | succ i => exact ih i
@[irreducible] noncomputable def Run (g : G) (l : Row) (s : List IS) (Q : Fl × Rho → Prop) : Prop := Ok (exIs g (E l) s) Q
theorem az {g : G} {l : Row} {s : List IS} {Q : Fl × Rho → Prop} (h : Ok (exIs g (E l) s) Q) : Run g l s Q := by unfold Run; exact h
theorem ah {g : G} {l : Row} {s : List IS} {Q : Fl × Rho → Prop} (h : Run g l s Q) : Ok (exIs g (E l) s) Q := by unfold Run at h; exact h
theorem bA {f : Nat} {fn : IFn} (n m : Nat) {ds : List D} {d : D} (hf : nth dU f = some fn) (hio : TT.ios.contains f = false) (hl : (ds.length == fn.ps) = true)
    (h : Run (gN TT n) ((ds.map fun d => some (.val d)) ++ List.replicate m none) fn.body (ku fun r => r.1 = d)) : (gN TT (n + 1)).call f ds = some d := by
  refine zZ n hf hio hl ?_
  rw [tf (ds.length + m)]
  have := jd ds [] m
  rw [List.nil_append] at this
  rw [show ([] : Row).length = 0 from rfl, List.nil_append] at this
  rw [this]; exact ah h
noncomputable abbrev isV (g : G) (ρ : Rho) (e : IE) (d : D) : Prop := (bW ρ (evI g ρ e) e).map (·.1) = some d
section
variable {g : G} {ρ : Rho} {l : Row} {r : List IS} {Q : Fl × Rho → Prop}
theorem bC {i : Nat} {e : IE} (d : D) (h : evI g (E l) e = some d) (hi : Nat.blt i l.length = true) (k : Run g (cZ i (some (.val d)) l) r Q) : Run g l (.set i (.e e) :: r) Q := by
  refine az (an ?_)
  rw [pJ, w5, h]
  show Ok (exIs g (upd (E l) i (.val d)) r) Q
  rw [cK _ _ _ hi]; exact ah k
theorem pp {i : Nat} (hi : Nat.blt i l.length = true) (k : Run g (cZ i (some (.own [])) l) r Q) : Run g l (.nil i :: r) Q := by
  refine az (an ?_)
  show Ok (exIs g (upd (E l) i (.own [])) r) Q
  rw [cK _ _ _ hi]; exact ah k
noncomputable def jt : List Nat → List D → Row → Option Row
  | [], [], l => some l
  | i :: is, d :: ds, l => bif Nat.blt i l.length then jt is ds (cZ i (some (.val d)) l) else none
  | _, _, _ => none
theorem hY : ∀ (is : List Nat) (ds : List D) (l l' : Row), jt is ds l = some l' → dK is ds (E l) = some (E l')
  | [], [], l, l', h => by obtain rfl := Option.some.inj h; rfl
  | i :: is, d :: ds, l, l', h => by
    replace h : (bif Nat.blt i l.length then jt is ds (cZ i (some (.val d)) l) else none) = some l' := h
    cases q : Nat.blt i l.length with
    | false => rw [q] at h; exact nS h
    | true =>
      rw [q] at h
      show dK is ds (upd (E l) i (.val d)) = _
      rw [cK _ _ _ q]; exact hY is ds _ l' h
  | [], _ :: _, _, _, h => nomatch h
  | _ :: _, [], _, _, h => nomatch h
theorem pn {is : List Nat} {e : IE} {ds : List D} (l' : Row) (h : evI g (E l) e = some (.tuple ds)) (ha : jt is ds l = some l') (k : Run g l' r Q) : Run g l (.unp is (.e e) :: r) Q := by
  refine az (an ?_)
  rw [yx, w5, h, Option.map_some, Option.bind_some, uz, hY _ _ _ _ ha]; exact ah k
theorem sIf {t : IE} {a b : List IS} (B : Bool) (h : evT g (E l) (evI g (E l) t) t = some B) (h1 : B = true → Run g l a (cont g r Q)) (h2 : B = false → Run g l b (cont g r Q)) : Run g l (.ite t a b :: r) Q := by
  refine az (an ?_)
  rw [y5, h]
  cases B with
  | true => exact ah (h1 rfl)
  | false => exact ah (h2 rfl)
theorem aT {t e : IE} (B : Bool) (d : D) (h : evT g (E l) (evI g (E l) t) t = some B) (he : evI g (frz (E l)) e = some d) (h1 : B = true → Q (.ret d, E l)) (h2 : B = false → Run g l r Q) : Run g l (.ite t [.ret e] [] :: r) Q := by
  refine sIf B h (fun q => az (an ?_)) fun q => by
    have := ah (h2 q)
    exact az this
  rw [tZ, he]; exact h1 q
theorem bP {e : IE} (d : D) (he : evI g (frz (E l)) e = some d) (h1 : Q (.ret d, E l)) : Run g l (.ret e :: r) Q := by
  refine az (an ?_)
  rw [tZ, he]; exact h1
theorem sApp {x : Nat} {e : IE} {ds : List D} (d : D) (h : evI g (E l) e = some d) (hf : bf d = true) (hx : E l x = some (.own ds)) (hl : ds.length < aF) (hi : Nat.blt x l.length = true) (k : Run g (cZ x (some (.own (ds ++ [d]))) l) r Q) : Run g l (.app x e :: r) Q := by
  refine az (an ?_)
  rw [y8, h, Option.bind_some, show cu d = some d by unfold cu; rw [hf]; rfl, Option.bind_some, hx, show ownOf (some (.own ds)) = some ds from rfl, Option.bind_some]
  unfold room
  rw [if_pos hl]
  show Ok (exIs g (upd (E l) x _) r) Q
  rw [cK _ _ _ hi]; exact ah k
theorem nc {α : Type} {enc : α → D} {x : Nat} {e : IE} {xs : List α} (a : α) (h : evI g (E l) e = some (enc a)) (hf : bf (enc a) = true) (hx : E l x = some (.own (xs.map enc))) (hl : xs.length < 1000000) (hi : Nat.blt x l.length = true) (k : Run g (cZ x (some (.own ((xs ++ [a]).map enc))) l) r Q) : Run g l (.app x e :: r) Q :=
  sApp (enc a) h hf hx (by rw [List.length_map]; exact hl) hi (by rw [List.map_append] at k; exact k)
theorem yH {i : Nat} {a : IE} {d : D} {xs : List D} (h : isV g (E l) a d) (hd : ba d = some xs) (hf : flatAll xs = true) (hi : Nat.blt i l.length = true) (k : Run g (cZ i (some (.own xs)) l) r Q) : Run g l (.lst i a :: r) Q := by
  refine az (an ?_)
  refine aA (Option.map_eq_some_iff.mp h) fun x' e1 e => ?_
  rw [y0, e1, Option.bind_some, e, hd, Option.bind_some, hf]
  show Ok (exIs g (upd (E l) i _) r) Q
  rw [cK _ _ _ hi]; exact ah k
theorem yG {x : Nat} {i e : IE} {ds : List D} {d : D} {k : Int} (hx : ownOf (E l x) = some ds) (he : evI g (E l) e = some d) (hf : bf d = true) (hk : evI g (E l) i = some (.int k)) (h0 : 0 ≤ k) (h1 : k < ds.length) (hi : Nat.blt x l.length = true) (q : Run g (cZ x (some (.own (ds.set k.toNat d))) l) r Q) : Run g l (.put x i e :: r) Q := by
  refine az (an ?_)
  rw [yy, hx, Option.bind_some, he, Option.bind_some, show cu d = some d by unfold cu; rw [hf]; rfl, Option.bind_some, hk, Option.bind_some, show ot ds (.int k) d = some (ds.set k.toNat d) from if_pos ⟨h0, h1⟩]
  show Ok (exIs g (upd (E l) x _) r) Q
  rw [cK _ _ _ hi]; exact ah q
theorem sAug {x : Nat} {i e : IE} {ds : List D} {a b : Int} {k : Int} (hx : ownOf (E l x) = some ds) (hk : evI g (E l) i = some (.int k)) (ha : gT (.list ds) (.int k) = some (.int a)) (he : evI g (E l) e = some (.int b)) (h0 : 0 ≤ k) (h1 : k < ds.length) (hi : Nat.blt x l.length = true) (q : Run g (cZ x (some (.own (ds.set k.toNat (.int (a + b))))) l) r Q) : Run g l (.aug x i e :: r) Q := by
  refine az (an ?_)
  rw [y7, hx, Option.bind_some, hk, Option.bind_some, ha, Option.bind_some, he, Option.bind_some, show nK .Add (.int a) (.int b) = some (.int (a + b)) from rfl, Option.bind_some, show ot ds (.int k) (.int (a + b)) = some (ds.set k.toNat (.int (a + b))) from if_pos ⟨h0, h1⟩]
  show Ok (exIs g (upd (E l) x _) r) Q
  rw [cK _ _ _ hi]; exact ah q
theorem yJ {x y : Nat} {i : IE} {ds us us' : List D} {d k : D} (hx : ownOf (E l x) = some ds) (hy : ownOf (E l y) = some us) (hk : evI g (E l) i = some k) (hp : yU us k = some (d, us')) (hf : bf d = true) (hl : ds.length < aF) (hiy : Nat.blt y l.length = true) (hix : Nat.blt x (cZ y (some (.own us')) l).length = true) (q : Run g (cZ x (some (.own (ds ++ [d]))) (cZ y (some (.own us')) l)) r Q) : Run g l (.appPop x y i :: r) Q := by
  refine az (an ?_)
  rw [sP, hx, Option.bind_some, hy, Option.bind_some, hk, Option.bind_some, hp, Option.bind_some, show cu d = some d by unfold cu; rw [hf]; rfl, Option.bind_some]
  unfold room
  rw [if_pos hl]
  show Ok (exIs g (upd (upd (E l) y _) x _) r) Q
  rw [cK _ _ _ hiy, cK _ _ _ hix]; exact ah q
theorem sIo {f x : Nat} {as : List IE} {ds : List D} {d : D} {lv lv' : LV} (hx : kQ (E l x) = some lv) (ha : evEs g (E l) as = some ds) (hc : g.io f lv ds = some (d, lv')) (hf : bf d = true) (hi : Nat.blt x l.length = true) (k : Run g (cZ x (some lv') l) r Q) : Run g l (.io (.io f x as) :: r) Q := by
  refine az (an ?_)
  rw [exI_io, sQ, hx, Option.bind_some, ha, Option.bind_some, hc, Option.bind_some, hf]
  show Ok (exIs g (upd (E l) x _) r) Q
  rw [cK _ _ _ hi]; exact ah k
theorem rS {i f x : Nat} {as : List IE} {ds : List D} {d : D} {lv lv' : LV} (hx : kQ (E l x) = some lv) (ha : evEs g (E l) as = some ds) (hc : g.io f lv ds = some (d, lv')) (hf : bf d = true) (hi : Nat.blt x l.length = true) (hi2 : Nat.blt i (cZ x (some lv') l).length = true) (k : Run g (cZ i (some (.val d)) (cZ x (some lv') l)) r Q) : Run g l (.set i (.io f x as) :: r) Q := by
  refine az (an ?_)
  rw [pJ, sQ, hx, Option.bind_some, ha, Option.bind_some, hc, Option.bind_some, hf]
  show Ok (exIs g (upd (upd (E l) x lv') i _) r) Q
  rw [cK _ _ _ hi, cK _ _ _ hi2]; exact ah k
theorem nZ {x k : Nat} {op : Operator} {e : IE} {es : List (Nat × EV)} {a b c : D} (hx : eA (E l x) = some es) (ha : wl (lk k es) = some a) (he : evI g (E l) e = some b) (hc : nK op a b = some c) (hi : Nat.blt x l.length = true) (q : Run g (cZ x (some (.dct (st k (.val c) es))) l) r Q) : Run g l (.augK x op k e :: r) Q := by
  refine az (an ?_)
  rw [wz, hx, Option.bind_some, ha, Option.bind_some, he, Option.bind_some, hc]
  show Ok (exIs g (upd (E l) x _) r) Q
  rw [cK _ _ _ hi]; exact ah q
theorem ve {x k : Nat} {e : IE} {es : List (Nat × EV)} {xs : List D} {v : EV} (hx : eA (E l x) = some es) (he : evI g (E l) e = some (.list xs)) (hf : flatAll xs = true) (hk : lk k es = some v) (hi : Nat.blt x l.length = true) (q : Run g (cZ x (some (.dct (st k (.own xs) es))) l) r Q) : Run g l (.catK x k e :: r) Q := by
  refine az (an ?_)
  rw [wx, hx, Option.bind_some, he, Option.bind_some, show sD (.list xs) = some xs from (congrArg (fun b => bif b then some xs else none) hf), Option.bind_some, hk]
  show Ok (exIs g (upd (E l) x _) r) Q
  rw [cK _ _ _ hi]; exact ah q
theorem zn {x k : Nat} {e : IE} {es : List (Nat × EV)} {d : D} {ds : List D} (he : evI g (E l) e = some d) (hf : bf d = true) (hx : eA (E l x) = some es) (hk : yW (lk k es) = some ds) (hl : ds.length < aF) (hi : Nat.blt x l.length = true) (q : Run g (cZ x (some (.dct (st k (.own (ds ++ [d])) es))) l) r Q) : Run g l (.appK x k e :: r) Q := by
  refine az (an ?_)
  rw [w4, he, Option.bind_some, show cu d = some d by unfold cu; rw [hf]; rfl, Option.bind_some, hx, Option.bind_some, hk, Option.bind_some]
  unfold room
  rw [if_pos hl]
  show Ok (exIs g (upd (E l) x _) r) Q
  rw [cK _ _ _ hi]; exact ah q
theorem fin (h : Q (.next, E l)) : Run g l [] Q := az h
theorem dS (h : Run g l r Q) : Run g l [] (cont g r Q) := by
  have := ah h
  exact az this
theorem fB (h : Q (.next, E l)) : Run g l [] (cont g [] Q) := az h
theorem rT (h : Q (.cont, E l)) : Run g l [.cont] (cont g r Q) := az h
theorem yI {t : IE} (B : Bool) {d1 d2 : D} (h : evT g (E l) (evI g (E l) t) t = some B) {e1 e2 : IE} (h1 : evI g (frz (E l)) e1 = some d1) (h2 : evI g (frz (E l)) e2 = some d2) (k : Q (.ret (bif B then d1 else d2), E l)) : Run g l (.ite t [.ret e1] [] :: [.ret e2]) Q :=
  aT B d1 h h1 (fun q => by rw [q] at k; exact k) fun q => bP d2 h2 (by rw [q] at k; exact k)
theorem eQ {x : IE} {xs : List IE} (b c : Bool) (h : evT g ρ (evI g ρ x) x = some b) (h' : b = true → allT g ρ xs = some c) : allT g ρ (x :: xs) = some (b && c) := by
  rw [oU, h]
  cases b with
  | true => exact h' rfl
  | false => rfl
theorem i4 {x : IE} {xs : List IE} (b c : Bool) (h : evT g ρ (evI g ρ x) x = some b) (h' : b = false → anyT g ρ xs = some c) : anyT g ρ (x :: xs) = some (b || c) := by
  rw [oT, h]
  cases b with
  | true => rfl
  | false => exact h' rfl
theorem rK {es : List IE} {b : Bool} {w : Option D} (h : allT g ρ es = some b) : evT g ρ w (.and es) = some b := h
theorem tOr {es : List IE} {b : Bool} {w : Option D} (h : anyT g ρ es = some b) : evT g ρ w (.or es) = some b := h
theorem tNo {x : IE} {b : Bool} {w : Option D} (h : evT g ρ (evI g ρ x) x = some b) : evT g ρ w (.no x) = some (!b) := by rw [evT_no, h]; rfl
theorem dM {f : Nat} {as : List IE} {ds : List D} {b : Bool} {o : Bool} (h : evArgs g ρ as = some (ds, o)) (hc : g.call f ds = some (.bool b)) : evT g ρ (evI g ρ (.call f as)) (.call f as) = some b := by
  have : evI g ρ (.call f as) = some (.bool b) := by rw [qm, h, Option.bind_some, hc]; cases o <;> rfl
  rw [this]; rfl
theorem ab {f : Nat} {as : List IE} {ds : List D} {d : D} (h : evArgs g ρ as = some (ds, false)) (hc : g.call f ds = some d) : evI g ρ (.call f as) = some d := by
  rw [qm, h, Option.bind_some, hc]; rfl
theorem ac {w : Option D} {op : CmpOp} {a b : IE} {x y : D} {c : Bool} (h1 : isV g ρ a x) (h2 : isV g ρ b y) (hc : be op x y = some c) : evT g ρ w (.cmp op a b) = some c := by
  refine aA (Option.map_eq_some_iff.mp h1) fun x' e1 e2_ => ?_; obtain rfl := e2_
  refine aA (Option.map_eq_some_iff.mp h2) fun y' e2 e2_ => ?_; obtain rfl := e2_
  rw [zA, e1, e2]; exact hc
theorem cEq {w : Option D} {a b : IE} {i j : Int} (h1 : isV g ρ a (.int i)) (h2 : isV g ρ b (.int j)) : evT g ρ w (.cmp .Eq a b) = some (decide (i = j)) := ac h1 h2 (cmp_eq i j)
theorem cNe {w : Option D} {a b : IE} {i j : Int} (h1 : isV g ρ a (.int i)) (h2 : isV g ρ b (.int j)) : evT g ρ w (.cmp .NotEq a b) = some (!decide (i = j)) := ac h1 h2 (cmp_ne i j)
theorem cLt {w : Option D} {a b : IE} {i j : Int} (h1 : isV g ρ a (.int i)) (h2 : isV g ρ b (.int j)) : evT g ρ w (.cmp .Lt a b) = some (decide (i < j)) := ac h1 h2 rfl
theorem cLe {w : Option D} {a b : IE} {i j : Int} (h1 : isV g ρ a (.int i)) (h2 : isV g ρ b (.int j)) : evT g ρ w (.cmp .LtE a b) = some (decide (i ≤ j)) := ac h1 h2 rfl
theorem cGt {w : Option D} {a b : IE} {i j : Int} (h1 : isV g ρ a (.int i)) (h2 : isV g ρ b (.int j)) : evT g ρ w (.cmp .Gt a b) = some (decide (i > j)) := ac h1 h2 rfl
theorem cGe {w : Option D} {a b : IE} {i j : Int} (h1 : isV g ρ a (.int i)) (h2 : isV g ρ b (.int j)) : evT g ρ w (.cmp .GtE a b) = some (decide (i ≥ j)) := ac h1 h2 rfl
theorem dT {x : IE} {b : Bool} (h : evT g ρ (evI g ρ x) x = some b) : allT g ρ [x] = some b := by rw [oU, h]; cases b <;> rfl
theorem gH {x : IE} {b : Bool} (h : evT g ρ (evI g ρ x) x = some b) : anyT g ρ [x] = some b := by rw [oT, h]; cases b <;> rfl
theorem vLen {a : IE} {xs : List D} (h : isV g ρ a (.list xs)) : isV g ρ (.bi .len [a]) (.int xs.length) := by
  refine aA (Option.map_eq_some_iff.mp h) fun x' e1 e2 => ?_
  obtain ⟨d, b⟩ := x'
  cases (show d = .list xs from e2)
  show ((evI g ρ (.bi .len [a])).map (·, false)).map (·.1) = _
  rw [pL, dQ, e1]
  cases b <;> rfl
theorem dj {α : Type} {enc : α → D} {a : IE} {xs : List α} (h : isV g ρ a (.list (xs.map enc))) : isV g ρ (.bi .len [a]) (.int xs.length) := by
  have := vLen h
  rwa [List.length_map] at this
theorem eP {op : CmpOp} {a b : IE} {c : Bool} (h : evT g ρ none (.cmp op a b) = some c) : evI g ρ (.cmp op a b) = some (.bool c) := congrArg (Option.map PyData.bool) h
theorem aP {e : IE} {es : List IE} {d : D} {ds : List D} {o : Bool} (h : bW ρ (evI g ρ e) e = some (d, false)) (h' : evArgs g ρ es = some (ds, o)) : evArgs g ρ (e :: es) = some (d :: ds, o) := by rw [dQ, h, Option.bind_some, h', Option.map_some]; rfl
theorem aE {e : IE} {d : D} (h : evI g ρ e = some d) (hp : bW ρ (evI g ρ e) e = (evI g ρ e).map (·, false)) : bW ρ (evI g ρ e) e = some (d, false) := by rw [hp, h]; rfl
theorem bg {e : IE} {es : List IE} {d : D} {ds : List D} (h : evI g ρ e = some d) (h' : evEs g ρ es = some ds) : evEs g ρ (e :: es) = some (d :: ds) := by rw [ug, h, Option.bind_some, h']; rfl
theorem tU {op : CmpOp} {a b : IE} {c : Bool} (h : evT g ρ none (.cmp op a b) = some c) : isV g ρ (.cmp op a b) (.bool c) := congrArg (fun x => ((x.map PyData.bool).map (·, false)).map (·.1)) h
theorem oAnd {es : List IE} {d : D} (h : evAnd g ρ es = some d) : evI g ρ (.and es) = some d := h
theorem oOr {es : List IE} {d : D} (h : evOr g ρ es = some d) : evI g ρ (.or es) = some d := h
theorem wS {x : IE} {d : D} (h : evI g ρ x = some d) : evAnd g ρ [x] = some d := h
theorem lOr {x : IE} {d : D} (h : evI g ρ x = some d) : evOr g ρ [x] = some d := h
theorem ca {a i : IE} {x k d : D} (h1 : isV g ρ a x) (h2 : evI g ρ i = some k) (h3 : gT x k = some d) : evI g ρ (.idx a i) = some d := by
  refine aA (Option.map_eq_some_iff.mp h1) fun x' e1 e2_ => ?_; obtain rfl := e2_
  rw [zE, e1, Option.bind_some, h2]; exact h3
theorem jK {a i : IE} {x k d : D} (h1 : isV g ρ a x) (h2 : evI g ρ i = some k) (h3 : gT x k = some d) : isV g ρ (.idx a i) d := by
  show ((evI g ρ (.idx a i)).map (·, false)).map (·.1) = _
  rw [ca h1 h2 h3]; rfl
theorem eR {f : Nat} {as : List IE} {ds : List D} {d : D} (h : evArgs g ρ as = some (ds, false)) (hc : g.call f ds = some d) : isV g ρ (.call f as) d := by
  show ((evI g ρ (.call f as)).map (·, false)).map (·.1) = _
  rw [ab h hc]; rfl
theorem fW {as : List IE} {ds xs : List D} {own : Bool} {w : Option D} (h : evEs g ρ as = some ds) (hr : dD ds = some xs) : evIter g ρ own w (.range as) = some xs := by rw [wV, h]; exact hr
theorem iEnum {a : IE} {xs : List D} {own : Bool} {w : Option D} (h : evI g ρ a = some (.list xs)) : evIter g ρ own w (.enum a) = some (iR 0 xs) := by rw [yh, h]; rfl
theorem vIs {e : IE} {d : D} (h : isV g ρ e d) (hp : bW ρ (evI g ρ e) e = (evI g ρ e).map (·, false)) : evI g ρ e = some d := by
  unfold isV at h
  rw [hp] at h
  cases q : evI g ρ e with
  | none => rw [q] at h; exact nS h
  | some x => rw [q] at h; obtain rfl := Option.some.inj h; rfl
theorem vNo {x : IE} {b : Bool} (h : evI g ρ x = some (.bool b)) : evI g ρ (.no x) = some (.bool (!b)) := by rw [evI_no, h]; rfl
theorem oY {x y : IE} {xs : List IE} (b c : Bool) (h : evI g ρ x = some (.bool b)) (h' : b = true → evAnd g ρ (y :: xs) = some (.bool c)) : evAnd g ρ (x :: y :: xs) = some (.bool (b && c)) := by
  rw [sR, h]
  cases b with
  | true => exact h' rfl
  | false => rfl
theorem vOr {x y : IE} {xs : List IE} (b c : Bool) (h : evI g ρ x = some (.bool b)) (h' : b = false → evOr g ρ (y :: xs) = some (.bool c)) : evOr g ρ (x :: y :: xs) = some (.bool (b || c)) := by
  rw [uf, h]
  cases b with
  | true => rfl
  | false => exact h' rfl
theorem cU {α : Type} {enc : α → D} {a : IE} {xs : List α} (h : isV g ρ a (.list (xs.map enc))) : evI g ρ (.bi .len [a]) = some (.int xs.length) := vIs (dj h) rfl
theorem kP {a b : IE} {i j : Int} (h1 : isV g ρ a (.int i)) (h2 : evI g ρ b = some (.int j)) : isV g ρ (.bin .Sub a b) (.int (i - j)) := by
  refine aA (Option.map_eq_some_iff.mp h1) fun x' e1 e => ?_
  show ((evI g ρ (.bin .Sub a b)).map (·, false)).map (·.1) = _
  rw [hO, e1, Option.bind_some, h2, e]; rfl
theorem fz {a b : IE} {i j : Int} (h1 : isV g ρ a (.int i)) (h2 : evI g ρ b = some (.int j)) : isV g ρ (.bin .Add a b) (.int (i + j)) := by
  refine aA (Option.map_eq_some_iff.mp h1) fun x' e1 e => ?_
  show ((evI g ρ (.bin .Add a b)).map (·, false)).map (·.1) = _
  rw [hO, e1, Option.bind_some, h2, e]; rfl
theorem isLen {a : IE} {d : D} {xs : List D} (h : isV g ρ a d) (hd : ba d = some xs) : isV g ρ (.bi .len [a]) (.int xs.length) := by
  refine aA (Option.map_eq_some_iff.mp h) fun x' e1 e2 => ?_
  obtain ⟨d', b⟩ := x'
  cases (show d' = d from e2)
  show ((evI g ρ (.bi .len [a])).map (·, false)).map (·.1) = _
  rw [pL, dQ, e1]
  have : lenD d = some (.int xs.length) := by unfold lenD; rw [hd]; rfl
  cases b <;> exact congrArg (fun x => (x.map (·, false)).map (·.1)) this
theorem pA {α : Type} {enc : α → D} {a : IE} {xs : List α} (h : isV g ρ a (.tuple (xs.map enc))) : isV g ρ (.bi .len [a]) (.int xs.length) := by
  have := isLen h rfl
  rwa [List.length_map] at this
theorem xU {w : Option D} {a b c : IE} {i j k : Int} (h1 : isV g ρ a (.int i)) (h2 : isV g ρ b (.int j)) (h3 : isV g ρ c (.int k)) : evT g ρ w (.cmp2 .LtE .Lt a b c) = some (decide (i ≤ j) && decide (j < k)) := by
  refine aA (Option.map_eq_some_iff.mp h1) fun x1 e1 q1 => ?_
  refine aA (Option.map_eq_some_iff.mp h2) fun x2 e2 q2 => ?_
  refine aA (Option.map_eq_some_iff.mp h3) fun x3 e3 q3 => ?_
  rw [ql, e1, e2, e3, Option.bind_some, Option.bind_some, Option.bind_some, q1, q2, q3, show be .LtE (.int i) (.int j) = some (decide (i ≤ j)) from rfl, Option.bind_some]
  cases decide (i ≤ j) <;> rfl
theorem cLtLt {w : Option D} {a b c : IE} {i j k : Int} (h1 : isV g ρ a (.int i)) (h2 : isV g ρ b (.int j)) (h3 : isV g ρ c (.int k)) : evT g ρ w (.cmp2 .Lt .Lt a b c) = some (decide (i < j) && decide (j < k)) := by
  refine aA (Option.map_eq_some_iff.mp h1) fun x1 e1 q1 => ?_
  refine aA (Option.map_eq_some_iff.mp h2) fun x2 e2 q2 => ?_
  refine aA (Option.map_eq_some_iff.mp h3) fun x3 e3 q3 => ?_
  rw [ql, e1, e2, e3, Option.bind_some, Option.bind_some, Option.bind_some, q1, q2, q3, show be .Lt (.int i) (.int j) = some (decide (i < j)) from rfl, Option.bind_some]
  cases decide (i < j) <;> rfl
theorem zP {es : List IE} {ds : List D} (h : evEs g ρ es = some ds) : evI g ρ (.tup es) = some (.tuple ds) := by rw [ta, h]; rfl
theorem eCopy {a : IE} {xs : List D} (h : isV g ρ a (.list xs)) (hf : flatAll xs = true) : evI g ρ (.bi .list [a]) = some (.list xs) := by
  refine aA (Option.map_eq_some_iff.mp h) fun z0_ e1 e => ?_; obtain ⟨x, b⟩ := z0_
  cases (show x = .list xs from e)
  rw [pL, dQ, e1]
  cases b <;> exact if_pos hf
theorem mG {f : Nat} {as : List IE} {d : D} {xs : List D} {own : Bool} (h : evI g ρ (.call f as) = some d) (hd : ba d = some xs) : evIter g ρ own (evI g ρ (.call f as)) (.call f as) = some xs := by
  rw [yj, h]; exact hd
theorem gb {a lo : IE} {xs : List D} {i : Int} (h1 : isV g ρ a (.list xs)) (h2 : evI g ρ lo = some (.int i)) (h3 : -aj < i) (h4 : i < aj) : evI g ρ (.cut a lo (.k .none)) = some (.list (db (some i) none xs)) := by
  refine aA (Option.map_eq_some_iff.mp h1) fun x' e1 q1 => ?_
  rw [pK, e1, Option.bind_some, h2, Option.bind_some, show o5 (.int i) = some (some i) from if_pos ⟨h3, h4⟩, Option.bind_some, q1]; rfl
theorem pN {a hi : IE} {xs : List D} {i : Int} (h1 : isV g ρ a (.list xs)) (h2 : evI g ρ hi = some (.int i)) (h3 : -aj < i) (h4 : i < aj) : evI g ρ (.cut a (.k .none) hi) = some (.list (db none (some i) xs)) := by
  refine aA (Option.map_eq_some_iff.mp h1) fun x' e1 q1 => ?_
  rw [pK, e1, Option.bind_some, h2, Option.bind_some, show o5 (.int i) = some (some i) from if_pos ⟨h3, h4⟩, q1]; rfl
theorem iE {e : IE} {d : D} {xs : List D} {own : Bool} (h : evI g ρ e = some d) (hd : ba d = some xs) (hi : evIter g ρ own (evI g ρ e) e = ((evI g ρ e).map (·, false)).bind fun a => bif a.2 && !own then none else ba a.1) : evIter g ρ own (evI g ρ e) e = some xs := by
  rw [hi, h]; exact hd
theorem eJ {α : Type} {enc : α → D} {fs : List (Nat × Nat)} {ts : List Nat} {tt : Bool} {it c e : IE} {xs : List α} (p : α → Bool) (f : α → D) (hit : evIter g ρ true (evI g ρ it) it = some (xs.map enc))
    (h : ∀ a ∈ xs, ∃ ρ₁, br ts (enc a) (cy fs ρ) tt = some ρ₁ ∧ evT g ρ₁ (evI g ρ₁ c) c = some (p a) ∧ (p a = true → evI g ρ₁ e = some (f a)) ∧ bf (f a) = true) : evI g ρ (.comp fs ts tt it c e) = some (.list ((xs.filter p).map f)) := by
  rw [w8, hit, Option.bind_some]
  clear hit
  suffices key : iT (fun d => (br ts d (cy fs ρ) tt).bind fun ρ₁ => (evT g ρ₁ (evI g ρ₁ c) c).bind fun b => bif b then (evI g ρ₁ e).bind fun r => bif bf r then some (some r) else none else some none) (xs.map enc) = some ((xs.filter p).map f) from congrArg (Option.map PyData.list) key
  induction xs with
  | nil => rfl
  | cons a r ih =>
    refine iK (h a (.head _)) fun ρ₁ e1 e2 e3 e4 => ?_
    rw [List.map_cons, zS, e1, Option.bind_some, e2, Option.bind_some, List.filter_cons, ih fun b m => h b (.tail _ m)]
    cases q : p a with
    | true => rw [cond_true, e3 q, Option.bind_some, e4]; rfl
    | false => rfl
theorem ui {t b o : IE} {p : Prop} [Decidable p] {i j : Int} (h : evT g ρ (evI g ρ t) t = some (decide p)) (h1 : evI g ρ b = some (.int i)) (h2 : evI g ρ o = some (.int j)) : evI g ρ (.ite t b o) = some (.int (if p then i else j)) := by
  rw [tc, h, Option.bind_some]
  by_cases q : p
  · rw [decide_eq_true q, if_pos q]; exact h1
  · rw [decide_eq_false q, if_neg q]; exact h2
theorem xB {a b : IE} {x y : D} (h1 : evI g ρ a = some x) (h2 : evI g ρ b = some y) : evI g ρ (.tup [a, b]) = some (.tuple [x, y]) := by rw [ta, bg h1 (bg h2 rfl)]; rfl
theorem bo {a b : IE} {i j : Int} (h1 : isV g ρ a (.int i)) (h2 : evI g ρ b = some (.int j)) (hj : j ≠ 0) : isV g ρ (.bin .Mod a b) (.int (i.fmod j)) := by
  refine aA (Option.map_eq_some_iff.mp h1) fun x' e1 e => ?_
  show ((evI g ρ (.bin .Mod a b)).map (·, false)).map (·.1) = _
  rw [hO, e1, Option.bind_some, h2, Option.bind_some, e, show ux .Mod (.int i) (.int j) = some (.int (i.fmod j)) from congrArg (Option.map PyData.int) (if_neg hj)]; rfl
theorem cq {a b : IE} {i j : Int} (h1 : isV g ρ a (.int i)) (h2 : evI g ρ b = some (.int j)) (hj : j ≠ 0) : isV g ρ (.bin .FloorDiv a b) (.int (i.fdiv j)) := by
  refine aA (Option.map_eq_some_iff.mp h1) fun x' e1 e => ?_
  show ((evI g ρ (.bin .FloorDiv a b)).map (·, false)).map (·.1) = _
  rw [hO, e1, Option.bind_some, h2, Option.bind_some, e, show ux .FloorDiv (.int i) (.int j) = some (.int (i.fdiv j)) from congrArg (Option.map PyData.int) (if_neg hj)]; rfl
theorem eCutV {a lo hi : IE} {x d : D} {l h : Option Int} (h1 : isV g ρ a x) (h2 : (evI g ρ lo).bind o5 = some l) (h3 : (evI g ρ hi).bind o5 = some h) (h4 : ul l h x = some d) : evI g ρ (.cut a lo hi) = some d := by
  refine aA (Option.map_eq_some_iff.mp h1) fun x' e1 e => ?_
  rw [pK, e1, Option.bind_some, h2, Option.bind_some, h3, Option.bind_some, e]; exact h4
theorem eLst2 {a b : IE} {x y : D} (h1 : evI g ρ a = some x) (h2 : evI g ρ b = some y) : evI g ρ (.lst [a, b]) = some (.list [x, y]) := by rw [zD, bg h1 (bg h2 rfl)]; rfl
theorem c5 {e : IE} {d : D} (h : evI g ρ e = some d) (hp : bW ρ (evI g ρ e) e = (evI g ρ e).map (·, false)) : isV g ρ e d := by
  unfold isV; rw [hp, h]; rfl
theorem oJ {m : Nat} {o : IE} {as : List IE} {s d : D} {ds : List D} {w : Bool} (h : evI g ρ o = some s) (hi : ik s = true) (ha : evArgs g ρ as = some (ds, w)) (hc : g.meth m (s :: ds) = some d) (hf : (w && !bf d) = false) : evI g ρ (.meth m o as) = some d := by
  rw [w7, h, Option.bind_some, hi, cond_true, ha, Option.bind_some, hc, Option.bind_some, qh, hf]; rfl
theorem jY {a b : IE} {xs ys : List D} (h1 : isV g ρ a (.list xs)) (h2 : evI g ρ b = some (.list ys)) (hs : xs.length + ys.length ≤ aF) : evI g ρ (.bin .Add a b) = some (.list (xs ++ ys)) := by
  refine aA (Option.map_eq_some_iff.mp h1) fun x' e1 e => ?_
  rw [hO, e1, Option.bind_some, h2, Option.bind_some, e]
  exact if_pos hs
theorem eRev {a : IE} {xs : List D} (h : isV g ρ a (.list xs)) : evI g ρ (.rev a) = some (.list xs.reverse) := by
  refine aA (Option.map_eq_some_iff.mp h) fun x' e1 e => ?_
  rw [zB, e1, Option.bind_some, e]; rfl
theorem lM {a : IE} {d : D} {ys : List D} (h : isV g ρ a d) (hs : sr d = some (.list ys)) : evI g ρ (.bi .sorted [a]) = some (.list ys) := by
  refine aA (Option.map_eq_some_iff.mp h) fun z0_ e1 e => ?_; obtain ⟨x, b⟩ := z0_
  cases (show x = d from e)
  rw [pL, dQ, e1]
  cases b <;> exact hs
noncomputable def asg (ts : List Nat) (d : D) (l : Row) : Bool → Option Row
  | true => (match d with
    | .tuple ds => jt ts ds l
    | _ => none)
  | false => jt ts [d] l
theorem tq {ts : List Nat} {d : D} {l l' : Row} {tt : Bool} (h : asg ts d l tt = some l') : br ts d (E l) tt = some (E l') := by
  cases tt with
  | false => exact hY _ _ _ _ h
  | true => cases d <;> first | exact hY _ _ _ _ h | exact nS h
noncomputable def turn {β : Type} (I : β → Row → Prop) (b : β) (x : Fl × Rho) : Prop := ∃ l', x.2 = E l' ∧ I b l' ∧ x.1.goes
theorem aO {β : Type} {I : β → Row → Prop} {b : β} (h : I b l) : turn I b (.next, E l) := ⟨l, rfl, h, trivial⟩
theorem jl {β : Type} {I : β → Row → Prop} {b : β} (h : I b l) : turn I b (.cont, E l) := ⟨l, rfl, h, trivial⟩
theorem kr {α β : Type} {enc : α → D} {ts : List Nat} {tt : Bool} {it : IE} {body : List IS} (I : β → Row → Prop) (f : β → α → β) (xs : List α) (b : β) (hit : evIter g (E l) false (evI g (E l) it) it = some (xs.map enc)) (h0 : I b l)
    (hs : ∀ a ∈ xs, ∀ b l, I b l → ∃ l', asg ts (enc a) l tt = some l' ∧ Run g l' body (turn I (f b a)))
    (k : ∀ l', I (xs.foldl f b) l' → Run g l' r Q) : Run g l (.loop ts tt it body :: r) Q := by
  refine az (an ?_)
  rw [jT, hit, Option.bind_some]
  refine Ok_for (fun b ρ => ∃ l, ρ = E l ∧ I b l) f xs b _ ⟨l, rfl, h0⟩ (fun a m b ρ h => ?_) fun ρ' h => ?_
  · obtain ⟨l, rfl, h⟩ := h
    obtain ⟨l', e, h⟩ := hs a m b l h
    rw [tq e]
    refine Ok.mono (ah h) fun x hx => ?_
    refine cg hx fun l'' e h go => ?_; try clear hx
    exact ⟨⟨l'', e, h⟩, go⟩
  · obtain ⟨l', rfl, h⟩ := h
    exact ah (k l' h)
theorem my {α : Type} {enc : α → D} {ts : List Nat} {tt : Bool} {it : IE} {body : List IS} (I : Row → Prop) (p : α → Bool) (d : D) (xs : List α) (hit : evIter g (E l) false (evI g (E l) it) it = some (xs.map enc)) (h0 : I l)
    (hs : ∀ a ∈ xs, ∀ l, I l → ∃ l', asg ts (enc a) l tt = some l' ∧ Run g l' body fun x => (p a = true ∧ turn (fun Z : Unit => I) () x) ∨ (p a = false ∧ x.1 = .ret d))
    (k1 : xs.all p = true → ∀ l', I l' → Run g l' r Q) (k2 : xs.all p = false → ∀ ρ', Q (.ret d, ρ')) : Run g l (.loop ts tt it body :: r) Q := by
  refine az (an ?_)
  rw [jT, hit, Option.bind_some]
  refine Ok_all (fun ρ => ∃ l, ρ = E l ∧ I l) p d xs _ ⟨l, rfl, h0⟩ (fun a m ρ h => ?_) (fun h ρ' h' => ?_) k2
  · obtain ⟨l, rfl, h⟩ := h
    obtain ⟨l', e, h⟩ := hs a m l h
    rw [tq e]
    refine Ok.mono (ah h) fun x hx => ?_
    rcases hx with ⟨q, l'', e, h, go⟩ | ⟨q, e⟩
    · rw [if_pos q]; exact ⟨⟨l'', e, h⟩, go⟩
    · rw [if_neg (by rw [q]; decide)]; exact e
  · obtain ⟨l', rfl, h'⟩ := h'
    exact ah (k1 h l' h')
theorem nY {α β : Type} {enc : α → D} {ts : List Nat} {tt : Bool} {it : IE} {body : List IS} (I : Nat → β → Row → Prop) (f : β → α → β) (xs : List α) (b : β) (hit : evIter g (E l) false (evI g (E l) it) it = some (xs.map enc)) (h0 : I 0 b l)
    (hs : ∀ j a, xs[j]? = some a → ∀ b l, I j b l → ∃ l', asg ts (enc a) l tt = some l' ∧ Run g l' body (turn (I (j + 1)) (f b a)))
    (k : ∀ l', I xs.length (xs.foldl f b) l' → Run g l' r Q) : Run g l (.loop ts tt it body :: r) Q := by
  refine az (an ?_)
  rw [jT, hit, Option.bind_some]
  refine zg (fun j b ρ => ∃ l, ρ = E l ∧ I j b l) f xs 0 b _ ⟨l, rfl, h0⟩ (fun j a m b ρ h => ?_) fun ρ' h => ?_
  · rw [Nat.zero_add] at h ⊢
    obtain ⟨l, rfl, h⟩ := h
    obtain ⟨l', e, h⟩ := hs j a m b l h
    rw [tq e]
    refine Ok.mono (ah h) fun x hx => ?_
    refine cg hx fun l'' e h go => ?_; try clear hx
    exact ⟨⟨l'', e, h⟩, go⟩
  · rw [Nat.zero_add] at h
    obtain ⟨l', rfl, h⟩ := h
    exact ah (k l' h)
theorem rE {test : Rho → Option Bool} {body : Rho → Option (Fl × Rho)} {Q : Fl × Rho → Prop} (I : Nat → Rho → Prop) (ht : ∀ m ρ, I m ρ → test ρ = some (decide (0 < m))) (hb : ∀ m ρ, I (m + 1) ρ → Ok (body ρ) fun x => I m x.2 ∧ x.1.goes)
    (hk : ∀ ρ, I 0 ρ → Q (.next, ρ)) : ∀ (m N : Nat) (ρ : Rho), I m ρ → m < N → Ok (ia test body N ρ) Q
  | m, 0, _, _, h => absurd h (by (lia -abstractProof))
  | 0, N + 1, ρ, hI, _ => by
    rw [pb, ht 0 ρ hI]
    exact hk ρ hI
  | m + 1, N + 1, ρ, hI, h => by
    refine cg ((hb m ρ hI).ex) fun z0_ e2 h1 h2 => ?_; obtain ⟨fl, ρ'⟩ := z0_
    rw [pb, ht (m + 1) ρ hI, decide_eq_true (Nat.succ_pos m), Option.bind_some, cond_true, e2]
    have go := rE I ht hb hk m N ρ' h1 (by exact Nat.le_of_lt_succ (by assumption))
    cases fl with
    | ret d => exact h2.elim
    | next => exact go
    | cont => exact go
theorem sWhile {t : IE} {body : List IS} (I : Nat → Row → Prop) (m : Nat) (h0 : I m l) (hm : m < 1000) (ht : ∀ m l, I m l → evT g (E l) (evI g (E l) t) t = some (decide (0 < m)))
    (hb : ∀ m l, I (m + 1) l → Run g l body (turn (fun Z : Unit => I m) ())) (k : ∀ l', I 0 l' → Run g l' r Q) : Run g l (.whil t body :: r) Q := by
  refine az (an ?_)
  rw [wv]
  refine rE (fun m ρ => ∃ l, ρ = E l ∧ I m l) (fun m ρ h => ?_) (fun m ρ h => ?_) (fun ρ h => ?_) m 1000 _ ⟨l, rfl, h0⟩ hm
  · obtain ⟨l, rfl, h⟩ := h; exact ht m l h
  · obtain ⟨l, rfl, h⟩ := h
    refine Ok.mono (ah (hb m l h)) fun x hx => ?_
    refine cg hx fun l' e h go => ?_; try clear hx
    exact ⟨⟨l', e, h⟩, go⟩
  · obtain ⟨l, rfl, h⟩ := h; exact ah (k l h)
theorem zm {α β : Type} {enc : α → D} {ts : List Nat} {tt : Bool} {it : IE} {body : List IS} (I : β → Row → Prop) (f : β → α → Sum β D) (xs : List α) (b : β) (hit : evIter g (E l) false (evI g (E l) it) it = some (xs.map enc)) (h0 : I b l)
    (hs : ∀ a ∈ xs, ∀ b l, I b l → ∃ l', asg ts (enc a) l tt = some l' ∧ Run g l' body fun x => match f b a with
      | .inl b' => turn I b' x
      | .inr d => x.1 = .ret d)
    (k : match dW f xs b with
      | .inl b' => ∀ l', I b' l' → Run g l' r Q
      | .inr d => ∀ ρ', Q (.ret d, ρ')) : Run g l (.loop ts tt it body :: r) Q := by
  refine az (an ?_)
  rw [jT, hit, Option.bind_some]
  refine jj (fun b ρ => ∃ l, ρ = E l ∧ I b l) f xs b _ ⟨l, rfl, h0⟩ (fun a m b ρ h => ?_) ?_
  · obtain ⟨l, rfl, h⟩ := h
    obtain ⟨l', e, h⟩ := hs a m b l h
    rw [tq e]
    refine Ok.mono (ah h) fun x hx => ?_
    cases q : f b a with
    | inl b' =>
      rw [q] at hx
      refine cg hx fun l'' e h go => ?_; try clear hx
      exact ⟨⟨l'', e, h⟩, go⟩
    | inr d => rw [q] at hx; exact hx
  · cases q : dW f xs b with
    | inl b' =>
      rw [q] at k
      rintro ρ' ⟨l', rfl, h⟩
      exact ah (k l' h)
    | inr d => rw [q] at k; exact k
end
theorem xT {f : Nat} {fn : IFn} (n m : Nat) {ds : List D} (P : D → Prop) (hf : nth dU f = some fn) (hio : TT.ios.contains f = false) (hl : (ds.length == fn.ps) = true)
    (h : Run (gN TT n) ((ds.map fun d => some (.val d)) ++ List.replicate m none) fn.body (ku fun r => P r.1)) : ∃ d, (gN TT (n + 1)).call f ds = some d ∧ P d := by
  have := jd ds [] m
  rw [List.nil_append, show ([] : Row).length = 0 from rfl, List.nil_append, ← tf, ← fh] at this
  replace h := ah h
  rw [← this] at h
  refine aA ((sk (lvs := ds.map .val) (by rw [List.length_map]; exact hl) h).ex) fun r e q => ?_
  refine ⟨r.1, ?_, q⟩
  show (bif TT.ios.contains f then none else (nth dU f).bind fun fn => (gC (gN TT n) fn (ds.map .val)).map (·.1)) = _
  rw [hio, hf, cond_false, Option.bind_some, e]; rfl
theorem qM {f : Nat} {fn : IFn} (n m : Nat) {ds : List D} {d : D} (hf : nth da f = some fn) (hl : (ds.length == fn.ps) = true)
    (h : Run (gN TT n) ((ds.map fun d => some (.val d)) ++ List.replicate m none) fn.body (ku fun r => r.1 = d)) : (gN TT (n + 1)).meth f ds = some d := by
  refine yY n hf hl ?_
  rw [tf (ds.length + m)]
  have := jd ds [] m
  rw [List.nil_append] at this
  rw [show ([] : Row).length = 0 from rfl, List.nil_append] at this
  rw [this]; exact ah h
theorem ioE {f : Nat} {fn : IFn} (n m : Nat) {lv : LV} {ds : List D} {d : D} {P : LV → Prop} (hf : nth dU f = some fn) (hio : TT.ios.contains f = true) (hl : (ds.length + 1 == fn.ps) = true)
    (h : Run (gN TT n) (some lv :: (ds.map fun d => some (.val d)) ++ List.replicate m none) fn.body (ku fun r => r.1 = d ∧ ∃ lv', r.2 0 = some lv' ∧ P lv')) : ∃ lv', (gN TT (n + 1)).io f lv ds = some (d, lv') ∧ P lv' := by
  have e0 : iW 0 (lv :: ds.map .val) (fun Z => none) = E (some lv :: (ds.map fun d => some (.val d)) ++ List.replicate m none) := by
    show iW 1 (ds.map .val) (upd emp 0 lv) = _
    rw [fh, tf (1 + (ds.length + m)), cK 0 lv _ (by rw [List.length_replicate]; show Nat.ble 1 _ = true; rw [Nat.ble_eq]; (lia -abstractProof)), Nat.add_comm 1, List.replicate_succ]
    exact jd ds [some lv] m
  replace h := ah h
  rw [← e0] at h
  obtain ⟨⟨d', ρ'⟩, e, rfl, lv', h1, h2⟩ := (sk (lvs := lv :: ds.map .val) (by rw [List.length_cons, List.length_map]; exact hl) h).ex
  refine ⟨lv', ?_, h2⟩
  show (bif TT.ios.contains f then (nth dU f).bind fun fn => (gC (gN TT n) fn (lv :: ds.map .val)).bind fun r => (r.2 0).map (r.1, ·) else none) = _
  rw [hio, hf, cond_true, Option.bind_some, e, Option.bind_some, h1]; rfl
end Mine
namespace Mine
open PySem
theorem iV (n : Nat) (c : Cl) : (gN TT (n+1)).call 0 [aL c] = some (.list ((aM c).map aZ)) := by
  refine bA n 6 rfl rfl rfl (pn _ rfl rfl (aT _ _ (cEq rfl rfl) rfl (fun h => ?_) fun h => bP _ rfl ?_))
  · show PyData.list _ = .list _
    unfold aM
    rw [if_pos (of_decide_eq_true h)]; rfl
  · show PyData.list _ = .list _
    unfold aM
    rw [if_neg (of_decide_eq_false h)]; rfl
theorem sZ (n : Nat) (a b : Pr) : (gN TT (n+1)).call 1 [aZ a, aZ b] = some (.bool (iu a b)) :=
  bA n 0 rfl rfl rfl (bP (.bool (iu a b)) (vOr _ _ (eP (cLe rfl rfl)) fun Z => eP (cLe rfl rfl)) rfl)
theorem qx (n : Nat) (a b : Pr) : (gN TT (n+1)).call 2 [aZ a, aZ b] = some (.bool (cr a b)) :=
  bA n 0 rfl rfl rfl (bP (.bool (cr a b)) (oY _ _ (eP (cLe rfl rfl)) fun Z => eP (cLe rfl rfl)) rfl)
theorem eB (n : Nat) (ps qs : List Pr) : (gN TT (n+2)).call 3 [.list (ps.map aZ), .list (qs.map aZ)] = some (.bool (bl ps qs)) := by
  refine bA (n+1) 2 rfl rfl rfl ?_
  refine my (fun l => ∃ x y, l = [some (.val (.list (ps.map aZ))), some (.val (.list (qs.map aZ))), x, y]) (fun a => qs.all fun b => iu a b) (.bool false) ps rfl (ei2 rfl) ?_ (fun h l' i => ?_) fun h ρ => ?_
  · rintro a - _ hx_; refine cY hx_ fun x y e_ => ?_; obtain rfl := e_
    refine ⟨_, rfl, my (fun l => ∃ y, l = [some (.val (.list (ps.map aZ))), some (.val (.list (qs.map aZ))), some (.val (aZ a)), y]) (fun b => iu a b) (.bool false) qs rfl ⟨_, rfl⟩ ?_ (fun h l' i => ?_) fun h ρ => ?_⟩
    · rintro b - _ ⟨y, rfl⟩
      refine ⟨_, rfl, aT _ _ (tNo (dM rfl (sZ n a b))) rfl (fun h => .inr ⟨by simpa using h, rfl⟩) fun h => fin (.inl ⟨by simpa using h, aO ⟨_, rfl⟩⟩)⟩
    · obtain ⟨y, rfl⟩ := i
      exact fin (.inl ⟨h, aO (ei2 rfl)⟩)
    · exact .inr ⟨h, rfl⟩
  · refine cY i fun x y e_ => ?_; obtain rfl := e_
    exact bP _ rfl (congrArg PyData.bool h.symm)
  · exact congrArg PyData.bool h.symm
end Mine
namespace Mine
open PySem
noncomputable def bc (c : Cl) : Bool := decide (c.s = 2) || decide (c.s = 4)
noncomputable def catchB (c : Cl) (p : Int) : Bool := decide (p = 2) && (decide (c.s = 0) || decide (c.s = 1))
noncomputable def kO (c : Cl) (p : Int) : Bool := decide (p = 2) && bc c
noncomputable def aB (c : Cl) (i : Int) : Int := if c.t0 ≤ i ∧ i < c.t1 then 0 else if c.h0 ≤ i ∧ i < c.h1 then 2 else if c.s = 1 ∧ c.x ≤ i ∧ i < c.h0 then 1 else -1
noncomputable def ay (code : List Int) (f0 h0 : Int) : Bool := !(decide (f0 < 0) || decide (h0 ≤ f0)) && (List.range (h0 - f0).toNat).all fun k => decide (code.getD (f0 + k).toNat 0 = 65041) == decide (f0 + k = h0 - 1)
theorem rZ (b : Int) (h3 : -100000 ≤ b) (h4 : b ≤ 100000) : dD [.int b] = some ((List.range b.toNat).map fun (k : Nat) => PyData.int (k : Int)) := by
  have : dD [.int b] = if -100000 ≤ b ∧ b ≤ 100000 then some (dZ b.toNat 0) else none := rfl
  rw [this, if_pos ⟨h3, h4⟩]
  unfold dZ
  simp
theorem rY (a b : Int) (h1 : -100000 ≤ a) (h2 : a ≤ 100000) (h3 : -100000 ≤ b) (h4 : b ≤ 100000) : dD [.int a, .int b] = some ((List.range (b - a).toNat).map fun (k : Nat) => PyData.int (a + (k : Int))) := by
  have : dD [.int a, .int b] = if -100000 ≤ a ∧ a ≤ 100000 ∧ -100000 ≤ b ∧ b ≤ 100000 then some (dZ (b - a).toNat a) else none := rfl
  rw [this, if_pos ⟨h1, h2, h3, h4⟩]; rfl
theorem nn (n : Nat) (h : n ≤ 100) : dD [.int n] = some ((List.range n).map fun (k : Nat) => PyData.int (k : Int)) := (rZ _ (ige (Int.natCast_nonneg n) (by decide)) (by exact icl (by assumption) (by decide))).trans (by rw [Int.toNat_natCast])
theorem py {n k : Nat} (hk : k < n) (h : n ≤ 100) : dD [.int ((k : Int) + 1), .int n] = some ((List.range (n - (k + 1))).map fun j : Nat => PyData.int ((k : Int) + 1 + (j : Int))) := by
  rw [rY _ _ (ige (Int.le_of_lt (Int.lt_add_one_of_le (Int.natCast_nonneg k))) (by decide)) (by omega) (ige (Int.natCast_nonneg n) (by decide)) (by exact icl (by assumption) (by decide)), show ((n : Int) - ((k : Int) + 1)).toNat = n - (k + 1) by omega]
theorem wT {n k j : Nat} (h : j < n - (k + 1)) : k + 1 + j < n := by omega
theorem kW {α : Type} {enc : α → D} {xs : List α} {k : Nat} {a : α} (h : xs[k]? = some a) (hn : xs.length ≤ 100) : gT (.list (xs.map enc)) (.int (k : Int)) = some (enc a) :=
  bR h (Int.natCast_nonneg k) (c8 (by have := (List.getElem?_eq_some_iff.mp h).1; omega))
theorem wf {α : Type} {enc : α → D} {xs : List α} {k j : Nat} {a : α} (h : xs[k + 1 + j]? = some a) (hn : xs.length ≤ 100) : gT (.list (xs.map enc)) (.int ((k : Int) + 1 + (j : Int))) = some (enc a) := kW (k := k + 1 + j) h hn
theorem sm {k n : Nat} (h : k < n) (hn : n ≤ 100) : -aj < (k : Int) + 1 ∧ (k : Int) + 1 < aj := ⟨oa (Int.le_of_lt (Int.lt_add_one_of_le (Int.natCast_nonneg k))), c8 (by omega)⟩
theorem range3 (a b : Int) (h1 : -100000 ≤ a) (h2 : a ≤ 100000) (h3 : -100000 ≤ b) (h4 : b ≤ 100000) : dD [.int a, .int b, .int (-1)] = some ((List.range (a - b).toNat).map fun (k : Nat) => PyData.int (a - (k : Int))) := by
  have : dD [.int a, .int b, .int (-1)] = if (-1 : Int) = -1 ∧ -100000 ≤ a ∧ a ≤ 100000 ∧ -100000 ≤ b ∧ b ≤ 100000 then some (eh (a - b).toNat a) else none := rfl
  rw [this, if_pos ⟨rfl, h1, h2, h3, h4⟩]; rfl
theorem oG {α : Type} (p : α → Bool) : ∀ (l : List α) (h : Bool), l.foldl (fun h a => h && p a) h = (h && l.all p)
  | [], h => by rw [List.foldl_nil, List.all_nil, Bool.and_true]
  | a :: l, h => by rw [List.foldl_cons, oG p l, List.all_cons, Bool.and_assoc]
theorem k6 (n : Nat) (ps qs : List Pr) : (gN TT (n+2)).call 4 [.list (ps.map aZ), .list (qs.map aZ)] = some (.bool (allInside ps qs)) := by
  refine bA (n+1) 3 rfl rfl rfl ?_
  have e : allInside ps qs = !qs.all fun b => !ps.all fun a => cr a b := by unfold allInside; rw [List.any_eq_not_all_not]
  rw [e]
  refine my (fun l => ∃ x y z, l = [some (.val (.list (ps.map aZ))), some (.val (.list (qs.map aZ))), x, y, z]) (fun b => !ps.all fun a => cr a b) (.bool true) qs rfl (ei3 rfl) ?_ (fun h l' i => ?_) fun h ρ => ?_
  · rintro b - _ hx_; refine iJ hx_ fun x y z e_ => ?_; obtain rfl := e_; try clear hx_
    refine ⟨_, rfl, bC _ rfl rfl (kr (fun h l => ∃ z, l = [some (.val (.list (ps.map aZ))), some (.val (.list (qs.map aZ))), some (.val (aZ b)), some (.val (.bool h)), z]) (fun h a => h && cr a b) ps true rfl ⟨_, rfl⟩ ?_ fun l' i => ?_)⟩
    · rintro a - h _ ⟨z, rfl⟩
      refine ⟨_, rfl, sIf _ (tNo (dM rfl (qx n a b))) (fun q => bC _ rfl rfl (fB (aO ⟨some (.val (aZ a)), ?_⟩))) fun q => fB (aO ⟨some (.val (aZ a)), ?_⟩)⟩
      · rw [show cr a b = false by simpa using q, Bool.and_false]; rfl
      · rw [show cr a b = true by simpa using q, Bool.and_true]; rfl
    · obtain ⟨z, rfl⟩ := i
      rw [oG, Bool.true_and]
      cases q : ps.all fun a => cr a b with
      | true => exact aT true _ rfl rfl (fun Z => .inr ⟨rfl, rfl⟩) fun q => nomatch q
      | false => exact aT false _ rfl rfl (fun q => nomatch q) fun Z => fin (.inl ⟨rfl, aO (ei3 rfl)⟩)
  · refine iJ i fun x y z e_ => ?_; obtain rfl := e_; try clear i
    exact bP _ rfl (congrArg PyData.bool (by rw [h]; rfl))
  · exact congrArg PyData.bool (by rw [h]; rfl)
theorem eW (n : Nat) (c : Cl) : (gN TT (n+1)).call 7 [aL c] = some (.bool (bc c)) :=
  bA n 0 rfl rfl rfl (bP (.bool (bc c)) (vOr _ _ (eP (cEq rfl rfl)) fun Z => eP (cEq rfl rfl)) rfl)
theorem fI (n : Nat) (c : Cl) (p : Int) : (gN TT (n+1)).call 14 [aL c, .int p] = some (.bool (catchB c p)) :=
  bA n 0 rfl rfl rfl (bP (.bool (catchB c p)) (oY _ _ (eP (cEq rfl rfl)) fun Z => wS (oOr (vOr _ _ (eP (cEq rfl rfl)) fun Z => lOr (eP (cEq rfl rfl))))) rfl)
theorem pS (n : Nat) (c : Cl) (p : Int) : (gN TT (n+2)).call 15 [aL c, .int p] = some (.bool (kO c p)) :=
  bA (n+1) 0 rfl rfl rfl (bP (.bool (kO c p)) (oY _ _ (eP (cEq rfl rfl)) fun Z => ab rfl (eW n c)) rfl)
theorem uR (c : Cl) (i : Int) : aB c i = bif decide (c.t0 ≤ i) && decide (i < c.t1) then 0 else bif decide (c.h0 ≤ i) && decide (i < c.h1) then 2 else bif decide (c.s = 1) && (decide (c.x ≤ i) && decide (i < c.h0)) then 1 else -1 := by
  unfold aB
  simp only [cond_eq_ite, Bool.and_eq_true, decide_eq_true_eq]
theorem pR (n : Nat) (c : Cl) (i : Int) : (gN TT (n+1)).call 11 [aL c, .int i] = some (.int (aB c i)) := by
  rw [uR]
  refine bA n 6 rfl rfl rfl (pn _ rfl rfl (aT _ _ (eQ _ _ (cLe rfl rfl) fun Z => dT (cLt rfl rfl)) rfl (fun h => ?_) fun h1 => aT _ _ (eQ _ _ (cLe rfl rfl) fun Z => dT (cLt rfl rfl)) rfl (fun h => ?_) fun h2 =>
    aT _ _ (eQ _ _ (cEq rfl rfl) fun Z => eQ _ _ (cLe rfl rfl) fun Z => dT (cLt rfl rfl)) rfl (fun h => ?_) fun h => bP _ rfl ?_))
  · rw [h]; rfl
  · rw [h1, h]; rfl
  · rw [h1, h2, h]; rfl
  · rw [h1, h2, h]; rfl
theorem jZ (n : Nat) (code : List Int) (f0 h0 : Int) (hl : code.length ≤ 100000) (hh : h0 ≤ code.length) : (gN TT (n+1)).call 6 [.list (code.map cC), .int f0, .int h0] = some (.bool (ay code f0 h0)) := by
  refine bA n 2 rfl rfl rfl (aT (decide (f0 < 0) || decide (h0 ≤ f0)) _ (i4 _ _ (cLt rfl rfl) fun Z => gH (cGe rfl rfl)) rfl (fun h => ?_) fun h => ?_)
  · show PyData.bool false = .bool (ay code f0 h0)
    unfold ay; rw [h]; rfl
  have h1 : 0 ≤ f0 ∧ f0 < h0 := by simpa using h
  have e : ay code f0 h0 = (List.range (h0 - f0).toNat).all fun k => decide (code.getD (f0 + k).toNat 0 = 65041) == decide (f0 + k = h0 - 1) := by unfold ay; rw [h]; rfl
  have t1 : h0 ≤ 100000 := Int.le_trans hh (Int.ofNat_le.mpr hl)
  rw [e]
  refine my (enc := fun k : Nat => PyData.int (f0 + (k : Int))) (fun l => ∃ x y, l = [some (.val (.list (code.map cC))), some (.val (.int f0)), some (.val (.int h0)), x, y]) (fun k => decide (code.getD (f0 + (k : Nat)).toNat 0 = 65041) == decide (f0 + (k : Nat) = h0 - 1)) (.bool false) (List.range (h0 - f0).toNat)
    (fW rfl (rY f0 h0 (ige h1.1 (by decide)) (Int.le_trans (Int.le_of_lt h1.2) t1) (ige (Int.le_of_lt (Int.lt_of_le_of_lt h1.1 h1.2)) (by decide)) t1)) (ei2 rfl) ?_ (fun h l' i => ?_) fun h ρ => ?_
  · rintro k m _ hx_; refine cY hx_ fun x y e_ => ?_; obtain rfl := e_; try clear hx_
    have hk := List.mem_range.mp m
    have f1 : 0 ≤ f0 + (k : Int) := Int.add_nonneg h1.1 (Int.natCast_nonneg k)
    have f2 : f0 + (k : Int) < h0 := by omega
    have h7 : (f0 + (k : Int)).toNat < code.length := toNat_lt f1 (Int.lt_of_lt_of_le f2 hh)
    refine ⟨_, rfl, bC (.bool (decide (code.getD (f0 + (k : Nat)).toNat 0 = 65041))) (eP (cEq (jK (x := cC (code.getD (f0 + (k : Nat)).toNat 0)) (jK rfl rfl (bR ?_ f1 (jo (Int.lt_of_lt_of_le f2 t1) (by decide)))) rfl rfl) rfl)) rfl
      (aT _ _ (ac rfl (tU (cEq rfl rfl)) (th _ _)) rfl (fun h => .inr ⟨by simpa using h, rfl⟩) fun h => fin (.inl ⟨by simpa using h, aO (ei2 rfl)⟩))⟩
    rw [List.getD, List.getElem?_eq_getElem h7]; rfl
  · refine cY i fun x y e_ => ?_; obtain rfl := e_; try clear i
    exact bP _ rfl (congrArg PyData.bool h.symm)
  · exact congrArg PyData.bool h.symm
end Mine
namespace Mine
open PySem
noncomputable def aI (c : Cl) : List Pr := if c.s = 1 then [(c.x, c.h0), (c.h0, c.h1)] else [(c.h0, c.h1)]
theorem bX (c : Cl) : aM c = (c.t0, c.t1) :: aI c := by
  unfold aM aI
  split <;> rfl
noncomputable def aH (code : List Int) (c : Cl) : Bool :=
  !(!decide (c.s = 0) && (!decide (c.s = 1) && (!decide (c.s = 2) && !decide (c.s = 4)))) && (!(decide (c.t0 < 0) || (decide (c.t1 ≤ c.t0) || decide (c.t1 > code.length))) &&
  (!(decide (c.h0 < 0) || (decide (c.h1 ≤ c.h0) || decide (c.h1 > code.length))) && (!(decide (c.s = 1) && !ay code c.x c.h0) && bl [(c.t0, c.t1)] (aI c))))
theorem kz (code : List Int) (c : Cl) : aH code c = ((decide (c.s = 0) || decide (c.s = 1) || decide (c.s = 2) || decide (c.s = 4)) && !(decide (c.t0 < 0) || decide (c.t1 ≤ c.t0) || decide (c.t1 > code.length)) &&
  !(decide (c.h0 < 0) || decide (c.h1 ≤ c.h0) || decide (c.h1 > code.length)) && !(decide (c.s = 1) && !ay code c.x c.h0) && bl [(c.t0, c.t1)] (aI c)) := by
  unfold aH
  simp only [Bool.not_and, Bool.not_not, Bool.not_or, Bool.or_assoc, Bool.and_assoc]
theorem lA (n : Nat) (a b : Int) (qs : List Pr) : (gN TT (n+2)).call 3 [.list [.tuple [.int a, .int b]], .list (qs.map aZ)] = some (.bool (bl [(a, b)] qs)) := eB n [(a, b)] qs
theorem ja (n : Nat) (code : List Int) (c : Cl) (hl : code.length ≤ 100000) : (gN TT (n+3)).call 5 [.list (code.map cC), aL c] = some (.bool (aH code c)) := by
  refine bA (n+2) 7 rfl rfl rfl (pn _ rfl rfl ?_)
  refine aT _ _ (eQ _ _ (cNe rfl rfl) fun Z => eQ _ _ (cNe rfl rfl) fun Z => eQ _ _ (cNe rfl rfl) fun Z => dT (cNe rfl rfl)) rfl (fun h => ?_) fun h1 => ?_
  · show PyData.bool false = .bool (aH code c)
    unfold aH; rw [h]; rfl
  refine aT _ _ (i4 _ _ (cLt rfl rfl) fun Z => i4 _ _ (cLe rfl rfl) fun Z => gH (cGt rfl (dj rfl))) rfl (fun h => ?_) fun h2 => ?_
  · show PyData.bool false = .bool (aH code c)
    unfold aH; rw [h1, h]; rfl
  refine aT _ _ (i4 _ _ (cLt rfl rfl) fun Z => i4 _ _ (cLe rfl rfl) fun Z => gH (cGt rfl (dj rfl))) rfl (fun h => ?_) fun h3 => ?_
  · show PyData.bool false = .bool (aH code c)
    unfold aH; rw [h1, h2, h]; rfl
  have h4 : c.h0 ≤ code.length := by simp at h3; (lia -abstractProof)
  refine aT _ _ (eQ _ _ (cEq rfl rfl) fun Z => dT (tNo (dM rfl (jZ _ code c.x c.h0 hl h4)))) rfl (fun h => ?_) fun h5 => ?_
  · show PyData.bool false = .bool (aH code c)
    unfold aH; rw [h1, h2, h3, h]; rfl
  refine bC _ (ab rfl (iV _ c)) rfl (bP (.bool (bl [(c.t0, c.t1)] (aI c))) ?_ ?_)
  · rw [bX]
    exact ab rfl (by rw [List.map_cons, xI, mM]; exact lA n _ _ _)
  · show PyData.bool _ = .bool (aH code c)
    unfold aH; rw [h1, h2, h3, h5]; rfl
noncomputable def aJ (a b : Cl) : Bool := bif decide (a.t0 = b.t0) && decide (a.t1 = b.t1) then !bc a && (!bc b && bl (aI a) (aI b)) else bl (aM a) (aM b) || allInside (aM a) [(b.t0, b.t1), (b.h0, b.h1)]
theorem m4 (a b : Cl) : aJ a b = if a.t0 = b.t0 ∧ a.t1 = b.t1 then !bc a && (!bc b && bl (aI a) (aI b)) else bl (aM a) (aM b) || allInside (aM a) [(b.t0, b.t1), (b.h0, b.h1)] := by
  unfold aJ
  by_cases h : a.t0 = b.t0 ∧ a.t1 = b.t1
  · rw [if_pos h, decide_eq_true h.1, decide_eq_true h.2]; rfl
  · rw [if_neg h, show (decide (a.t0 = b.t0) && decide (a.t1 = b.t1)) = false by simpa using h]; rfl
theorem pO (a b c d : Int) : be .Eq (.tuple [.int a, .int b]) (.tuple [.int c, .int d]) = some (decide (a = c) && decide (b = d)) := by
  unfold be
  dsimp only
  rw [eu (kq (a, b)) (kq (c, d)) rfl rfl, if_pos rfl]
  simp [PyData.eqv, PyData.eqvAll]
  constructor <;> rfl
theorem k9 (n : Nat) (a b : Cl) : (gN TT (n+2)).call 3 [.list (aZ (a.t0, a.t1) :: (aI a).map aZ), .list (aZ (b.t0, b.t1) :: (aI b).map aZ)] = some (.bool (bl (aM a) (aM b))) := by
  have := eB n (aM a) (aM b)
  rw [bX a, bX b] at this ⊢
  exact this
theorem kE (n : Nat) (a b : Cl) : (gN TT (n+2)).call 4 [.list (aZ (a.t0, a.t1) :: (aI a).map aZ), .list [aZ (b.t0, b.t1), aZ (b.h0, b.h1)]] = some (.bool (allInside (aM a) [(b.t0, b.t1), (b.h0, b.h1)])) := by
  have := k6 n (aM a) [(b.t0, b.t1), (b.h0, b.h1)]
  rw [bX a] at this ⊢
  exact this
theorem kZ (n : Nat) (c : Cl) : (gN TT (n+1)).call 0 [aL c] = some (.list (aZ (c.t0, c.t1) :: (aI c).map aZ)) := by rw [iV, bX]; rfl
theorem k5 (n : Nat) (a b : Cl) : (gN TT (n+3)).call 8 [aL a, aL b] = some (.bool (aJ a b)) := by
  refine bA (n+2) 2 rfl rfl rfl (bC _ (ab rfl (kZ _ a)) rfl (bC _ (ab rfl (kZ _ b)) rfl ?_))
  refine aT (decide (a.t0 = b.t0) && decide (a.t1 = b.t1)) (.bool (!bc a && (!bc b && bl (aI a) (aI b)))) (ac rfl rfl (pO _ _ _ _)) ?_ (fun h => ?_) fun h => ?_
  · refine oY _ _ (vNo (ab rfl (eW _ a))) fun Z => oY _ _ (vNo (ab rfl (eW _ b))) fun Z => ab (ds := [.list ((aI a).map aZ), .list ((aI b).map aZ)]) ?_ (eB n _ _)
    show some ([PyData.list (db (some 1) none _), .list (db (some 1) none _)], false) = _
    rw [mM, mM]
  · show PyData.bool _ = .bool (aJ a b)
    unfold aJ; rw [h]; rfl
  refine sIf (bl (aM a) (aM b)) (dM rfl (k9 n a b)) (fun h2 => bP (.bool true) rfl ?_) fun h2 => dS (bP (.bool (allInside (aM a) [(b.t0, b.t1), (b.h0, b.h1)])) (ab (ds := [.list (aZ (a.t0, a.t1) :: (aI a).map aZ), .list [aZ (b.t0, b.t1), aZ (b.h0, b.h1)]]) ?_ (kE n a b)) ?_)
  · show PyData.bool _ = .bool (aJ a b)
    unfold aJ; rw [h, h2]; rfl
  · unfold aI
    by_cases q : b.s = 1
    · rw [if_pos q]; kernel_rfl
    · rw [if_neg q]; kernel_rfl
  · show PyData.bool _ = .bool (aJ a b)
    unfold aJ; rw [h, h2]; rfl
noncomputable abbrev bd (t : Int) : D := .tuple [.int 8, .int t]
noncomputable def aY (l : List Int) (t : Int) : List Int := if t ∈ l then l else l ++ [t]
theorem mO (t : Int) (l : List Int) : be .NotIn (.tuple [.int 8, .int t]) (.list (l.map bd)) = some (decide (t ∉ l)) := by
  unfold be
  dsimp only
  rw [eu (kq (8, t)) (cS (fun a => kq (8, a)) l) rfl rfl, if_pos rfl]
  simp only [ba, Option.map_some]
  congr 1
  induction l with
  | nil => rfl
  | cons a l ih =>
    rw [List.map_cons, List.any_cons, Bool.not_or, ih]
    have : (bd a).eqv (.tuple [.int 8, .int t]) = decide (a = t) := by
      have := te (8, a) (8, t)
      simpa using this
    rw [this]
    by_cases h : a = t
    · subst h; simp
    · have h' : ¬ t = a := fun e => h e.symm
      simp [h, h']
theorem iM (n : Nat) (l : List Int) (c : Cl) (hl : l.length < 1000000) : (gN TT (n+1)).io 10 (.own (l.map bd)) [aL c] = some (.none, .own ((aY l c.t0).map bd)) := by
  obtain ⟨lv, e, rfl⟩ := ioE (f := 10) (ds := [aL c]) (lv := .own (l.map bd)) (d := .none) (P := fun lv => lv = .own ((aY l c.t0).map bd)) n 1 rfl rfl rfl (by
    refine bC _ rfl rfl (sIf (decide (c.t0 ∉ l)) (ac rfl rfl (mO _ _)) (fun h => ?_) fun h => ?_)
    · refine sApp (bd c.t0) rfl rfl rfl (by rw [List.length_map]; exact hl) rfl (fB ⟨rfl, _, rfl, ?_⟩)
      unfold aY
      rw [if_neg (by simpa using h), List.map_append]; rfl
    · refine fB ⟨rfl, _, rfl, ?_⟩
      unfold aY
      rw [if_pos (by simpa using h)])
  exact e
end Mine
namespace Mine
open PySem
noncomputable def jk {α : Type} : Nat → List α → List (Nat × α)
  | _, [] => []
  | k, a :: r => (k, a) :: jk (k + 1) r
theorem oX {α : Type} (k) (a : α) (r) : jk k (a :: r) = (k, a) :: jk (k + 1) r := rfl
theorem j9 {α : Type} (enc : α → D) : ∀ (k : Nat) (xs : List α), iR k (xs.map enc) = (jk k xs).map fun p => .tuple [.int p.1, enc p.2]
  | _, [] => rfl
  | k, a :: r => by rw [List.map_cons, lL, oX, List.map_cons, j9 enc (k + 1) r]
theorem iw {α : Type} : ∀ (k : Nat) (xs : List α) (p : Nat × α), p ∈ jk k xs → k ≤ p.1 ∧ xs[p.1 - k]? = some p.2
  | _, [], _, h => nomatch h
  | k, a :: r, p, h => by
    rcases List.mem_cons.mp h with rfl | h
    · simp
    · obtain ⟨h1, h2⟩ := iw (k + 1) r p h
      refine ⟨by exact Nat.le_of_lt (by assumption), ?_⟩
      have : p.1 - k = (p.1 - (k + 1)) + 1 := by lia
      rw [this, List.getElem?_cons_succ, h2]
theorem ls : ∀ (S l : List Int), l.Nodup → (∀ t ∈ l, t ∈ S) → l.length ≤ S.length
  | [], l, _, h => by
    cases l with
    | nil => simp
    | cons a r => exact absurd (h a (.head _)) (by simp)
  | a :: S, l, hn, h => by
    have h1 := ls S (l.erase a) (hn.erase a) fun t m => by
      have := (List.Nodup.mem_erase_iff hn).mp m
      rcases List.mem_cons.mp (h t this.2) with e | e
      · exact absurd e this.1
      · exact e
    have : l.length ≤ (l.erase a).length + 1 := by
      by_cases m : a ∈ l
      · rw [List.length_erase_of_mem m]; (lia -abstractProof)
      · rw [List.erase_of_not_mem m]; (lia -abstractProof)
    rw [List.length_cons]; (lia -abstractProof)
theorem qJ {l : List Int} {t : Int} (h : l.Nodup) : (aY l t).Nodup := by
  unfold aY
  split
  · exact h
  · rename_i m
    rw [List.nodup_append]
    refine ⟨h, by simp, ?_⟩
    intro a ha b hb e
    simp at hb
    subst e hb
    exact m ha
theorem ez {l : List Int} {t u : Int} : u ∈ aY l t ↔ u ∈ l ∨ u = t := by
  unfold aY
  split
  · exact ⟨.inl, fun h => h.elim id fun e => e ▸ ‹_›⟩
  · simp
noncomputable def bB (cls : List Cl) (l : List Int) : Prop := l.Nodup ∧ ∀ t ∈ l, t ∈ cls.map (·.t0)
theorem bB.len {cls : List Cl} {l : List Int} (h : bB cls l) (hc : cls.length ≤ 100) : l.length < 1000000 := by
  have := ls _ _ h.1 h.2
  rw [List.length_map] at this; (lia -abstractProof)
theorem bB.note {cls : List Cl} {l : List Int} {c : Cl} (h : bB cls l) (m : c ∈ cls) : bB cls (aY l c.t0) := ⟨qJ h.1, fun t ht => by
  rcases ez.mp ht with q | rfl
  · exact h.2 t q
  · exact List.mem_map_of_mem m⟩
theorem bB.nil {cls : List Cl} : bB cls [] := ⟨List.nodup_nil, fun Z m => nomatch m⟩
noncomputable def ju (cls : List Cl) (a : Cl) (k : Nat) (l : List Int) (j : Nat) : List Int := if (match cls[k + 1 + j]? with | some b => aJ a b | none => true) then l else aY l a.t0
noncomputable def oi (cls : List Cl) (a : Cl) (k : Nat) (l : List Int) : List Int := (List.range (cls.length - (k + 1))).foldl (ju cls a k) l
noncomputable def rf2 (cls : List Cl) (l : List Int) : List Int := (jk 0 cls).foldl (fun l p => oi cls p.2 p.1 l) l
noncomputable def rf1 (code : List Int) (cls : List Cl) : List Int := cls.foldl (fun l c => if aH code c then l else aY l c.t0) []
noncomputable def aD (code : List Int) (cls : List Cl) : List Int := if rf1 code cls = [] then rf2 cls [] else rf1 code cls
theorem ao (n : Nat) (code : List Int) (cls : List Cl) (hl : code.length ≤ 100000) (hc : cls.length ≤ 100) : (gN TT (n+4)).call 9 [.list (code.map cC), .list (cls.map aL)] = some (.list ((aD code cls).map bd)) := by
  refine bA (n+3) 5 rfl rfl rfl (pp rfl ?_)
  refine kr (fun l r => (∃ x y z w, r = [some (.val (.list (code.map cC))), some (.val (.list (cls.map aL))), some (.own (l.map bd)), x, y, z, w]) ∧ bB cls l) (fun l c => if aH code c then l else aY l c.t0) cls [] rfl ⟨(ei4 rfl), bB.nil⟩ ?_ fun l' i => ?_
  · rintro c m l _ ⟨hx_, hs⟩; refine iI hx_ fun x y z w e_ => ?_; obtain rfl := e_; try clear hx_
    refine ⟨_, rfl, sIf _ (tNo (dM rfl (ja n code c hl))) (fun q => sIo rfl rfl (iM _ l c (hs.len hc)) rfl rfl (fB (aO ⟨⟨some (.val (aL c)), y, z, w, ?_⟩, ?_⟩))) fun q => fB (aO ⟨⟨some (.val (aL c)), y, z, w, ?_⟩, ?_⟩)⟩
    · rw [if_neg (by simpa using q)]; rfl
    · rw [if_neg (by simpa using q)]; exact hs.note m
    · rw [if_pos (by simpa using q)]; rfl
    · rw [if_pos (by simpa using q)]; exact hs
  obtain ⟨hx_, hs⟩ := i; refine iI hx_ fun x y z w e_ => ?_; obtain rfl := e_; try clear hx_
  refine aT (decide (((rf1 code cls).length : Int) > 0)) (.list ((rf1 code cls).map bd)) (cGt (dj rfl) rfl) rfl (fun h => ?_) fun h => ?_
  · show PyData.list _ = .list _
    unfold aD
    rw [if_neg fun e => by rw [e] at h; cases h]
  have h0 : rf1 code cls = [] := List.length_eq_zero_iff.mp (by have := of_decide_eq_false h; lia)
  have e : aD code cls = rf2 cls [] := by unfold aD; rw [if_pos h0]
  show Run _ [_, _, some (.own ((rf1 code cls).map bd)), x, y, z, w] _ _
  rw [e, h0]
  refine kr (enc := fun p : Nat × Cl => PyData.tuple [.int p.1, aL p.2]) (fun l r => (∃ x y z w, r = [some (.val (.list (code.map cC))), some (.val (.list (cls.map aL))), some (.own (l.map bd)), x, y, z, w]) ∧ bB cls l) (fun l p => oi cls p.2 p.1 l) (jk 0 cls) []
    ((iEnum rfl).trans (congrArg some (j9 _ _ _))) ⟨(ei4 rfl), bB.nil⟩ ?_ fun l' i => ?_
  · rintro ⟨k, a⟩ m l _ ⟨hx_, hs⟩; refine iI hx_ fun x y z w e_ => ?_; obtain rfl := e_; try clear hx_
    obtain ⟨-, hk⟩ := iw 0 cls (k, a) m
    replace hk : cls[k]? = some a := hk
    obtain ⟨hk1, hk2⟩ := List.getElem?_eq_some_iff.mp hk
    have hma : a ∈ cls := hk2 ▸ List.getElem_mem hk1
    refine ⟨_, rfl, kr (enc := fun j : Nat => PyData.int ((k : Int) + 1 + (j : Int))) (fun l r => (∃ w, r = [some (.val (.list (code.map cC))), some (.val (.list (cls.map aL))), some (.own (l.map bd)), x, some (.val (.int k)), some (.val (aL a)), w]) ∧ bB cls l)
      (ju cls a k) (List.range (cls.length - (k + 1))) l (fW (ds := [.int ((k : Int) + 1), .int cls.length]) (bg rfl (bg (cU rfl) rfl)) (py hk1 hc)) ⟨⟨_, rfl⟩, hs⟩ ?_ fun l' i => ?_⟩
    · rintro j m l _ ⟨⟨w, rfl⟩, hs⟩
      have hj := List.mem_range.mp m
      have h9 := List.getElem?_eq_getElem (wT hj)
      refine ⟨_, rfl, sIf _ (tNo (dM (aP rfl (aP (aE (ca rfl rfl (wf h9 hc)) rfl) rfl)) (k5 n a _))) (fun q => sIo rfl rfl (iM _ l a (hs.len hc)) rfl rfl (fB (aO ⟨⟨some (.val (.int (k + 1 + j))), ?_⟩, ?_⟩))) fun q => fB (aO ⟨⟨some (.val (.int (k + 1 + j))), ?_⟩, ?_⟩)⟩
      · unfold ju; rw [h9, if_neg (by simpa using q)]; rfl
      · unfold ju; rw [h9, if_neg (by simpa using q)]; exact hs.note hma
      · unfold ju; rw [h9, if_pos (by simpa using q)]; rfl
      · unfold ju; rw [h9, if_pos (by simpa using q)]; exact hs
    · obtain ⟨⟨w, rfl⟩, hs⟩ := i
      exact fin (aO ⟨(ei4 rfl), hs⟩)
  · obtain ⟨hx_, hs⟩ := i; refine iI hx_ fun x y z w e_ => ?_; obtain rfl := e_; try clear hx_
    exact bP _ rfl rfl
end Mine
namespace Mine
open PySem
noncomputable def bO (cls : List Cl) (c : Int) : Cl := cls[c.toNat]?.getD ⟨0, 0, 0, 0, 0, 0⟩
noncomputable def aK (cls : List Cl) (i : Int) : List Pr := (List.range cls.length).foldl (fun l (j : Nat) => if 0 ≤ aB (bO cls ((cls.length : Int) - 1 - j)) i then l ++ [((cls.length : Int) - 1 - j, aB (bO cls ((cls.length : Int) - 1 - j)) i)] else l) []
noncomputable def iY (cls : List Cl) (l : List Pr) : Prop := ∀ p ∈ l, 0 ≤ p.1 ∧ p.1 < cls.length
theorem dR {cls : List Cl} {c : Int} (h0 : 0 ≤ c) (h : c < cls.length) : cls[c.toNat]? = some (bO cls c) := by
  unfold bO
  rw [List.getElem?_eq_getElem (toNat_lt h0 h)]; rfl
theorem flat_P (p : Pr) : bf (aZ p) = true := rfl
noncomputable def on (cls : List Cl) (i : Int) (l : List Pr) (j : Nat) : List Pr := if 0 ≤ aB (bO cls ((cls.length : Int) - 1 - j)) i then l ++ [((cls.length : Int) - 1 - j, aB (bO cls ((cls.length : Int) - 1 - j)) i)] else l
theorem bt (n : Nat) (cls : List Cl) (i : Int) (hc : cls.length ≤ 100) : (gN TT (n+2)).call 12 [.list (cls.map aL), .int i] = some (.tuple ((aK cls i).map aZ)) := by
  refine bA (n+1) 3 rfl rfl rfl (pp rfl ?_)
  have e : ((cls.length : Int) - 1 - -1).toNat = cls.length := by (lia -abstractProof)
  refine nY (enc := fun j : Nat => PyData.int ((cls.length : Int) - 1 - (j : Int))) (fun k l r => (∃ x y, r = [some (.val (.list (cls.map aL))), some (.val (.int i)), some (.own (l.map aZ)), x, y]) ∧ l.length ≤ k) (on cls i) (List.range cls.length) []
    (fW (ds := [.int ((cls.length : Int) - 1), .int (-1), .int (-1)]) (bg (vIs (kP (dj rfl) rfl) rfl) rfl) (by rw [range3 _ _ (by (lia -abstractProof)) (by (lia -abstractProof)) (by decide) (by decide), e])) ⟨(ei2 rfl), Nat.le_refl _⟩ (fun j k hk l r hI => ?_) fun r hI => ?_
  · obtain ⟨hx_, hs⟩ := hI; refine cY hx_ fun x y e_ => ?_; obtain rfl := e_; try clear hx_
    obtain ⟨hj, hk⟩ := List.getElem?_eq_some_iff.mp hk
    rw [List.getElem_range] at hk
    rw [List.length_range] at hj
    subst hk
    have hb : 0 ≤ (cls.length : Int) - 1 - (j : Int) ∧ (cls.length : Int) - 1 - (j : Int) < cls.length := by clear hs hc; omega
    have h9 := dR hb.1 hb.2
    refine ⟨_, rfl, bC _ (ab (aP (aE (ca rfl rfl (bR h9 hb.1 (dl hb.2 hc))) rfl) rfl) (pR n _ i)) rfl (sIf _ (cGe rfl rfl) (fun q => ?_) fun q => ?_)⟩
    · refine nc (enc := aZ) ((cls.length : Int) - 1 - j, aB (bO cls ((cls.length : Int) - 1 - j)) i) rfl rfl rfl (nlt (Nat.le_trans hs (Nat.le_trans (Nat.le_of_lt hj) hc)) (by decide)) rfl (fB (aO ?_))
      rw [show on cls i l j = _ from if_pos (of_decide_eq_true q)]
      exact ⟨(ei2 rfl), by rw [List.length_append]; exact Nat.succ_le_succ hs⟩
    · refine fB (aO ?_)
      rw [show on cls i l j = _ from if_neg (of_decide_eq_false q)]
      exact ⟨(ei2 rfl), Nat.le_succ_of_le hs⟩
  · obtain ⟨hx_, hs⟩ := hI; refine cY hx_ fun x y e_ => ?_; obtain rfl := e_; try clear hx_
    refine bP (.tuple ((aK cls i).map aZ)) ?_ rfl
    show xM .tuple (.list ((aK cls i).map aZ)) = _
    show (if flatAll ((aK cls i).map aZ) then _ else none) = _
    rw [bk flat_P]; rfl
theorem nH (n : Nat) (cls : List Cl) (i : Int) : (gN TT (n+1)).call 13 [.list (cls.map aL), .int i] = some (.bool (cls.any fun c => decide (c.t0 = i))) := by
  rw [List.any_eq_not_all_not]
  refine bA n 1 rfl rfl rfl (my (fun r => ∃ x, r = [some (.val (.list (cls.map aL))), some (.val (.int i)), x]) (fun c => !decide (c.t0 = i)) (.bool true) cls rfl ⟨_, rfl⟩ ?_ (fun h l' i => ?_) fun h ρ => congrArg PyData.bool (by rw [h]; rfl))
  · rintro c - _ ⟨x, rfl⟩
    exact ⟨_, rfl, aT _ _ (cEq rfl rfl) rfl (fun h => .inr ⟨by rw [h]; rfl, rfl⟩) fun h => fin (.inl ⟨by rw [h]; rfl, aO ⟨_, rfl⟩⟩)⟩
  · obtain ⟨x, rfl⟩ := i
    exact bP _ rfl (congrArg PyData.bool (by rw [h]; rfl))
theorem zV (p : Pr) (l : List Pr) : be .In (aZ p) (.tuple (l.map aZ)) = some (decide (p ∈ l)) := by
  unfold be
  dsimp only
  have : Sm 4 (.tuple (l.map aZ)) := gK fun d m => by
    obtain ⟨a, _, rfl⟩ := List.mem_map.mp m
    exact kq a
  rw [eu (kq p) this rfl rfl, if_pos rfl]
  simp only [ba, Option.map_some]
  congr 1
  induction l with
  | nil => rfl
  | cons a l ih =>
    rw [List.map_cons, List.any_cons, ih (gK fun d m => by
      obtain ⟨a, _, rfl⟩ := List.mem_map.mp m
      exact kq a), te]
    by_cases h : a = p
    · subst h; simp
    · have h' : ¬ p = a := fun e => h e.symm
      simp [h, h']
theorem qq (a b : Int) (l : List Pr) : be .In (.tuple [.int a, .int b]) (.tuple (l.map aZ)) = some (decide ((a, b) ∈ l)) := zV (a, b) l
noncomputable def fe (cls : List Cl) (was now : List Pr) (goal : Int) : Bool := now.all fun p => decide ((p.1, p.2) ∈ was) || (decide (p.2 = 0) && decide ((bO cls p.1).t0 = goal))
noncomputable def iq (cls : List Cl) (was now : List Pr) (leave : Bool) : Bool := was.all fun p => decide ((p.1, p.2) ∈ now) || (leave && (decide (p.2 = 0) || catchB (bO cls p.1) p.2))
theorem qy (n : Nat) (cls : List Cl) (was now : List Pr) (goal : Int) (hc : cls.length ≤ 100) (hn : iY cls now) : (gN TT (n+1)).call 16 [.list (cls.map aL), .tuple (was.map aZ), .tuple (now.map aZ), .int goal] = some (.bool (fe cls was now goal)) := by
  refine bA n 2 rfl rfl rfl (my (fun r => ∃ x y, r = [some (.val (.list (cls.map aL))), some (.val (.tuple (was.map aZ))), some (.val (.tuple (now.map aZ))), some (.val (.int goal)), x, y]) (fun p => decide ((p.1, p.2) ∈ was) || (decide (p.2 = 0) && decide ((bO cls p.1).t0 = goal))) (.bool false) now rfl (ei2 rfl) ?_ (fun h l' i => ?_) fun h ρ => show PyData.bool false = .bool (fe cls was now goal) by unfold fe; rw [h])
  · rintro p m _ hx_; refine cY hx_ fun x y e_ => ?_; obtain rfl := e_; try clear hx_
    obtain ⟨h5, h6⟩ := hn p m
    refine ⟨_, rfl, sIf _ (ac rfl rfl (qq _ _ _)) (fun q => rT (.inl ⟨by rw [q]; rfl, jl (ei2 rfl)⟩)) fun q => dS (aT (!decide (p.2 = 0) || !decide ((bO cls p.1).t0 = goal)) _ (i4 _ _ (cNe rfl rfl) fun Z => gH (cNe (jK (jK rfl rfl (bR (dR h5 h6) h5 (dl h6 hc))) rfl rfl) rfl)) rfl (fun h => .inr ⟨?_, rfl⟩) fun h => fin (.inl ⟨?_, aO (ei2 rfl)⟩))⟩
    · rw [q]; rw [← Bool.not_and] at h; rw [show (decide (p.2 = 0) && decide ((bO cls p.1).t0 = goal)) = false from Bool.not_eq_true' _ ▸ h]; rfl
    · rw [q]; rw [← Bool.not_and] at h; rw [show (decide (p.2 = 0) && decide ((bO cls p.1).t0 = goal)) = true from Bool.not_eq_false' _ ▸ h]; rfl
  · refine cY i fun x y e_ => ?_; obtain rfl := e_; try clear i
    exact bP _ rfl (congrArg PyData.bool h.symm)
theorem sY (n : Nat) (cls : List Cl) (was now : List Pr) (leave : Bool) (hc : cls.length ≤ 100) (hn : iY cls was) : (gN TT (n+2)).call 17 [.list (cls.map aL), .tuple (was.map aZ), .tuple (now.map aZ), .bool leave] = some (.bool (iq cls was now leave)) := by
  refine bA (n+1) 2 rfl rfl rfl (my (fun r => ∃ x y, r = [some (.val (.list (cls.map aL))), some (.val (.tuple (was.map aZ))), some (.val (.tuple (now.map aZ))), some (.val (.bool leave)), x, y]) (fun p => decide ((p.1, p.2) ∈ now) || (leave && (decide (p.2 = 0) || catchB (bO cls p.1) p.2))) (.bool false) was rfl (ei2 rfl) ?_ (fun h l' i => ?_) fun h ρ => show PyData.bool false = .bool (iq cls was now leave) by unfold iq; rw [h])
  · rintro p m _ hx_; refine cY hx_ fun x y e_ => ?_; obtain rfl := e_; try clear hx_
    obtain ⟨h5, h6⟩ := hn p m
    refine ⟨_, rfl, sIf _ (ac rfl rfl (qq _ _ _)) (fun q => rT (.inl ⟨by rw [q]; rfl, jl (ei2 rfl)⟩)) fun q => dS (aT (!leave) _ (tNo rfl) rfl (fun h => .inr ⟨?_, rfl⟩) fun h2 => aT (!decide (p.2 = 0) && !catchB (bO cls p.1) p.2) _
      (eQ _ _ (cNe rfl rfl) fun Z => dT (tNo (dM (aP (aE (ca rfl rfl (bR (dR h5 h6) h5 (dl h6 hc))) rfl) rfl) (fI n _ _)))) rfl (fun h => .inr ⟨?_, rfl⟩) fun h => fin (.inl ⟨?_, aO (ei2 rfl)⟩))⟩
    · rw [q, show leave = false from Bool.not_eq_true' _ ▸ h]; rfl
    · rw [q, show leave = true by simpa using h2]; rw [← Bool.not_or] at h; rw [show (decide (p.2 = 0) || catchB (bO cls p.1) p.2) = false from Bool.not_eq_true' _ ▸ h]; rfl
    · rw [q, show leave = true by simpa using h2]; rw [← Bool.not_or] at h; rw [show (decide (p.2 = 0) || catchB (bO cls p.1) p.2) = true from Bool.not_eq_false' _ ▸ h]; rfl
  · refine cY i fun x y e_ => ?_; obtain rfl := e_; try clear i
    exact bP _ rfl (congrArg PyData.bool h.symm)
theorem dO (cls : List Cl) (i : Int) : iY cls (aK cls i) := by
  unfold aK
  have : ∀ (xs : List Nat) (l : List Pr), (∀ j ∈ xs, j < cls.length) → iY cls l → iY cls (xs.foldl (fun l (j : Nat) => if 0 ≤ aB (bO cls ((cls.length : Int) - 1 - j)) i then l ++ [((cls.length : Int) - 1 - j, aB (bO cls ((cls.length : Int) - 1 - j)) i)] else l) l) := by
    intro xs
    induction xs with
    | nil => intro l _ h; exact h
    | cons j xs ih =>
      intro l hx h
      rw [List.foldl_cons]
      refine ih _ (fun k m => hx k (.tail _ m)) ?_
      have hj := hx j (.head _)
      split
      · intro p m
        rcases List.mem_append.mp m with m | m
        · exact h p m
        · simp at m; subst m; constructor <;> (dsimp only; lia)
      · exact h
  exact this _ _ (fun j m => List.mem_range.mp m) fun p m => nomatch m
noncomputable def l8 (size : Nat) (cls : List Cl) (i goal : Int) (leave : Bool) : Int :=
  if goal < 0 ∨ (size : Int) ≤ goal then 5 else if iq cls (aK cls i) (aK cls goal) leave ∧ fe cls (aK cls i) (aK cls goal) goal then 0 else if leave then 6 else 5
theorem cR (n : Nat) (code : List Int) (cls : List Cl) (i goal : Int) (leave : Bool) (hc : cls.length ≤ 100) : (gN TT (n+3)).call 18 [.list (code.map cC), .list (cls.map aL), .int i, .int goal, .bool leave] = some (.int (l8 code.length cls i goal leave)) := by
  refine bA (n+2) 2 rfl rfl rfl (aT (decide (goal < 0) || decide ((code.length : Int) ≤ goal)) _ (i4 _ _ (cLt rfl rfl) fun Z => gH (cGe rfl (dj rfl))) rfl (fun h => ?_) fun h => bC _ (ab rfl (bt n cls i hc)) rfl (bC _ (ab rfl (bt n cls goal hc)) rfl
    (aT (iq cls (aK cls i) (aK cls goal) leave && fe cls (aK cls i) (aK cls goal) goal) _ (eQ _ _ (dM rfl (sY n cls _ _ leave hc (dO cls i))) fun Z => dT (dM rfl (qy (n+1) cls _ _ goal hc (dO cls goal)))) rfl (fun h2 => ?_) fun h2 => yI leave rfl rfl rfl ?_)))
  · refine congrArg PyData.int ?_
    unfold l8; rw [if_pos (by simpa using h)]
  · refine congrArg PyData.int ?_
    unfold l8; rw [if_neg (by simpa using h), if_pos (by simpa using h2)]
  · unfold l8
    rw [if_neg (by simpa using h), if_neg (by simpa using h2)]
    cases leave <;> rfl
end Mine
namespace Mine
open PySem
noncomputable def jC (cls : List Cl) : List Pr → Int
  | [] => 5
  | p :: r => if p.2 = 0 then jC cls r else if catchB (bO cls p.1) p.2 then 0 else 5
theorem s7 (cls p r) : jC cls (p :: r) = if p.2 = 0 then jC cls r else if catchB (bO cls p.1) p.2 then 0 else 5 := rfl
theorem iY.rev {cls : List Cl} {l : List Pr} (h : iY cls l) : iY cls l.reverse := fun p m => h p (List.mem_reverse.mp m)
noncomputable def nk (cls : List Cl) (_ : Unit) (p : Pr) : Sum Unit D := if p.2 = 0 then .inl () else .inr (.int (bif catchB (bO cls p.1) p.2 then 0 else 5))
theorem lh (cls : List Cl) : ∀ l : List Pr, (∃ u, dW (nk cls) l () = .inl u ∧ jC cls l = 5) ∨ dW (nk cls) l () = .inr (.int (jC cls l))
  | [] => .inl ⟨(), rfl, rfl⟩
  | p :: l => by
    rw [jR, s7]
    unfold nk
    by_cases h : p.2 = 0
    · rw [if_pos h, if_pos h]; exact lh cls l
    · rw [if_neg h, if_neg h]
      refine .inr ?_
      cases catchB (bO cls p.1) p.2 <;> rfl
theorem pQ (n : Nat) (cls : List Cl) (l : List Pr) (hc : cls.length ≤ 100) (hn : iY cls l) : (gN TT (n+2)).call 20 [.list (cls.map aL), .tuple (l.map aZ)] = some (.int (jC cls l.reverse)) := by
  refine bA (n+1) 2 rfl rfl rfl (zm (fun Z r => ∃ x y, r = [some (.val (.list (cls.map aL))), some (.val (.tuple (l.map aZ))), x, y]) (nk cls) l.reverse () (by rw [List.map_reverse]; rfl) (ei2 rfl) ?_ ?_)
  · rintro p m - _ hx_; refine cY hx_ fun x y e_ => ?_; obtain rfl := e_; try clear hx_
    obtain ⟨h5, h6⟩ := hn.rev p m
    refine ⟨_, rfl, sIf _ (cEq rfl rfl) (fun q => ?_) fun q => ?_⟩
    · rw [show nk cls _ p = .inl () from if_pos (of_decide_eq_true q)]
      exact rT (jl (ei2 rfl))
    · rw [show nk cls _ p = .inr (.int (bif catchB (bO cls p.1) p.2 then 0 else 5)) from if_neg (of_decide_eq_false q)]
      refine dS (yI _ (dM (aP (aE (ca rfl rfl (bR (dR h5 h6) h5 (dl h6 hc))) rfl) rfl) (fI n _ _)) rfl rfl ?_)
      cases catchB (bO cls p.1) p.2 <;> rfl
  · rcases lh cls l.reverse with ⟨u, e, e2⟩ | e
    · rw [e, e2]
      rintro _ hx_; refine cY hx_ fun x y e_ => ?_; obtain rfl := e_; try clear hx_
      exact bP _ rfl rfl
    · rw [e]
      exact fun Z => rfl
noncomputable def uh (cls : List Cl) (l : List Pr) (op : Int) : Int := match l[l.length - 1]? with
  | none => 5
  | some p => if op = 220 ∧ kO (bO cls p.1) p.2 = true then 0 else if op = 65041 ∧ p.2 = 1 then 0 else 5
theorem xR (n : Nat) (cls : List Cl) (l : List Pr) (op : Int) (hc : cls.length ≤ 100) (hn : iY cls l) (hl : l.length ≤ 1000) : (gN TT (n+3)).call 21 [.list (cls.map aL), .tuple (l.map aZ), .int op] = some (.int (uh cls l op)) := by
  refine bA (n+2) 2 rfl rfl rfl (aT (decide ((l.length : Int) = 0)) _ (cEq (pA rfl) rfl) rfl (fun h => ?_) fun h => ?_)
  · cases l with
    | nil => rfl
    | cons _ _ => exact fT h
  have h' := of_decide_eq_false h
  have e := List.getElem?_eq_getElem (l := l) (i := l.length - 1) (by lia)
  have hm := hn _ (List.getElem_mem (l := l) (n := l.length - 1) (by lia))
  generalize l[l.length - 1] = p at e hm
  have e2 : uh cls l op = if op = 220 ∧ kO (bO cls p.1) p.2 = true then 0 else if op = 65041 ∧ p.2 = 1 then 0 else 5 := by unfold uh; rw [e]
  rw [e2]
  refine pn _ (ca rfl (vIs (kP (pA rfl) rfl) rfl) (we (a := p) (by rw [← e]; congr 1; lia) (by lia) (c8 (by lia)))) rfl (aT (decide (op = 220) && kO (bO cls p.1) p.2) _
    (eQ _ _ (cEq rfl rfl) fun Z => dT (dM (aP (aE (ca rfl rfl (bR (dR hm.1 hm.2) hm.1 (dl hm.2 hc))) rfl) rfl) (pS n _ _))) rfl (fun h => ?_) fun h => yI (decide (op = 65041) && decide (p.2 = 1)) (rK (eQ _ _ (cEq rfl rfl) fun Z => dT (cEq rfl rfl))) rfl rfl ?_)
  · rw [if_pos (by simpa using h)]; rfl
  · rw [if_neg (by simpa using h)]
    by_cases q : op = 65041 ∧ p.2 = 1
    · rw [if_pos q, decide_eq_true q.1, decide_eq_true q.2]; rfl
    · rw [if_neg q, show (decide (op = 65041) && decide (p.2 = 1)) = false by simpa using q]; rfl
noncomputable def fL (cls : List Cl) (i op : Int) : Int :=
  if op = 42 then (if aK cls i = [] then 0 else 9) else if op = 65050 then jC cls (aK cls i).reverse else if op = 220 ∨ op = 65041 then uh cls (aK cls i) op else 0
theorem sW (n : Nat) (code : List Int) (cls : List Cl) (i op : Int) (hc : cls.length ≤ 100) (hi : 0 ≤ i) (hr : (aK cls i).length ≤ 1000) (hl : code.length ≤ 1000000) (ho : code[i.toNat]? = some op) : (gN TT (n+4)).call 19 [.list (code.map cC), .list (cls.map aL), .int i] = some (.int (fL cls i op)) := by
  have h7 := (List.getElem?_eq_some_iff.mp ho).1
  unfold fL
  refine bA (n+3) 1 rfl rfl rfl (bC _ (ca (jK rfl rfl (bR ho hi (c8 (by lia)))) rfl rfl) rfl (sIf _ (cEq rfl rfl) (fun h => ?_) fun h => ?_))
  · rw [if_pos (of_decide_eq_true h)]
    refine yI (decide (((aK cls i).length : Int) > 0)) (cGt (pA (eR rfl (bt _ cls i hc))) rfl) rfl rfl ?_
    by_cases q : aK cls i = []
    · rw [if_pos q, q]; rfl
    · rw [if_neg q, show decide (((aK cls i).length : Int) > 0) = true from decide_eq_true (by have := List.length_pos_iff.mpr q; exact icp (by assumption))]; rfl
  rw [if_neg (of_decide_eq_false h)]
  refine dS (aT _ _ (cEq rfl rfl) (ab (aP rfl (aP (aE (ab rfl (bt (n+1) cls i hc)) rfl) rfl)) (pQ (n+1) cls _ hc (dO cls i))) (fun h => ?_) fun h => ?_)
  · rw [if_pos (of_decide_eq_true h)]; rfl
  rw [if_neg (of_decide_eq_false h)]
  refine aT (decide (op = 220) || decide (op = 65041)) _ (i4 _ _ (cEq rfl rfl) fun Z => gH (cEq rfl rfl)) (ab (aP rfl (aP (aE (ab rfl (bt (n+1) cls i hc)) rfl) rfl)) (xR n cls _ op hc (dO cls i) hr)) (fun h => ?_) fun h => bP _ rfl ?_
  · rw [if_pos (by simpa using h)]; rfl
  · rw [if_neg (by simpa using h)]; rfl
theorem yZ (n : Nat) (cls : List Cl) (i : Int) (hc : cls.length ≤ 100) : (gN TT (n+3)).meth 1 [iO (.list (cls.map aL)), .int i] = some (.tuple ((aK cls i).map aZ)) :=
  qM (n+2) 0 rfl rfl (bP _ (ab rfl (bt _ cls i hc)) rfl)
theorem uU (n : Nat) (code : List Int) (cls : List Cl) (i goal : Int) (leave : Bool) (hc : cls.length ≤ 100) : (gN TT (n+4)).meth 2 [iO (.list (cls.map aL)), .list (code.map cC), .int i, .int goal, .bool leave] = some (.int (l8 code.length cls i goal leave)) :=
  qM (n+3) 0 rfl rfl (bP _ (ab rfl (cR _ code cls i goal leave hc)) rfl)
theorem rp (n : Nat) (code : List Int) (cls : List Cl) (i op : Int) (hc : cls.length ≤ 100) (hi : 0 ≤ i) (hr : (aK cls i).length ≤ 1000) (hl : code.length ≤ 1000000) (ho : code[i.toNat]? = some op) : (gN TT (n+5)).meth 3 [iO (.list (cls.map aL)), .list (code.map cC), .int i] = some (.int (fL cls i op)) :=
  qM (n+4) 0 rfl rfl (bP _ (ab rfl (sW _ code cls i op hc hi hr hl ho)) rfl)
theorem rq (n : Nat) (cls : List Cl) (i : Int) : (gN TT (n+2)).meth 4 [iO (.list (cls.map aL)), .int i] = some (.bool (cls.any fun c => decide (c.t0 = i))) :=
  qM (n+1) 0 rfl rfl (bP _ (ab rfl (nH _ cls i)) rfl)
theorem kM (n : Nat) (code : List Int) (cls : List Cl) (hl : code.length ≤ 100000) (hc : cls.length ≤ 100) : (gN TT (n+5)).meth 5 [iO (.list (cls.map aL)), .list (code.map cC)] = some (.list ((aD code cls).map bd)) :=
  qM (n+4) 0 rfl rfl (bP _ (ab rfl (ao _ code cls hl hc)) rfl)
end Mine
namespace Mine
open PySem
noncomputable abbrev Sp := Int × Int × Int
noncomputable abbrev jX (s : Sp) : D := .tuple [.int s.1, .int s.2.1, .int s.2.2]
noncomputable def bF (c : Cl) : List Sp := if c.s = 1 then [(c.t0, c.t1, 0), (c.x, c.h0, 1), (c.h0, c.h1, 2)] else [(c.t0, c.t1, 0), (c.h0, c.h1, 2)]
noncomputable def mn (i j : Int) : Int := if j < i then j else i
noncomputable def mx (i j : Int) : Int := if j > i then j else i
noncomputable def gE (c : Cl) : Pr := if c.s = 1 then (mn (mn c.t0 c.x) c.h0, mx (mx c.t1 c.h0) c.h1) else (mn c.t0 c.h0, mx c.t1 c.h1)
theorem dH (n : Nat) (c : Cl) : (gN TT (n+1)).call 25 [aL c] = some (.list ((bF c).map jX)) := by
  unfold bF
  refine bA n 6 rfl rfl rfl (pn _ rfl rfl (aT _ _ (cEq rfl rfl) rfl (fun h => ?_) fun h => bP _ rfl ?_))
  · rw [if_pos (of_decide_eq_true h)]; rfl
  · rw [if_neg (of_decide_eq_false h)]; rfl
theorem oP (n : Nat) (c : Cl) : (gN TT (n+2)).call 26 [aL c] = some (aZ (gE c)) := by
  refine bA (n+1) 1 rfl rfl rfl (bC _ (ab rfl (dH _ c)) rfl (bP (aZ (gE c)) ?_ rfl))
  unfold bF gE
  by_cases h : c.s = 1
  · rw [if_pos h, if_pos h]; rfl
  · rw [if_neg h, if_neg h]; rfl
noncomputable def bE (a b : Cl) : Bool := (decide (b.t0 ≤ (gE a).1) && decide ((gE a).2 ≤ b.t1)) || (decide (b.h0 ≤ (gE a).1) && decide ((gE a).2 ≤ b.h1))
theorem kY (n : Nat) (a b : Cl) : (gN TT (n+3)).call 27 [aL a, aL b] = some (.bool (bE a b)) :=
  bA (n+2) 2 rfl rfl rfl (pn _ (ab rfl (oP _ a)) rfl (bP (.bool (bE a b)) (vOr _ _ (oAnd (oY _ _ (eP (cLe rfl rfl)) fun Z => wS (eP (cLe rfl rfl)))) fun Z => lOr (oAnd (oY _ _ (eP (cLe rfl rfl)) fun Z => wS (eP (cLe rfl rfl))))) rfl))
noncomputable def eO (i : Int) (_ : Unit) (s : Sp) : Sum Unit D := if s.1 ≤ i ∧ i < s.2.1 then .inr (.int s.2.2) else .inl ()
theorem dL {i a b l : Int} {r : List Sp} (h : ¬ (a ≤ i ∧ i < b)) : dW (eO i) ((a, b, l) :: r) () = dW (eO i) r () := by
  rw [jR, show eO i () (a, b, l) = .inl () from if_neg h]
theorem eY {i a b l : Int} {r : List Sp} (h : a ≤ i ∧ i < b) : dW (eO i) ((a, b, l) :: r) () = .inr (.int l) := by
  rw [jR, show eO i () (a, b, l) = .inr (.int l) from if_pos h]
theorem rI (c : Cl) (i : Int) : (dW (eO i) (bF c) () = .inl () ∧ aB c i = -1) ∨ dW (eO i) (bF c) () = .inr (.int (aB c i)) := by
  unfold bF aB
  by_cases h1 : c.t0 ≤ i ∧ i < c.t1
  · rw [if_pos h1]
    by_cases hs : c.s = 1
    · rw [if_pos hs, eY h1]; exact .inr rfl
    · rw [if_neg hs, eY h1]; exact .inr rfl
  rw [if_neg h1]
  by_cases h3 : c.h0 ≤ i ∧ i < c.h1
  · rw [if_pos h3]
    by_cases hs : c.s = 1
    · rw [if_pos hs, dL h1, dL (fun q => absurd q.2 (by have := h3.1; omega)), eY h3]; exact .inr rfl
    · rw [if_neg hs, dL h1, eY h3]; exact .inr rfl
  rw [if_neg h3]
  by_cases hs : c.s = 1
  · rw [if_pos hs, dL h1]
    by_cases h2 : c.x ≤ i ∧ i < c.h0
    · rw [eY h2, if_pos ⟨hs, h2⟩]; exact .inr rfl
    · rw [dL h2, dL h3, if_neg fun q => h2 q.2]; exact .inl ⟨rfl, rfl⟩
  · rw [if_neg hs, dL h1, dL h3, if_neg fun q => hs q.1]; exact .inl ⟨rfl, rfl⟩
theorem fg (n : Nat) (c : Cl) (i : Int) : (gN TT (n+2)).call 31 [aL c, .int i] = some (.int (aB c i)) := by
  refine bA (n+1) 3 rfl rfl rfl (zm (fun Z r => ∃ x y z, r = [some (.val (aL c)), some (.val (.int i)), x, y, z]) (eO i) (bF c) () (mG (ab rfl (dH n c)) rfl) (ei3 rfl) ?_ ?_)
  · rintro p m - _ hx_; refine iJ hx_ fun x y z e_ => ?_; obtain rfl := e_; try clear hx_
    refine ⟨_, rfl, aT _ _ (xU rfl rfl rfl) rfl (fun q => ?_) fun q => fin ?_⟩
    · rw [show eO i _ p = .inr (.int p.2.2) from if_pos (by simpa using q)]
    · rw [show eO i _ p = .inl () from if_neg (by simpa using q)]
      exact aO (ei3 rfl)
  · rcases rI c i with ⟨e, e2⟩ | e
    · rw [e, e2]
      rintro _ hx_; refine iJ hx_ fun x y z e_ => ?_; obtain rfl := e_; try clear hx_
      exact bP _ rfl rfl
    · rw [e]
      exact fun Z => rfl
noncomputable def kJ (p q : Sp) : Bool := decide (mx p.1 q.1 < mn p.2.1 q.2.1)
noncomputable def cH (a b : Cl) : Bool := (decide (a.t0 = b.t0) && decide (a.t1 = b.t1)) || (bF a).all fun p => (bF b).all fun q => !kJ p q
theorem mT (n : Nat) (a b : Cl) : (gN TT (n+2)).call 28 [aL a, aL b] = some (.bool (cH a b)) := by
  unfold cH
  refine bA (n+1) 6 rfl rfl rfl (aT (decide (a.t0 = b.t0) && decide (a.t1 = b.t1)) _ (ac rfl rfl (pO _ _ _ _)) rfl (fun h => ?_) fun h => ?_)
  · rw [h]; rfl
  rw [h, Bool.false_or]
  refine my (fun r => ∃ x y z u v w, r = [some (.val (aL a)), some (.val (aL b)), x, y, z, u, v, w]) (fun p => (bF b).all fun q => !kJ p q) (.bool false) (bF a) (mG (ab rfl (dH n a)) rfl) (ei6 rfl) ?_ (fun h l' i => ?_) fun h ρ => congrArg PyData.bool h.symm
  · rintro p - _ hx_; refine zt hx_ fun x y z u v w e_ => ?_; obtain rfl := e_; try clear hx_
    refine ⟨_, rfl, my (fun r => ∃ u v w, r = [some (.val (aL a)), some (.val (aL b)), some (.val (.int p.1)), some (.val (.int p.2.1)), some (.val (.int p.2.2)), u, v, w]) (fun q => !kJ p q) (.bool false) (bF b) (mG (ab rfl (dH n b)) rfl) (ei3 rfl) ?_ (fun h l' i => ?_) fun h ρ => .inr ⟨h, rfl⟩⟩
    · rintro q - _ hx_; refine iJ hx_ fun u v w e_ => ?_; obtain rfl := e_; try clear hx_
      exact ⟨_, rfl, aT (kJ p q) _ (cLt rfl rfl) rfl (fun h => .inr ⟨by rw [h]; rfl, rfl⟩) fun h => fin (.inl ⟨by rw [h]; rfl, aO (ei3 rfl)⟩)⟩
    · refine iJ i fun u v w e3_ => ?_; obtain rfl := e3_; try clear i
      exact fin (.inl ⟨h, aO (ei6 rfl)⟩)
  · refine zt i fun x y z u v w e6_ => ?_; obtain rfl := e6_; try clear i
    exact bP _ rfl (congrArg PyData.bool h.symm)
noncomputable def d6 (c : Cl) (i goal : Int) (leave : Bool) : Bool :=
  let a := aB c i
  let b := aB c goal
  decide (a = b) || (!(decide (0 ≤ a) && (!leave || (decide (a = 1) || (decide (a = 2) && decide (c.s > 1))))) && (decide (b = -1) || (decide (b = 0) && decide (goal = c.t0))))
theorem uu (n : Nat) (c : Cl) (i goal : Int) (leave : Bool) : (gN TT (n+3)).call 32 [aL c, .int i, .int goal, .bool leave] = some (.bool (d6 c i goal leave)) := by
  unfold d6
  dsimp only
  refine bA (n+2) 2 rfl rfl rfl (bC _ (ab rfl (fg _ c i)) rfl (bC _ (ab rfl (fg _ c goal)) rfl (aT _ _ (cEq rfl rfl) rfl (fun h => ?_) fun h =>
    aT (decide (0 ≤ aB c i) && (!leave || (decide (aB c i = 1) || (decide (aB c i = 2) && decide (c.s > 1))))) _ (eQ _ _ (cGe rfl rfl) fun Z => dT (tOr (i4 _ _ (tNo rfl) fun Z => i4 _ _ (cEq rfl rfl) fun Z => gH (rK (eQ _ _ (cEq rfl rfl) fun Z => dT (cGt rfl rfl)))))) rfl (fun h2 => ?_) fun h2 =>
      bP (.bool (decide (aB c goal = -1) || (decide (aB c goal = 0) && decide (goal = c.t0)))) (vOr _ _ (eP (cEq rfl rfl)) fun Z => lOr (oAnd (oY _ _ (eP (cEq rfl rfl)) fun Z => wS (eP (cEq rfl rfl))))) ?_)))
  · rw [h]; rfl
  · rw [h, h2]; rfl
  · rw [h, h2]; rfl
noncomputable def kn (size : Int) (cls : List Cl) (i goal : Int) (leave : Bool) : Int :=
  if goal < 0 ∨ size ≤ goal then 5 else if cls.all (fun c => d6 c i goal leave) then 0 else if leave then 6 else 5
theorem qr (n : Nat) (size : Int) (cls : List Cl) (i goal : Int) (leave : Bool) : (gN TT (n+4)).call 33 [.int size, .list (cls.map aL), .int i, .int goal, .bool leave] = some (.int (kn size cls i goal leave)) := by
  unfold kn
  refine bA (n+3) 1 rfl rfl rfl (aT (decide (goal < 0) || decide (size ≤ goal)) _ (i4 _ _ (cLt rfl rfl) fun Z => gH (cGe rfl rfl)) rfl (fun h => ?_) fun h => ?_)
  · rw [if_pos (by simpa using h)]; rfl
  rw [if_neg (by simpa using h)]
  refine my (fun r => ∃ x, r = [some (.val (.int size)), some (.val (.list (cls.map aL))), some (.val (.int i)), some (.val (.int goal)), some (.val (.bool leave)), x]) (fun c => d6 c i goal leave) (.int (if leave then 6 else 5)) cls rfl ⟨_, rfl⟩ ?_ (fun h l' i => ?_) fun h ρ => ?_
  · rintro c - _ ⟨x, rfl⟩
    refine ⟨_, rfl, aT _ _ (tNo (dM rfl (uu n c i goal leave))) ?_ (fun h => .inr ⟨by simpa using h, rfl⟩) fun h => fin (.inl ⟨by simpa using h, aO ⟨_, rfl⟩⟩)⟩
    cases leave <;> rfl
  · obtain ⟨x, rfl⟩ := i
    exact bP _ rfl (by rw [if_pos h]; rfl)
  · rw [if_neg (by rw [h]; decide)]; rfl
end Mine
namespace Mine
open PySem
theorem xJ {α β : Type} (f : α → β) (xs : List α) (k : Nat) : db (some ((k : Int) + 1)) none (xs.map f) = (xs.drop (k + 1)).map f := by
  unfold db
  have e : bz (xs.map f).length ((k : Int) + 1) = min (k + 1) xs.length := by
    unfold bz
    rw [if_neg (by (lia -abstractProof)), List.length_map]
    congr 1
  dsimp only
  rw [e, List.length_map, List.map_drop]
  by_cases h : k + 1 ≤ xs.length
  · rw [Nat.min_eq_left h]
    rw [List.take_of_length_le (by rw [List.length_drop, List.length_map]; exact Nat.le_refl _)]
  · rw [Nat.min_eq_right (by (lia -abstractProof)), Nat.sub_self, List.take_zero, List.drop_eq_nil_of_le (by rw [List.length_map]; (lia -abstractProof))]
theorem fG {xs : List D} {k : Nat} (h : Sm k (.list xs)) (hk : Nat.ble k 64 = true) : be .NotEq (.list xs) (.list []) = some (!xs.isEmpty) := by
  unfold be
  dsimp only
  rw [eu h (lE (k := 0) (ds := []) (fun d m => nomatch m)) hk rfl, if_pos rfl]
  cases xs <;> simp [PyData.eqv, PyData.eqvAll]
theorem fH {xs : List D} {k : Nat} (h : Sm k (.list xs)) (hk : Nat.ble k 64 = true) : be .Eq (.list xs) (.list []) = some xs.isEmpty := by
  unfold be
  dsimp only
  rw [eu h (lE (k := 0) (ds := []) (fun d m => nomatch m)) hk rfl, if_pos rfl]
  cases xs <;> simp [PyData.eqv, PyData.eqvAll]
theorem sO (c : Cl) : bf (aL c) = true := rfl
theorem nB {α β : Type} (enc : α → β) (p : α → Bool) (xs : List α) : xs.filterMap (fun d => if p d then some (enc d) else none) = (xs.filter p).map enc := by
  induction xs with
  | nil => rfl
  | cons a r ih =>
    rw [List.filterMap_cons, List.filter_cons]
    cases p a <;> simp [ih]
noncomputable def told (cls : List Cl) : List Int := (jk 0 cls).foldl (fun l p => if (cls.drop (p.1 + 1)).any (fun d => bE d p.2) then aY l p.2.t0 else l) []
noncomputable def i3 (cls : List Cl) (l : List Int) (p : Nat × Cl) : List Int := if (cls.drop (p.1 + 1)).any (fun d => bE d p.2) then aY l p.2.t0 else l
theorem sh {α : Type} (p : α → Bool) (f : α → D) (ys : List α) : ys.any p = !((ys.filter p).map f).isEmpty := by
  induction ys with
  | nil => rfl
  | cons b r ih => rw [List.any_cons, List.filter_cons, ih]; cases p b <;> rfl
theorem ut (n : Nat) (cls : List Cl) (hc : cls.length ≤ 100) : (gN TT (n+4)).call 29 [.list (cls.map aL)] = some (.list ((told cls).map bd)) := by
  refine bA (n+3) 4 rfl rfl rfl (pp rfl (kr (enc := fun p : Nat × Cl => PyData.tuple [.int p.1, aL p.2]) (fun l r => (∃ x y z, r = [some (.val (.list (cls.map aL))), some (.own (l.map bd)), x, y, z]) ∧ bB cls l) (i3 cls) (jk 0 cls) []
    ((iEnum rfl).trans (congrArg some (j9 _ _ _))) ⟨(ei3 rfl), bB.nil⟩ ?_ fun l' i => ?_))
  · rintro ⟨k, a⟩ m l _ ⟨hx_, hs⟩; refine iJ hx_ fun x y z e_ => ?_; obtain rfl := e_; try clear hx_
    obtain ⟨-, hk⟩ := iw 0 cls (k, a) m
    replace hk : cls[k]? = some a := hk
    obtain ⟨hk1, hk2⟩ := List.getElem?_eq_some_iff.mp hk
    have hma : a ∈ cls := hk2 ▸ List.getElem_mem hk1
    refine ⟨_, rfl, bC (.list (((cls.drop (k + 1)).filter fun d => bE d a).map aL)) (eJ (enc := aL) (fun d => bE d a) aL (iE (gb rfl (vIs (fz rfl rfl) rfl) (sm hk1 hc).1 (sm hk1 hc).2) (congrArg some (xJ aL cls k)) rfl) fun d Z => ⟨_, rfl, dM rfl (kY n d a), fun Z => rfl, rfl⟩) rfl
      (sIf ((cls.drop (k + 1)).any (fun d => bE d a) && decide (a.t0 ∉ l)) (rK (eQ _ _ (ac rfl rfl ((fG (cS vY _) rfl).trans (congrArg some (sh _ _ _).symm))) fun Z => dT (ac rfl rfl (mO _ _)))) (fun h => ?_) fun h => ?_)⟩
    · have h1 := (Bool.and_eq_true _ _).mp h
      refine nc (enc := bd) a.t0 rfl rfl rfl (hs.len hc) rfl (fB (aO ?_))
      have e : i3 cls l (k, a) = aY l a.t0 := if_pos h1.1
      have e2 : aY l a.t0 = l ++ [a.t0] := if_neg (of_decide_eq_true h1.2)
      have hn := hs.note hma
      rw [e2] at hn
      rw [e, e2]
      exact ⟨(ei3 rfl), hn⟩
    · refine fB (aO ?_)
      have e : i3 cls l (k, a) = l := by
        unfold i3 aY
        cases q : (cls.drop (k + 1)).any fun d => bE d a with
        | false => rfl
        | true => rw [q] at h; exact (if_pos rfl).trans (if_pos (by simpa using h))
      rw [e]
      exact ⟨(ei3 rfl), hs⟩
  · obtain ⟨hx_, hs⟩ := i; refine iJ hx_ fun x y z e_ => ?_; obtain rfl := e_; try clear hx_
    exact bP _ rfl rfl
end Mine
namespace Mine
open PySem
noncomputable def j1 {α : Type} (toL : α → List Int) (a : α) : List α → List α
  | [] => [a]
  | b :: r => if aW (toL b) (toL a) then b :: j1 toL a r else a :: b :: r
theorem wY {α : Type} (L : α → List Int) (a) : j1 L a [] = [a] := rfl
theorem pC {α : Type} (L : α → List Int) (a b r) : j1 L a (b :: r) = if aW (L b) (L a) then b :: j1 L a r else a :: b :: r := rfl
noncomputable def bU {α : Type} (toL : α → List Int) (l : List α) : List α := l.foldr (j1 toL) []
theorem qX {α : Type} (toL : α → List Int) (a : α) : ∀ l : List α, qW (toL a) (l.map toL) = (j1 toL a l).map toL
  | [] => rfl
  | b :: r => by
    rw [List.map_cons, sJ, pC]
    split
    · rw [qX toL a r]; rfl
    · rfl
theorem nT {α : Type} (toL : α → List Int) : ∀ l : List α, i9 (l.map toL) = (bU toL l).map toL
  | [] => rfl
  | a :: r => by
    show qW (toL a) (i9 (r.map toL)) = _
    rw [nT toL r, qX]; rfl
theorem im : ∀ l : List Int, iN (l.map PyData.int) = some l
  | [] => rfl
  | a :: r => by rw [List.map_cons, yo, im r]; rfl
theorem lc {α : Type} {enc : α → D} {toL : α → List Int} (he : ∀ a, enc a = dG (toL a)) {k : Nat} (hk : ∀ a, (toL a).length = k) : ∀ l : List α, lg k (l.map enc) = some (l.map toL)
  | [] => rfl
  | a :: r => by
    rw [List.map_cons, he a]
    unfold dG
    rw [s5, im]
    dsimp only
    rw [if_pos (hk a), lc he hk r]; rfl
theorem jq {α : Type} {enc : α → D} {toL : α → List Int} (he : ∀ a, enc a = dG (toL a)) {k : Nat} (hk : ∀ a, (toL a).length = k) (h1 : 1 ≤ k) (lst : Bool) (xs : List α) (hx : xs.length ≤ 4) : gJ lst (xs.map enc) = some ((bU toL xs).map enc) := by
  have hm : ∀ l : List α, l.map enc = (l.map toL).map dG := fun l => by
    rw [List.map_map]
    exact List.map_congr_left fun a Z => he a
  cases xs with
  | nil => rfl
  | cons a r =>
    have e1 := lc he hk (a :: r)
    rw [List.map_cons, he a] at e1 ⊢
    unfold dG at e1 ⊢
    unfold gJ
    rw [if_pos (by rw [List.length_cons, List.length_map]; simp at hx; exact nlt (by assumption) (by decide))]
    dsimp only
    rw [if_pos ⟨by rw [List.length_map, hk]; exact h1, by rw [List.length_map]; simp at hx; assumption⟩, List.length_map, hk, e1, Option.map_some, nT, hm]
noncomputable def toS (s : Sp) : List Int := [s.1, s.2.1, s.2.2]
noncomputable def toP (p : Pr) : List Int := [p.1, p.2]
noncomputable def toF (t : Int) : List Int := [8, t]
theorem x9 (lst : Bool) (xs : List Sp) (hx : xs.length ≤ 4) : gJ lst (xs.map jX) = some ((bU toS xs).map jX) := jq (enc := jX) (toL := toS) (fun Z => rfl) (k := 3) (fun Z => rfl) (by decide) lst xs hx
theorem yA (lst : Bool) (xs : List Pr) (hx : xs.length ≤ 4) : gJ lst (xs.map aZ) = some ((bU toP xs).map aZ) := jq (enc := aZ) (toL := toP) (fun Z => rfl) (k := 2) (fun Z => rfl) (by decide) lst xs hx
theorem sv (lst : Bool) (xs : List Int) (hx : xs.length ≤ 4) : gJ lst (xs.map bd) = some ((bU toF xs).map bd) := jq (enc := bd) (toL := toF) (fun Z => rfl) (k := 2) (fun Z => rfl) (by decide) lst xs hx
theorem sm_S (s : Sp) : Sm 3 (jX s) := gK fun d m => by
  simp only [List.mem_cons, List.not_mem_nil, or_false] at m
  rcases m with rfl | rfl | rfl <;> exact dA _ _
noncomputable def pv (c : Cl) (i : Int) (s : Sp) : Option Sp := if s.1 ≤ i ∧ i < s.2.1 then some (s.2.1 - s.1, s.2.2, c.s) else none
noncomputable def mH (i : Int) (c : Cl) : List Sp := (bF c).filterMap (pv c i)
noncomputable def bJ (cls : List Cl) (i : Int) : List Sp := cls.foldl (fun l c => l ++ mH i c) []
theorem nQ (c : Cl) : (bF c).length ≤ 3 := by unfold bF; split <;> simp
noncomputable def gI (cls : List Cl) (i op : Int) : Int :=
  if op = 42 then (if (bU toS (bJ cls i)).isEmpty then 0 else 9) else
  match (if op = 65050 then (bU toS (bJ cls i)).filter (fun s => decide (s.2.1 > 0)) else bU toS (bJ cls i)) with
  | [] => 5
  | s :: _ => if op = 65041 then (if s.2.1 = 1 then 0 else 5) else if s.2.1 = 2 ∧ (decide (s.2.2 < 2) == decide (op = 65050)) = true then 0 else 5
noncomputable def gV (c : Cl) (i : Int) (l : List Sp) (s : Sp) : List Sp := l ++ (pv c i s).toList
theorem oD (c : Cl) (i : Int) : ∀ (ss : List Sp) (l : List Sp), ss.foldl (gV c i) l = l ++ ss.filterMap (pv c i)
  | [], l => (List.append_nil l).symm
  | s :: ss, l => by
    rw [List.foldl_cons, oD c i ss, List.filterMap_cons]
    unfold gV
    cases pv c i s with
    | none => rw [Option.toList_none, List.append_nil]
    | some x => rw [Option.toList_some, List.append_assoc]; rfl
theorem mS (n : Nat) (cls : List Cl) (i op : Int) (hc : cls.length ≤ 100) (hh : (bJ cls i).length ≤ 4) : (gN TT (n+2)).call 34 [.list (cls.map aL), .int i, .int op] = some (.int (gI cls i op)) := by
  refine bA (n+1) 6 rfl rfl rfl (pp rfl (nY (fun k l r => (∃ x y z u v, r = [some (.val (.list (cls.map aL))), some (.val (.int i)), some (.val (.int op)), some (.own (l.map jX)), x, y, z, u, v]) ∧ l.length ≤ 3 * k) (fun l c => l ++ mH i c) cls []
    rfl ⟨(ei5 rfl), Nat.le_refl _⟩ (fun k c hk l r hI => ?_) fun r hI => ?_))
  · obtain ⟨hx_, hs⟩ := hI; refine zu hx_ fun x y z u v e_ => ?_; obtain rfl := e_; try clear hx_
    have hk1 := (List.getElem?_eq_some_iff.mp hk).1
    have h3 := nQ c
    refine ⟨_, rfl, nY (fun j l r => (∃ y z u, r = [some (.val (.list (cls.map aL))), some (.val (.int i)), some (.val (.int op)), some (.own (l.map jX)), some (.val (aL c)), y, z, u, v]) ∧ l.length ≤ 3 * k + j) (gV c i) (bF c) l
      (mG (ab rfl (dH n c)) rfl) ⟨(ei3 rfl), hs⟩ (fun j s hj l r hI => ?_) fun r hI => ?_⟩
    · obtain ⟨hx_, hs⟩ := hI; refine iJ hx_ fun y z u e_ => ?_; obtain rfl := e_; try clear hx_
      have hj1 := (List.getElem?_eq_some_iff.mp hj).1
      refine ⟨_, rfl, sIf _ (xU rfl rfl rfl) (fun h => ?_) fun h => ?_⟩
      · have e : gV c i l s = l ++ [(s.2.1 - s.1, s.2.2, c.s)] := congrArg (fun o : Option Sp => l ++ o.toList) (if_pos (by simpa using h))
        refine nc (enc := jX) (s.2.1 - s.1, s.2.2, c.s) rfl rfl rfl (by (lia -abstractProof)) rfl (fB (aO ?_))
        rw [e]
        exact ⟨(ei3 rfl), by rw [List.length_append]; exact Nat.succ_le_succ hs⟩
      · have e : gV c i l s = l := (congrArg (fun o : Option Sp => l ++ o.toList) (if_neg (by simpa using h))).trans (List.append_nil l)
        refine fB (aO ?_)
        rw [e]
        exact ⟨(ei3 rfl), by (lia -abstractProof)⟩
    · obtain ⟨hx_, hs⟩ := hI; refine iJ hx_ fun y z u e_ => ?_; obtain rfl := e_; try clear hx_
      rw [oD] at hs ⊢
      exact fin (aO ⟨(ei5 rfl), by have : ((mH i c).length) ≤ 3 := Nat.le_trans (List.length_filterMap_le ..) h3; show (l ++ mH i c).length ≤ _; rw [List.length_append]; (lia -abstractProof)⟩)
  obtain ⟨hx_, -⟩ := hI; refine zu hx_ fun x y z u v e_ => ?_; obtain rfl := e_; try clear hx_
  show Run _ [_, _, _, some (.own ((bJ cls i).map jX)), x, y, z, u, v] _ _
  have hsrt := x9 true _ hh
  unfold gI
  generalize bU toS (bJ cls i) = rs at hsrt ⊢
  refine bC (.list (rs.map jX)) (congrArg (Option.map PyData.list) hsrt) rfl (aT (decide (op = 42)) (.int (if rs.isEmpty then 0 else 9)) (cEq rfl rfl) ?_ (fun h => ?_) fun h => ?_)
  · cases rs <;> rfl
  · rw [if_pos (of_decide_eq_true h)]; rfl
  rw [if_neg (of_decide_eq_false h)]
  have tail : ∀ (zs : List Sp), Run (gN TT (n+1)) [some (.val (.list (cls.map aL))), some (.val (.int i)), some (.val (.int op)), some (.val (.list (zs.map jX))), x, y, z, u, v] b34_9 (ku fun r => r.1 = .int (match zs with
      | [] => 5
      | s :: _ => if op = 65041 then (if s.2.1 = 1 then 0 else 5) else if s.2.1 = 2 ∧ (decide (s.2.2 < 2) == decide (op = 65050)) = true then 0 else 5)) := fun zs => by
    have hb := fH (cS sm_S zs) rfl
    cases zs with
    | nil => exact aT true _ (ac rfl rfl hb) rfl (fun Z => rfl) fun q => nomatch q
    | cons s r =>
      have e : (decide (s.2.1 = 2) && (decide (s.2.2 < 2) == decide (op = 65050))) = decide (s.2.1 = 2 ∧ (decide (s.2.2 < 2) == decide (op = 65050)) = true) := by rw [Bool.decide_and, Bool.decide_eq_true]
      refine aT false _ (ac rfl rfl hb) rfl (fun q => nomatch q) fun Z => pn (ds := [.int s.2.1, .int s.2.2]) _ rfl rfl (aT _ _ (cEq rfl rfl) (ui (cEq rfl rfl) rfl rfl) (fun q => ?_) fun q => bP _ (ui ((rK (eQ _ _ (cEq rfl rfl) fun Z => dT (ac (tU (cLt rfl rfl)) (tU (cEq rfl rfl)) (zW _ _)))).trans (congrArg some e)) rfl rfl) ?_)
      · show PyData.int _ = .int _
        dsimp only
        rw [if_pos (of_decide_eq_true q)]
      · show PyData.int _ = .int _
        dsimp only
        rw [if_neg (of_decide_eq_false q)]
  by_cases h2 : op = 65050
  · rw [if_pos h2]
    exact sIf (decide (op = 65050)) (cEq rfl rfl) (fun Z => bC _ (eJ (enc := jX) (fun s => decide (s.2.1 > 0)) jX rfl fun s Z => ⟨_, rfl, cGt rfl rfl, fun Z => rfl, rfl⟩) rfl (dS (tail _))) fun q => absurd h2 (of_decide_eq_false q)
  · rw [if_neg h2]
    exact sIf (decide (op = 65050)) (cEq rfl rfl) (fun q => absurd (of_decide_eq_true q) h2) fun Z => dS (tail rs)
end Mine
namespace Mine
open PySem
noncomputable def clN (cls : List Cl) (k : Nat) : Cl := cls[k]?.getD ⟨0, 0, 0, 0, 0, 0⟩
theorem b9 {cls : List Cl} {k : Nat} (h : k < cls.length) : cls[k]? = some (clN cls k) := by
  unfold clN; rw [List.getElem?_eq_getElem h]; rfl
theorem dJ {cls : List Cl} {k : Nat} (h : k < cls.length) : clN cls k ∈ cls := by
  unfold clN; rw [List.getElem?_eq_getElem h]; exact List.getElem_mem h
theorem kX {α : Type} {S : List Cl} {f : List Int → α → List Int} (hf : ∀ l a, bB S l → bB S (f l a)) : ∀ (xs : List α) (l : List Int), bB S l → bB S (xs.foldl f l)
  | [], _, h => h
  | a :: r, l, h => by rw [List.foldl_cons]; exact kX hf r _ (hf l a h)
theorem fY {α : Type} {S : List Cl} {f : List Int → α → List Int} : ∀ (xs : List α) (l : List Int), (∀ l, ∀ a ∈ xs, bB S l → bB S (f l a)) → bB S l → bB S (xs.foldl f l)
  | [], _, _, h => h
  | a :: r, l, hf, h => by rw [List.foldl_cons]; exact fY r _ (fun l b m => hf l b (.tail _ m)) (hf l a (.head _) h)
theorem rW {S cls : List Cl} {a : Cl} (m : a ∈ S) (k : Nat) (l : List Int) (h : bB S l) : bB S (oi cls a k l) := by
  unfold oi
  refine kX (fun l j h => ?_) _ _ h
  have : ∀ b : Bool, bB S (if b then l else aY l a.t0) := fun b => by
    cases b
    · exact h.note m
    · exact h
  exact this _
theorem uJ (cls : List Cl) (l : List Int) (h : bB cls l) : bB cls (rf2 cls l) := by
  unfold rf2
  refine fY _ _ (fun l p m h => ?_) h
  obtain ⟨-, e⟩ := iw 0 cls p m
  exact rW (List.mem_of_getElem? e) _ _ h
theorem uK (code : List Int) (cls : List Cl) : bB cls (rf1 code cls) := by
  unfold rf1
  refine fY _ _ (fun l c m h => ?_) bB.nil
  split
  · exact h
  · exact h.note m
theorem bV (code : List Int) (cls : List Cl) : bB cls (aD code cls) := by
  unfold aD
  split
  · exact uJ _ _ bB.nil
  · exact uK _ _
noncomputable def rC (l rows : List Int) : List Int := rows.foldl aY l
noncomputable def eG (code : List Int) (cls : List Cl) : List Int := cls.foldl (fun l c => rC l (aD code [c])) []
noncomputable def ow (code : List Int) (cls : List Cl) : List Int :=
  (List.range cls.length).foldl (fun l c => (List.range (cls.length - (c + 1))).foldl (fun l j => rC l (aD code [clN cls c, clN cls (c + 1 + j)])) l) []
noncomputable def ig (code : List Int) (cls : List Cl) : List Int := if eG code cls = [] then ow code cls else eG code cls
theorem qv (n : Nat) (code : List Int) (c : Cl) (hl : code.length ≤ 100000) : (gN TT (n+4)).call 9 [.list (code.map cC), .list [aL c]] = some (.list ((aD code [c]).map bd)) := ao n code [c] hl (by simp)
theorem qu (n : Nat) (code : List Int) (c d : Cl) (hl : code.length ≤ 100000) : (gN TT (n+4)).call 9 [.list (code.map cC), .list [aL c, aL d]] = some (.list ((aD code [c, d]).map bd)) := ao n code [c, d] hl (by simp)
theorem nU {S T : List Cl} {l : List Int} (h : bB T l) (hT : ∀ c ∈ T, c ∈ S) : ∀ t ∈ l, t ∈ S.map (·.t0) := fun t m => by
  obtain ⟨c, mc, rfl⟩ := List.mem_map.mp (h.2 t m)
  exact List.mem_map_of_mem (hT c mc)
theorem q9 {g : G} {it : IE} {r : List IS} {Q : Fl × Rho → Prop} {A B x y z w : Option LV} {l : List Int} (S : List Cl) (rows : List Int) (hit : evIter g (E [A, B, some (.own (l.map bd)), x, y, z, w]) false (evI g (E [A, B, some (.own (l.map bd)), x, y, z, w]) it) it = some (rows.map bd)) (hs : bB S l) (hr : ∀ t ∈ rows, t ∈ S.map (·.t0))
    (hc : S.length ≤ 100) (k : ∀ y, bB S (rC l rows) → Run g [A, B, some (.own ((rC l rows).map bd)), x, y, z, w] r Q) : Run g [A, B, some (.own (l.map bd)), x, y, z, w] (.loop [4] false it b30_3 :: r) Q := by
  refine kr (fun l r => (∃ y, r = [A, B, some (.own (l.map bd)), x, y, z, w]) ∧ bB S l) aY rows l hit ⟨⟨_, rfl⟩, hs⟩ ?_ ?_
  · rintro t mt l _ ⟨⟨y, rfl⟩, hs⟩
    obtain ⟨c, mc, rfl⟩ := List.mem_map.mp (hr t mt)
    refine ⟨_, rfl, sIf (decide (c.t0 ∉ l)) (ac rfl rfl (mO _ _)) (fun h => ?_) fun h => ?_⟩
    · have e : aY l c.t0 = l ++ [c.t0] := if_neg (of_decide_eq_true h)
      have hn := hs.note mc
      refine nc (enc := bd) c.t0 rfl rfl rfl (hs.len hc) rfl (fB (aO ?_))
      rw [e] at hn ⊢
      exact ⟨⟨_, rfl⟩, hn⟩
    · have e : aY l c.t0 = l := if_pos (by simpa using h)
      refine fB (aO ?_)
      rw [e]
      exact ⟨⟨_, rfl⟩, hs⟩
  · rintro _ ⟨⟨y, rfl⟩, hs⟩
    exact k y hs
noncomputable def zp (code : List Int) (cls : List Cl) (c : Nat) (l : List Int) (j : Nat) : List Int := rC l (aD code [clN cls c, clN cls (c + 1 + j)])
noncomputable def pIn (code : List Int) (cls : List Cl) (l : List Int) (c : Nat) : List Int := (List.range (cls.length - (c + 1))).foldl (zp code cls c) l
theorem qw (n : Nat) (code : List Int) (cls : List Cl) (hl : code.length ≤ 100000) (hc : cls.length ≤ 100) : (gN TT (n+5)).call 30 [.list (code.map cC), .list (cls.map aL)] = some (.list ((ig code cls).map bd)) := by
  refine bA (n+4) 5 rfl rfl rfl (pp rfl (kr (fun l r => (∃ x y z w, r = [some (.val (.list (code.map cC))), some (.val (.list (cls.map aL))), some (.own (l.map bd)), x, y, z, w]) ∧ bB cls l) (fun l c => rC l (aD code [c])) cls [] rfl ⟨(ei4 rfl), bB.nil⟩ ?_ fun r i => ?_))
  · rintro c m l _ ⟨hx_, hs⟩; refine iI hx_ fun x y z w e_ => ?_; obtain rfl := e_; try clear hx_
    exact ⟨_, rfl, q9 cls (aD code [c]) (mG (ab rfl (qv n code c hl)) rfl) hs (nU (bV code [c]) fun d md => by cases List.mem_singleton.mp md; exact m) hc fun y hn => fin (aO ⟨(ei4 rfl), hn⟩)⟩
  obtain ⟨hx_, hs⟩ := i; refine iI hx_ fun x y z w e_ => ?_; obtain rfl := e_; try clear hx_
  show Run _ [_, _, some (.own ((eG code cls).map bd)), x, y, z, w] _ _
  refine aT (!((eG code cls).map bd).isEmpty) (.list ((eG code cls).map bd)) (ac rfl rfl (fG (cS (fun a => kq (8, a)) _) rfl)) rfl (fun h => ?_) fun h => ?_
  · show PyData.list _ = .list _
    unfold ig
    rw [if_neg fun e => by rw [e] at h; cases h]
  have h0 : eG code cls = [] := by simpa using h
  have e : ig code cls = ow code cls := by unfold ig; rw [if_pos h0]
  rw [e, h0]
  refine kr (enc := fun k : Nat => PyData.int (k : Int)) (fun l r => (∃ x y z w, r = [some (.val (.list (code.map cC))), some (.val (.list (cls.map aL))), some (.own (l.map bd)), x, y, z, w]) ∧ bB cls l) (pIn code cls) (List.range cls.length) []
    (fW (ds := [.int cls.length]) (bg (cU rfl) rfl) (nn _ hc)) ⟨(ei4 rfl), bB.nil⟩ ?_ fun r i => ?_
  · rintro k m l _ ⟨hx_, hs⟩; refine iI hx_ fun x y z w e_ => ?_; obtain rfl := e_; try clear hx_
    have hk := List.mem_range.mp m
    refine ⟨_, rfl, kr (enc := fun j : Nat => PyData.int ((k : Int) + 1 + (j : Int))) (fun l r => (∃ y w, r = [some (.val (.list (code.map cC))), some (.val (.list (cls.map aL))), some (.own (l.map bd)), x, y, some (.val (.int k)), w]) ∧ bB cls l) (zp code cls k) (List.range (cls.length - (k + 1))) l
      (fW (ds := [.int ((k : Int) + 1), .int cls.length]) (bg rfl (bg (cU rfl) rfl)) (py hk hc)) ⟨(ei2 rfl), hs⟩ ?_ fun r i => ?_⟩
    · rintro j m l _ ⟨hx_, hs⟩; refine cY hx_ fun y w e_ => ?_; obtain rfl := e_; try clear hx_
      have hj := List.mem_range.mp m
      refine ⟨_, rfl, q9 cls (aD code [clN cls k, clN cls (k + 1 + j)]) (mG (ab (aP rfl (aP (aE (eLst2 (ca rfl rfl (kW (b9 hk) hc)) (ca rfl rfl (wf (b9 (wT hj)) hc))) rfl) rfl)) (qu n code _ _ hl)) rfl) hs (nU (bV code _) fun d md => ?_) hc
        fun y hn => fin (aO ⟨(ei2 rfl), hn⟩)⟩
      rcases List.mem_cons.mp md with rfl | md
      · exact dJ hk
      · cases List.mem_singleton.mp md; exact dJ (wT hj)
    · obtain ⟨hx_, hs⟩ := i; refine cY hx_ fun y w e_ => ?_; obtain rfl := e_; try clear hx_
      exact fin (aO ⟨(ei4 rfl), hs⟩)
  · obtain ⟨hx_, hs⟩ := i; refine iI hx_ fun x y z w e_ => ?_; obtain rfl := e_; try clear hx_
    exact bP _ rfl rfl
end Mine
namespace Mine
open PySem
theorem yB (ws : List Int) (h : ws.length ≤ 60) : gJ true (ws.map .int) = some ((eZ ws).map .int) := by
  cases ws with
  | nil => rfl
  | cons a r =>
    unfold gJ
    rw [if_pos (by rw [List.length_map]; exact h), List.map_cons]
    dsimp only
    rw [if_pos rfl, im]; rfl
theorem pP {α : Type} {enc : α → D} (he : ∀ a b, (enc a).eqv (enc b) = true ↔ a = b) (hs : ∀ a, Sm 3 (enc a)) (xs ys : List α) (b : Bool) (hb : b = true ↔ xs = ys) : be .Eq (.list (xs.map enc)) (.list (ys.map enc)) = some b := by
  unfold be
  dsimp only
  rw [eu (cS hs xs) (cS hs ys) rfl rfl, if_pos rfl]
  congr 1
  rw [Bool.eq_iff_iff, PyData.eqv, pM he, hb]
theorem xN (xs ys : List Pr) : be .Eq (.list (xs.map aZ)) (.list (ys.map aZ)) = some (decide (xs = ys)) := pP (fun a b => by rw [te]; exact decide_eq_true_iff) kq xs ys _ decide_eq_true_iff
theorem xO (xs ys : List Int) : be .Eq (.list (xs.map .int)) (.list (ys.map .int)) = some (decide (xs = ys)) := pP (fun a b => by rw [lK]; exact decide_eq_true_iff) (fun a => dA a 2) xs ys _ decide_eq_true_iff
theorem ti (a : Int) (l : List Int) : be .In (.int a) (.list (l.map .int)) = some (decide (a ∈ l)) := by
  unfold be
  dsimp only
  rw [eu (dA a 0) (cS (fun a => dA a 0) l) rfl rfl, if_pos rfl]
  simp only [ba, Option.map_some]
  congr 1
  induction l with
  | nil => rfl
  | cons b l ih =>
    rw [List.map_cons, List.any_cons, ih, lK]
    by_cases h : b = a
    · subst h; simp
    · have h' : ¬ a = b := fun e => h e.symm
      simp [h, h']
theorem sM (i : Int) : bf (.int i) = true := rfl
noncomputable def fJ (c : Cl) (part : Int) : List Int := (bF c).filterMap fun s => if s.2.2 = part then some (s.2.1 - s.1) else none
noncomputable def cN (cls : List Cl) (l : List Pr) : List Int := l.foldl (fun ws p => ws ++ fJ (bO cls p.1) p.2) []
noncomputable def bh (cls : List Cl) (i : Int) : List Pr := (List.range cls.length).filterMap fun k => if 0 ≤ aB (clN cls k) i then some ((k : Int), aB (clN cls k) i) else none
noncomputable def gp (cls : List Cl) (i op : Int) : Bool := decide (fL cls i op = gI cls i op) &&
  (decide (bU toP (aK cls i) = bh cls i) && decide (cN cls (aK cls i) = (eZ (cN cls (aK cls i))).reverse))
theorem rH (c : Cl) (p : Int) : (fJ c p).length ≤ 3 := Nat.le_trans (List.length_filterMap_le ..) (nQ c)
theorem eS {α β : Type} (q : α → Prop) [DecidablePred q] (f : α → β) (xs : List α) : xs.filterMap (fun a => if q a then some (f a) else none) = (xs.filter fun a => decide (q a)).map f := by
  induction xs with
  | nil => rfl
  | cons a r ih =>
    rw [List.filterMap_cons, List.filter_cons]
    by_cases h : q a
    · rw [if_pos h, decide_eq_true h, if_pos rfl, List.map_cons, ih]
    · rw [if_neg h, decide_eq_false h, ih]; rfl
theorem u8 (c : Cl) (p : Int) : ((bF c).filter fun s => decide (s.2.2 = p)).map (fun s => PyData.int (s.2.1 - s.1)) = (fJ c p).map .int := by
  unfold fJ
  rw [eS (fun s : Sp => s.2.2 = p) fun s : Sp => s.2.1 - s.1, List.map_map]; rfl
theorem own_eq (cls : List Cl) (i : Int) : ((List.range cls.length).filter fun k : Nat => decide (aB (clN cls k) i ≥ 0)).map (fun k : Nat => aZ ((k : Int), aB (clN cls k) i)) = (bh cls i).map aZ := by
  unfold bh
  rw [eS (fun k : Nat => 0 ≤ aB (clN cls k) i) fun k : Nat => ((k : Int), aB (clN cls k) i), List.map_map]; rfl
theorem isW {g : G} {l : Row} {i : Nat} {w : Option LV} {xs : List D} (e : E l i = w) (h : w = some (.own xs) ∨ w = some (.val (.list xs))) : isV g (E l) (.v i) (.list xs) := by
  unfold isV
  rw [pk_v, e]
  rcases h with rfl | rfl <;> rfl
theorem isWf {g : G} {l : Row} {i : Nat} {w : Option LV} {xs : List D} (e : E l i = w) (h : w = some (.own xs) ∨ w = some (.val (.list xs))) : isV g (frz (E l)) (.v i) (.list xs) := by
  unfold isV
  rw [pk_v, wo, e]
  rcases h with rfl | rfl <;> rfl
theorem gA (n : Nat) (code : List Int) (cls : List Cl) (i op : Int) (hc : cls.length ≤ 100) (hl : code.length ≤ 100000) (h0 : 0 ≤ i) (h1 : i < code.length) (hr : (aK cls i).length ≤ 4) (hh : (bJ cls i).length ≤ 4) :
    (gN TT (n+6)).call 35 [.list (code.map cC), .list (cls.map aL), .int i, .int op] = some (.bool (gp cls i op)) := by
  have hop : (code.set i.toNat op)[i.toNat]? = some op := by rw [List.getElem?_set_self (toNat_lt h0 h1)]
  have hpl := rp n (code.set i.toNat op) cls i op hc h0 (by exact nle (by assumption) (by decide)) (by rw [List.length_set]; exact nle (by assumption) (by decide)) hop
  rw [List.map_set] at hpl
  have hen := rq (n+3) cls i
  rw [show (cls.any fun c => decide (c.t0 = i)) = decide (i ∈ cls.map (·.t0)) by rw [Bool.eq_iff_iff]; simp only [List.any_eq_true, decide_eq_true_iff, List.mem_map]] at hen
  unfold gp
  refine bA (n+5) 7 rfl rfl rfl (bC (iO (.list (cls.map aL))) rfl rfl (yH rfl rfl (bk (fun o => rfl) code) rfl (yG (d := cC op) (k := i) rfl rfl rfl rfl h0 (by rw [List.length_map]; exact h1) rfl
    (aT (!decide (fL cls i op = gI cls i op)) _ (cNe (c5 (oJ rfl rfl rfl hpl rfl) rfl) (eR rfl (mS _ cls i op hc hh))) rfl (fun h => ?_) fun hst =>
      aT (!(decide (i ∈ cls.map (·.t0)) == decide (i ∈ cls.map (·.t0)))) _ (ac (c5 (oJ rfl rfl rfl hen rfl) rfl) (tU (ac rfl (c5 ((eJ (enc := aL) (fun Z => true) (fun c => PyData.int c.t0) rfl fun c Z => ⟨_, rfl, rfl, fun Z => rfl, rfl⟩).trans ?_) rfl) (ti i (cls.map (·.t0))))) (th _ _)) rfl (fun h => ?_) fun Z =>
      bC _ (oJ rfl rfl rfl (yZ (n+2) cls i hc) rfl) rfl (pp rfl ?_)))))
  · rw [show decide (fL cls i op = gI cls i op) = false by simpa using h]; rfl
  · rw [List.filter_eq_self.mpr fun Z Z => rfl, List.map_map]; rfl
  · rw [beq_self_eq_true] at h; exact fT h
  rw [show decide (fL cls i op = gI cls i op) = true by simpa using hst, Bool.true_and]
  refine nY (enc := aZ) (fun k ws r => (∃ w x y z, (w = some (.own (ws.map .int)) ∨ w = some (.val (.list (ws.map .int)))) ∧ r = [some (.val (.list (code.map cC))), some (.val (.list (cls.map aL))), some (.val (.int i)), some (.val (.int op)), some (.val (iO (.list (cls.map aL)))), some (.own ((code.map cC).set i.toNat (cC op))), some (.val (.tuple ((aK cls i).map aZ))), w, x, y, z]) ∧ ws.length ≤ 3 * k)
    (fun ws p => ws ++ fJ (bO cls p.1) p.2) (aK cls i) [] rfl ⟨⟨_, _, _, _, .inl rfl, rfl⟩, Nat.le_refl _⟩ (fun k p hk ws r hI => ?_) fun r hI => ?_
  · obtain ⟨hx_, hs⟩ := hI; refine zv hx_ fun w x y z hw e_ => ?_; obtain rfl := e_; try clear hx_
    obtain ⟨hk1, hk2⟩ := List.getElem?_eq_some_iff.mp hk
    obtain ⟨h5, h6⟩ := dO cls i p (hk2 ▸ List.getElem_mem hk1)
    have hw3 := rH (bO cls p.1) p.2
    refine ⟨_, rfl, bC (.list ((ws ++ fJ (bO cls p.1) p.2).map .int)) ((jY (xs := ws.map .int) (by exact isW (w := w) rfl hw) ((eJ (enc := jX) (fun s => decide (s.2.2 = p.2)) (fun s => PyData.int (s.2.1 - s.1)) (mG (ab (aP (aE (ca rfl rfl (bR (dR h5 h6) h5 (dl h6 hc))) rfl) rfl) (dH _ _)) rfl) fun s Z => ⟨_, rfl, cEq rfl rfl, fun Z => rfl, rfl⟩).trans (congrArg (fun l => some (PyData.list l)) (u8 _ _))) (by rw [List.length_map, List.length_map]; unfold aF; (lia -abstractProof))).trans (by rw [List.map_append])) rfl (fin (aO ⟨⟨_, _, _, _, .inr rfl, rfl⟩, ?_⟩))⟩
    rw [List.length_append]; (lia -abstractProof)
  · obtain ⟨hx_, hs⟩ := hI; refine zv hx_ fun w x y z hw e_ => ?_; obtain rfl := e_; try clear hx_
    have i5 : (cN cls (aK cls i)).length ≤ 60 := by have : (cN cls (aK cls i)).length ≤ _ := hs; (lia -abstractProof)
    have hw : w = some (.own ((cN cls (aK cls i)).map .int)) ∨ w = some (.val (.list ((cN cls (aK cls i)).map .int))) := hw
    generalize cN cls (aK cls i) = ws at hw i5 ⊢
    have hqI : be .Eq (.list (ws.map .int)) (.list (((eZ ws).map .int).reverse)) = some (decide (ws = (eZ ws).reverse)) := by rw [← List.map_reverse]; exact xO _ _
    refine bC (.list ((bh cls i).map aZ)) ((eJ (enc := fun k : Nat => PyData.int (k : Int)) (fun k : Nat => decide (aB (clN cls k) i ≥ 0)) (fun k : Nat => aZ ((k : Int), aB (clN cls k) i)) (fW (ds := [.int cls.length]) (bg (cU rfl) rfl) (nn _ hc)) fun k m => ?_).trans (congrArg (fun l => some (PyData.list l)) (own_eq _ _))) rfl
      (bP (.bool (decide (bU toP (aK cls i) = bh cls i) && decide (ws = (eZ ws).reverse))) (oY _ _ (eP (ac (c5 (lM rfl (congrArg (Option.map PyData.list) (yA false (aK cls i) hr))) rfl) rfl (xN _ _))) fun Z => wS (eP (ac (by exact isWf (w := w) rfl hw) (c5 (eRev (c5 (lM (d := .list (ws.map .int)) (by exact isWf (w := w) rfl hw) (congrArg (Option.map PyData.list) (yB ws i5))) rfl)) rfl) hqI))) rfl)
    have hk := List.mem_range.mp m
    exact ⟨_, rfl, cGe (c5 (ab (aP (aE (ca rfl rfl (kW (b9 hk) hc)) rfl) rfl) (fg _ _ i)) rfl) rfl, fun Z => xB rfl (ab (aP (aE (ca rfl rfl (kW (b9 hk) hc)) rfl) rfl) (fg _ _ i)), rfl⟩
end Mine
namespace Mine
open PySem
noncomputable def aN (e k c : Int) : Int := if e ≥ k then e + c else e
theorem di (n : Nat) (e k c : Int) : (gN TT (n+1)).call 38 [.int e, .int k, .int c] = some (.int (aN e k c)) :=
  bA n 0 rfl rfl rfl (bP (.int (aN e k c)) (ui (cGe rfl rfl) rfl rfl) rfl)
noncomputable def bH (k c : Int) (x : Cl) : Cl := ⟨x.s, aN x.t0 k c, aN x.t1 k c, aN x.h0 k c, aN x.h1 k c, if x.s = 1 then aN x.x k c else x.x⟩
theorem oF {α β : Type} (f : α → β) : ∀ (xs : List α) (l : List β), xs.foldl (fun l x => l ++ [f x]) l = l ++ xs.map f
  | [], l => (List.append_nil l).symm
  | a :: r, l => by rw [List.foldl_cons, oF f r, List.append_assoc]; rfl
theorem mU (n : Nat) (cls : List Cl) (k c : Int) (hc : cls.length ≤ 100) : (gN TT (n+2)).call 39 [.list (cls.map aL), .int k, .int c] = some (.list ((cls.map (bH k c)).map aL)) := by
  refine bA (n+1) 8 rfl rfl rfl (pp rfl (nY (fun j l r => (∃ a b c' d e f g, r = [some (.val (.list (cls.map aL))), some (.val (.int k)), some (.val (.int c)), some (.own (l.map aL)), a, b, c', d, e, f, g]) ∧ l.length ≤ j) (fun l x => l ++ [bH k c x]) cls [] rfl ⟨(ei7 rfl), Nat.le_refl _⟩ (fun j x hj l r hI => ?_) fun r hI => ?_))
  · obtain ⟨hx_, hs⟩ := hI; refine zr hx_ fun a b c' d e f g e_ => ?_; obtain rfl := e_; try clear hx_
    have hj1 := (List.getElem?_eq_some_iff.mp hj).1
    refine ⟨_, rfl, bC (.list [.int (aN x.t0 k c), .int (aN x.t1 k c), .int (aN x.h0 k c), .int (aN x.h1 k c)]) (eJ (enc := PyData.int) (xs := [x.t0, x.t1, x.h0, x.h1]) (fun Z => true) (fun e => PyData.int (aN e k c)) (iE (d := .tuple [.int x.t0, .int x.t1, .int x.h0, .int x.h1]) rfl rfl rfl) fun e Z => ⟨_, rfl, rfl, fun Z => ab rfl (di n e k c), rfl⟩) rfl
      (sIf (decide (x.s = 1)) (cEq rfl rfl) (fun h => bC _ (ab rfl (di n x.x k c)) rfl (dS ?_)) fun h => dS ?_)⟩
    · have e1 : aL (bH k c x) = .tuple [.int x.s, .int (aN x.t0 k c), .int (aN x.t1 k c), .int (aN x.h0 k c), .int (aN x.h1 k c), .int (aN x.x k c)] := by unfold bH; rw [if_pos (of_decide_eq_true h)]
      exact nc (enc := aL) (bH k c x) (by rw [e1]; rfl) rfl rfl (by lia) rfl (fin (aO ⟨(ei7 rfl), by rw [List.length_append]; exact Nat.succ_le_succ hs⟩))
    · have e1 : aL (bH k c x) = .tuple [.int x.s, .int (aN x.t0 k c), .int (aN x.t1 k c), .int (aN x.h0 k c), .int (aN x.h1 k c), .int x.x] := by unfold bH; rw [if_neg (of_decide_eq_false h)]
      exact nc (enc := aL) (bH k c x) (by rw [e1]; rfl) rfl rfl (by lia) rfl (fin (aO ⟨(ei7 rfl), by rw [List.length_append]; exact Nat.succ_le_succ hs⟩))
  · obtain ⟨hx_, hs⟩ := hI; refine zr hx_ fun a b c' d e f g e_ => ?_; obtain rfl := e_; try clear hx_
    rw [oF, List.nil_append]
    exact bP _ rfl rfl
noncomputable def bS (cls : List Cl) (y : Int) (size : Nat) : Int := if y.fmod ((size : Int) + 1) ∈ cls.filterMap (fun c => if c.s = 1 then some c.h0 else none) then 0 else y.fmod ((size : Int) + 1)
theorem oO (n : Nat) (cls : List Cl) (y : Int) (size : Nat) : (gN TT (n+1)).call 40 [.list (cls.map aL), .int y, .int size] = some (.int (bS cls y size)) := by
  have hz : (cls.filter fun c => decide (c.s = 1)).map (fun c => PyData.int c.h0) = (cls.filterMap (fun c => if c.s = 1 then some c.h0 else none)).map .int := by rw [eS (fun c : Cl => c.s = 1) fun c : Cl => c.h0, List.map_map]; rfl
  unfold bS
  refine bA n 1 rfl rfl rfl (bC _ (vIs (bo rfl rfl (by (lia -abstractProof))) rfl) rfl (aT (decide (y.fmod ((size : Int) + 1) ∈ cls.filterMap (fun c => if c.s = 1 then some c.h0 else none))) _ (ac rfl (c5 ((eJ (enc := aL) (fun c => decide (c.s = 1)) (fun c => PyData.int c.h0) rfl fun c Z => ⟨_, rfl, cEq rfl rfl, fun Z => rfl, rfl⟩).trans (congrArg (fun l => some (PyData.list l)) hz)) rfl) (ti _ _)) rfl (fun h => ?_) fun h => bP _ rfl ?_))
  · rw [if_pos (of_decide_eq_true h)]; rfl
  · rw [if_neg (of_decide_eq_false h)]; rfl
theorem pD {α : Type} (f : α → D) (l : List α) (i : Nat) (h : i < l.length) : ∃ v, v ∈ l ∧ (l.map f)[i]? = some (f v) := ⟨l[i], List.getElem_mem h, by rw [List.getElem?_map, List.getElem?_eq_getElem h]; rfl⟩
theorem tY (l : List Int) (i : Nat) (h : i < l.length) : ∃ v, (l.map PyData.int)[i]? = some (.int v) := let ⟨v, _, e⟩ := pD PyData.int l i h; ⟨v, e⟩
theorem s0 (a0 a1 a2 a3 a4 a5 : Int) (i : Nat) (h : i < 6) : ∃ v, [PyData.int a0, .int a1, .int a2, .int a3, .int a4, .int a5][i]? = some (.int v) := tY [a0, a1, a2, a3, a4, a5] i h
theorem qe (a0 a1 a2 a3 : Int) (i : Nat) (h : i < 4) : ∃ v, [PyData.int a0, .int a1, .int a2, .int a3][i]? = some (.int v) := tY [a0, a1, a2, a3] i h
theorem oN (n : Nat) (x : Int) (cls : List Cl) (size : Int) (h1 : 0 < size) (hc : 0 < cls.length) (hc2 : cls.length ≤ 100) : ∃ s, (gN TT (n+1)).call 45 [.int x, .list (cls.map aL), .int size] = some (.int s) ∧ 0 ≤ s ∧ s < size := by
  have f2 : 0 ≤ (x.fdiv 3).fmod (cls.length : Int) ∧ (x.fdiv 3).fmod (cls.length : Int) < cls.length := ⟨Int.fmod_nonneg_of_pos _ (by exact icp (by assumption)), Int.fmod_lt_of_pos _ (by exact icp (by assumption))⟩
  have f3 : 0 ≤ (x.fdiv 12).fmod 4 ∧ (x.fdiv 12).fmod 4 < 4 := ⟨Int.fmod_nonneg_of_pos _ (by exact Int.natCast_nonneg _), Int.fmod_lt_of_pos _ (by exact Int.natCast_nonneg _)⟩
  have f4 := dR f2.1 f2.2
  generalize bO cls ((x.fdiv 3).fmod (cls.length : Int)) = c at f4
  obtain ⟨v, hv⟩ := qe c.t0 c.t1 c.h0 c.h1 ((x.fdiv 12).fmod 4).toNat (toNat_lt f3.1 f3.2)
  obtain ⟨_, e, s, rfl, hs⟩ := xT (f := 45) (ds := [.int x, .list (cls.map aL), .int size]) n 2 (fun d => ∃ s, d = .int s ∧ 0 ≤ s ∧ s < size) rfl rfl rfl (by
    refine aT _ _ (cEq (bo rfl rfl (by decide)) rfl) (vIs (bo (cq rfl rfl (by decide)) rfl (by exact ine (by assumption))) rfl) (fun Z => ⟨_, rfl, Int.fmod_nonneg_of_pos _ h1, Int.fmod_lt_of_pos _ h1⟩) fun Z => bC (.tuple [.int c.t0, .int c.t1, .int c.h0, .int c.h1]) (eCutV (jK rfl (vIs (bo (cq rfl rfl (by decide)) (cU rfl) (by exact qY (by assumption))) rfl) (bR f4 f2.1 (dl f2.2 hc2))) rfl rfl rfl) rfl
      (bC (.int (v - x.fmod 3 + 1)) (vIs (fz (kP (jK rfl (vIs (bo (cq rfl rfl (by decide)) rfl (by decide)) rfl) ((if_pos ⟨f3.1, jo f3.2 (by decide)⟩).trans hv)) (vIs (bo rfl rfl (by decide)) rfl)) rfl) rfl) rfl
        (bP (.int (if 0 ≤ v - x.fmod 3 + 1 ∧ v - x.fmod 3 + 1 < size then v - x.fmod 3 + 1 else 0)) (ui ((xU rfl rfl rfl).trans (congrArg some (Bool.decide_and _ _).symm)) rfl rfl) ⟨_, rfl, ?_⟩))
    split
    · assumption
    · exact ⟨Int.le_refl 0, h1⟩)
  exact ⟨s, e, hs⟩
theorem hR {α β : Type} (f : α → β) (xs : List α) (c : Int) (h0 : 0 ≤ c) (h1 : c ≤ xs.length) : db none (some c) (xs.map f) = (xs.take c.toNat).map f := by
  unfold db
  have e : bz (xs.map f).length c = c.toNat := by
    unfold bz
    rw [if_neg (by (lia -abstractProof)), List.length_map]
    (lia -abstractProof)
  dsimp only
  rw [e, List.drop_zero, Nat.sub_zero, List.map_take]
theorem kA {α β : Type} (f : α → β) (xs : List α) (c : Int) (h0 : 0 ≤ c) (h1 : c ≤ xs.length) : db (some c) none (xs.map f) = (xs.drop c.toNat).map f := by
  unfold db
  have e : bz (xs.map f).length c = c.toNat := by
    unfold bz
    rw [if_neg (by lia), List.length_map]
    lia
  dsimp only
  rw [e, List.length_map, List.map_drop, List.take_of_length_le (by rw [List.length_drop, List.length_map]; exact Nat.le_refl _)]
theorem tab_of (l : List Int) {n : Nat} (h : l.length = n) : l = (List.range n).map fun i => l.getD i 0 := by
  subst h
  exact List.ext_getElem (by rw [List.length_map, List.length_range]) fun i h1 h2 => by rw [List.getElem_map, List.getElem_range, List.getD_eq_getElem?_getD, List.getElem?_eq_getElem h1]; rfl
theorem yD (c : Cl) (i : Nat) (v : Int) : ∃ c' : Cl, [PyData.int c.s, .int c.t0, .int c.t1, .int c.h0, .int c.h1, .int c.x].set i (.int v) = [PyData.int c'.s, .int c'.t0, .int c'.t1, .int c'.h0, .int c'.h1, .int c'.x] :=
  ⟨⟨_, _, _, _, _, _⟩, (List.map_set (f := PyData.int) (l := [c.s, c.t0, c.t1, c.h0, c.h1, c.x]) (i := i) (a := v)).symm.trans (congrArg (List.map PyData.int) (tab_of _ (n := 6) List.length_set))⟩
theorem qt (n : Nat) (cls : List Cl) (y : Int) (hc : 0 < cls.length) (hc2 : cls.length ≤ 100) : ∃ ts : List Cl, ts.length = cls.length ∧ (gN TT (n+1)).call 43 [.list (cls.map aL), .int y] = some (.list (ts.map aL)) := by
  have f2 : 0 ≤ y.fmod (cls.length : Int) ∧ y.fmod (cls.length : Int) < cls.length := ⟨Int.fmod_nonneg_of_pos _ (by exact icp (by assumption)), Int.fmod_lt_of_pos _ (by exact icp (by assumption))⟩
  have f4 := dR f2.1 f2.2
  generalize bO cls (y.fmod (cls.length : Int)) = c at f4
  generalize hz : y.fdiv (cls.length : Int) = z
  generalize hm : y.fmod (cls.length : Int) = m at f2 f4
  obtain ⟨_, e, ts, rfl, hs⟩ := xT (f := 43) (ds := [.list (cls.map aL), .int y]) n 3 (fun d => ∃ ts : List Cl, d = .list (ts.map aL) ∧ ts.length = cls.length) rfl rfl rfl (by
    have tail : ∀ c' : Cl, Run (gN TT n) [some (.val (.list (cls.map aL))), some (.val (.int y)), some (.val (.int m)), some (.own [PyData.int c'.s, .int c'.t0, .int c'.t1, .int c'.h0, .int c'.h1, .int c'.x]), some (.val (.int z))] [.ret (.bin .Add (.bin .Add (.cut (.v 0) (.k .none) (.v 2)) (.lst [(.bi .tuple [(.v 3)])])) (.cut (.v 0) (.bin .Add (.v 2) (.k (.int 1))) (.k .none)))] (ku fun r => ∃ ts : List Cl, r.1 = .list (ts.map aL) ∧ ts.length = cls.length) := fun c' => by
      refine bP (.list ((cls.take m.toNat ++ [c'] ++ cls.drop (m + 1).toNat).map aL)) ?_ ⟨_, rfl, ?_⟩
      · rw [List.map_append, List.map_append]
        exact jY (c5 (jY (c5 (eCutV rfl rfl (if_pos ⟨oa f2.1, dl f2.2 hc2⟩) (congrArg (fun l => some (PyData.list l)) (hR aL cls m f2.1 (Int.le_of_lt f2.2)))) rfl) rfl (by rw [List.length_map, List.length_take]; exact pg (k := 1) hc2 (by decide))) rfl) ((gb rfl (vIs (fz rfl rfl) rfl) (vS f2.1 f2.2 hc2).2.1 (vS f2.1 f2.2 hc2).2.2).trans (congrArg (fun l => some (PyData.list l)) (kA aL cls (m + 1) (vS f2.1 f2.2 hc2).1.1 f2.2))) (by rw [List.length_append, List.length_map, List.length_map, List.length_map, List.length_take, List.length_drop]; exact (tN f2.1 f2.2).symm ▸ yC hc2)
      · rw [List.length_append, List.length_append, List.length_take, List.length_drop]; exact tN f2.1 f2.2
    have u1 : 0 ≤ (z.fdiv 4).fmod 6 ∧ (z.fdiv 4).fmod 6 < 6 := ⟨Int.fmod_nonneg_of_pos _ (by decide), Int.fmod_lt_of_pos _ (by decide)⟩
    have u2 : 0 ≤ (z.fdiv 4).fmod 5 ∧ (z.fdiv 4).fmod 5 < 5 := ⟨Int.fmod_nonneg_of_pos _ (by decide), Int.fmod_lt_of_pos _ (by decide)⟩
    have u3 : 0 ≤ (z.fdiv 20).fmod 4 ∧ (z.fdiv 20).fmod 4 < 4 := ⟨Int.fmod_nonneg_of_pos _ (by decide), Int.fmod_lt_of_pos _ (by decide)⟩
    have u4 : 0 ≤ 1 + (z.fdiv 4).fmod 5 ∧ 1 + (z.fdiv 4).fmod 5 < 6 := ⟨Int.add_nonneg (by decide) u2.1, Int.add_lt_add_left u2.2 1⟩
    obtain ⟨d, hd⟩ := s0 0 1 2 4 3 7 ((z.fdiv 4).fmod 6).toNat (toNat_lt u1.1 u1.2)
    obtain ⟨d', hd'⟩ := qe (-2) (-1) 1 2 ((z.fdiv 20).fmod 4).toNat (toNat_lt u3.1 u3.2)
    obtain ⟨a, ha⟩ := s0 c.s c.t0 c.t1 c.h0 c.h1 c.x (1 + (z.fdiv 4).fmod 5).toNat (toNat_lt u4.1 u4.2)
    obtain ⟨c', hs⟩ := yD c (1 + (z.fdiv 4).fmod 5).toNat (a + d')
    refine bC (.int m) ((vIs (bo rfl (cU rfl) (by exact qY (by assumption))) rfl).trans (by rw [hm])) rfl (yH (d := aL c) (jK rfl rfl (bR f4 f2.1 (dl f2.2 hc2))) rfl rfl rfl (bC (.int z) ((vIs (cq rfl (cU rfl) (by exact qY (by assumption))) rfl).trans (by rw [hz])) rfl
      (sIf _ (cEq (bo rfl rfl (by decide)) rfl) (fun Z => ?_) fun Z => ?_)))
    · exact yG (d := .int d) (k := 0) rfl (ca rfl (vIs (bo (cq rfl rfl (by decide)) rfl (by decide)) rfl) ((if_pos ⟨u1.1, jo u1.2 (by decide)⟩).trans hd)) rfl rfl (by decide) (show (0 : Int) < 6 by decide) rfl (dS (tail ⟨d, c.t0, c.t1, c.h0, c.h1, c.x⟩))
    · refine sAug (a := a) (b := d') (k := 1 + (z.fdiv 4).fmod 5) rfl (vIs (fz rfl (vIs (bo (cq rfl rfl (by decide)) rfl (by decide)) rfl)) rfl) ((if_pos ⟨u4.1, jo u4.2 (by decide)⟩).trans ha) (ca rfl (vIs (bo (cq rfl rfl (by decide)) rfl (by decide)) rfl) ((if_pos ⟨u3.1, jo u3.2 (by decide)⟩).trans hd')) u4.1 u4.2 rfl (dS ?_)
      rw [hs]
      exact tail c')
  exact ⟨ts, hs, e⟩
end Mine
namespace Mine
open PySem
theorem iQ {α β : Type} (f : α → β) : ∀ (l : List α) (k : Nat), (l.map f).eraseIdx k = (l.eraseIdx k).map f
  | [], _ => rfl
  | a :: r, 0 => rfl
  | a :: r, k + 1 => by rw [List.map_cons, List.eraseIdx_cons_succ, List.eraseIdx_cons_succ, List.map_cons, iQ f r k]
noncomputable def dv : Nat → List Cl → Int → List Cl
  | 0, _, _ => []
  | m + 1, pool, y => clN pool (y.fmod pool.length).toNat :: dv m (pool.eraseIdx (y.fmod pool.length).toNat) (y.fdiv pool.length)
theorem v7 (p y) : dv 0 p y = [] := rfl
theorem orderL_c (m pool y) : dv (m + 1) pool y = clN pool (y.fmod pool.length).toNat :: dv m (pool.eraseIdx (y.fmod pool.length).toNat) (y.fdiv pool.length) := rfl
theorem sX (n : Nat) (cls : List Cl) (y : Int) (hc : cls.length ≤ 100) : (gN TT (n+1)).call 36 [.list (cls.map aL), .int y] = some (.list ((dv cls.length cls y).map aL)) := by
  generalize hres : dv cls.length cls y = res
  refine bA n 2 rfl rfl rfl (yH (d := .list (cls.map aL)) rfl rfl (bk sO cls) rfl (pp rfl (sWhile (fun m r => ∃ pool out y, pool.length = m ∧ r = [some (.val (.list (cls.map aL))), some (.val (.int y)), some (.own (pool.map aL)), some (.own (out.map aL))] ∧ out ++ dv m pool y = res ∧ out.length + m ≤ 100)
    cls.length ⟨cls, [], y, rfl, rfl, hres, by simpa using hc⟩ (by exact nlt (by assumption) (by decide)) (fun m r hI => ?_) (fun m r hI => ?_) fun r hI => ?_)))
  · obtain ⟨pool, out, y, rfl, rfl, h5, h6⟩ := hI
    exact (ac rfl rfl (fG (cS vY pool) rfl)).trans (by cases pool <;> rfl)
  · obtain ⟨pool, out, y, h1, rfl, h5, h6⟩ := hI
    have hp0 : (0 : Int) < pool.length := icp (h1 ▸ Nat.succ_pos m)
    have f2 : 0 ≤ y.fmod (pool.length : Int) := Int.fmod_nonneg_of_pos _ hp0
    have f3 : y.fmod (pool.length : Int) < pool.length := Int.fmod_lt_of_pos _ hp0
    have f1 := toNat_lt f2 f3
    have hp : yU (pool.map aL) (.int (y.fmod (pool.length : Int))) = some (aL (clN pool (y.fmod (pool.length : Int)).toNat), (pool.eraseIdx (y.fmod (pool.length : Int)).toNat).map aL) := by
      refine (if_pos ⟨f2, by rw [List.length_map]; exact f3⟩).trans ?_
      rw [List.getElem?_map, b9 f1, iQ]; rfl
    have hlen : (pool.eraseIdx (y.fmod (pool.length : Int)).toNat).length = m := by rw [List.length_eraseIdx_of_lt f1, h1]; rfl
    refine yJ rfl rfl (vIs (bo rfl (cU rfl) (ine hp0)) rfl) hp rfl (by rw [List.length_map]; exact nlt (Nat.le_trans (Nat.le_add_right ..) h6) (by decide)) rfl rfl (bC (.int (y.fdiv (pool.length : Int))) ((vIs (cq rfl (vIs (fz (dj rfl) rfl) rfl) (by lia)) rfl).trans (by rw [hlen, h1]; rfl)) rfl
      (fin (aO ⟨pool.eraseIdx (y.fmod (pool.length : Int)).toNat, out ++ [clN pool (y.fmod (pool.length : Int)).toNat], y.fdiv (pool.length : Int), hlen, ?_, ?_, ?_⟩)))
    · rw [List.map_append]; rfl
    · rw [List.append_assoc]; exact h5
    · rw [List.length_append]; show _ + 1 + _ ≤ _; rw [Nat.add_right_comm]; exact h6
  · obtain ⟨pool, out, y, h1, rfl, h5, h6⟩ := hI
    rw [v7] at h5
    rw [List.append_nil] at h5
    subst h5
    exact bP _ rfl rfl
noncomputable def pairsOf (cls : List Cl) : List Nat := (List.range (cls.length - 1)).filter fun k => cH (clN cls k) (clN cls (k + 1))
noncomputable def cw (cls : List Cl) (y : Int) : List Cl := match (pairsOf cls)[(y.fmod (pairsOf cls).length).toNat]? with
  | none => cls
  | some k => (cls.set k (clN cls (k + 1))).set (k + 1) (clN cls k)
theorem oR (n : Nat) (cls : List Cl) (y : Int) (hc : cls.length ≤ 100) : (gN TT (n+3)).call 37 [.list (cls.map aL), .int y] = some (.list ((cw cls y).map aL)) := by
  have hlen : ((cls.length : Int) - 1).toNat = cls.length - 1 := by lia
  have hmem : ∀ k ∈ pairsOf cls, k + 1 < cls.length := fun k m => by
    exact Nat.add_lt_of_lt_sub (List.mem_range.mp (List.mem_filter.mp m).1)
  have hpl : (pairsOf cls).length ≤ 100 := by
    have := List.length_filter_le (fun k => cH (clN cls k) (clN cls (k + 1))) (List.range (cls.length - 1))
    rw [List.length_range] at this
    exact Nat.le_trans this (Nat.le_trans (Nat.sub_le ..) hc)
  refine bA (n+2) 3 rfl rfl rfl (yH (d := .list (cls.map aL)) rfl rfl (bk sO cls) rfl (bC (.list ((pairsOf cls).map fun k : Nat => PyData.int k)) (eJ (enc := fun k : Nat => PyData.int k) (fun k => cH (clN cls k) (clN cls (k + 1))) (fun k : Nat => PyData.int k) (fW (ds := [.int ((cls.length : Int) - 1)]) (bg (vIs (kP (dj rfl) rfl) rfl) rfl) (by rw [rZ _ (by lia) (by lia), hlen])) fun k m => ?_) rfl
    (sIf (!((pairsOf cls).map fun k : Nat => PyData.int k).isEmpty) (ac rfl rfl (fG (cS (fun k : Nat => dA (k : Int) 2) _) rfl)) (fun h => ?_) fun h => dS (bP (.list (cls.map aL)) rfl ?_))))
  · have hk := Nat.add_lt_of_lt_sub (List.mem_range.mp m)
    exact ⟨_, rfl, dM (aP (aE (ca rfl rfl (kW (b9 (k := k) (Nat.lt_of_succ_lt hk)) hc)) rfl) (aP (aE (ca rfl (vIs (fz rfl rfl) rfl) (kW (k := k + 1) (b9 hk) hc)) rfl) rfl)) (mT _ _ _), fun Z => rfl, rfl⟩
  · have hne : pairsOf cls ≠ [] := fun e => by rw [e] at h; exact fT h
    have h0 : 0 < (pairsOf cls).length := List.length_pos_iff.mpr hne
    have f2 : 0 ≤ y.fmod ((pairsOf cls).length : Int) := Int.fmod_nonneg_of_pos _ (by exact icp (by assumption))
    have f3 : y.fmod ((pairsOf cls).length : Int) < (pairsOf cls).length := Int.fmod_lt_of_pos _ (by exact icp (by assumption))
    have f4 := List.getElem?_eq_getElem (l := pairsOf cls) (i := (y.fmod ((pairsOf cls).length : Int)).toNat) (toNat_lt f2 f3)
    have f5 := hmem _ (List.getElem_mem (l := pairsOf cls) (n := (y.fmod ((pairsOf cls).length : Int)).toNat) (toNat_lt f2 f3))
    generalize (pairsOf cls)[(y.fmod ((pairsOf cls).length : Int)).toNat] = k at f4 f5
    have e : cw cls y = (cls.set k (clN cls (k + 1))).set (k + 1) (clN cls k) := by unfold cw; rw [f4]
    have l4 : ((k : Int) + 1).toNat = k + 1 := rfl
    rw [e]
    refine bC (.int k) (ca rfl (vIs (bo rfl (cU rfl) (by exact qY (by assumption))) rfl) (bR (enc := fun k : Nat => PyData.int k) f4 f2 (dl f3 hpl))) rfl
      (yG (d := aL (clN cls (k + 1))) (k := (k : Int)) rfl (ca rfl (vIs (fz rfl rfl) rfl) (kW (k := k + 1) (b9 f5) hc)) rfl rfl (Int.natCast_nonneg k) (by rw [List.length_map]; exact Int.ofNat_lt.mpr (Nat.lt_of_succ_lt f5)) rfl
        (yG (d := aL (clN cls k)) (k := (k : Int) + 1) rfl (ca rfl rfl (kW (b9 (k := k) (Nat.lt_of_succ_lt f5)) hc)) rfl (vIs (fz rfl rfl) rfl) (by exact Int.natCast_nonneg _) (by rw [List.length_set, List.length_map]; exact Int.ofNat_lt.mpr f5) rfl (dS (bP _ rfl ?_))))
    show PyData.list (((cls.map aL).set (k : Int).toNat _).set ((k : Int) + 1).toNat _) = _
    rw [l4, Int.toNat_natCast, List.map_set, List.map_set]
  · have hne : pairsOf cls = [] := by simpa using h
    have e : cw cls y = cls := by unfold cw; rw [hne]; rfl
    rw [e]; rfl
end Mine
namespace Mine
open PySem
noncomputable def eqC (a b : Cl) : Bool := decide (a.s = b.s) && (decide (a.t0 = b.t0) && (decide (a.t1 = b.t1) && (decide (a.h0 = b.h0) && (decide (a.h1 = b.h1) && decide (a.x = b.x)))))
theorem zU (a b : Cl) : be .NotEq (aL a) (aL b) = some (!eqC a b) := by
  unfold be
  dsimp only
  rw [eu (vY a) (vY b) rfl rfl, if_pos rfl]
  unfold eqC
  simp only [PyData.eqv, PyData.eqvAll, Bool.and_true]
  rfl
noncomputable def mF (cls : List Cl) (c : Cl) : List Pr := (cls.filter fun d => !eqC d c && bE d c).map gE
noncomputable def jQ (cls : List Cl) (c : Cl) (e : Int) : Bool := ((mF cls c).filter fun h => decide (h.1 < e) && decide (e < h.2)).isEmpty
noncomputable def eI (cls : List Cl) (c : Cl) (low high : Int) : List Int := (List.range (high - (low + 1)).toNat).filterMap fun (k : Nat) => if jQ cls c (low + 1 + (k : Int)) then some (low + 1 + (k : Int)) else none
theorem yv (cls : List Cl) (c : Cl) (low high : Int) : ((List.range (high - (low + 1)).toNat).filter fun k : Nat => jQ cls c (low + 1 + (k : Int))).map (fun k : Nat => PyData.int (low + 1 + (k : Int))) = (eI cls c low high).map .int := by
  unfold eI
  rw [nB (fun k : Nat => low + 1 + (k : Int)) (fun k : Nat => jQ cls c (low + 1 + (k : Int))), List.map_map]; rfl
theorem oQ (n : Nat) (cls : List Cl) (k : Nat) (low high : Int) (hk : k < cls.length) (hc : cls.length ≤ 100) (h0 : 0 ≤ low) (h1 : low ≤ 90000) (h2 : 0 ≤ high) (h3 : high ≤ 90000) :
    (gN TT (n+4)).call 41 [.list (cls.map aL), .int k, .int low, .int high] = some (.list ((eI cls (clN cls k) low high).map .int)) := by
  have k3 := b9 hk
  generalize clN cls k = c at k3
  have hi : gT (.list (cls.map aL)) (.int (k : Int)) = some (aL c) := bR k3 (Int.natCast_nonneg k) (rJ hk hc)
  refine bA (n+3) 1 rfl rfl rfl (bC (.list ((mF cls c).map aZ)) ((eJ (enc := aL) (fun d => !eqC d c && bE d c) (fun d => aZ (gE d)) rfl fun d Z => ⟨_, rfl, rK (eQ _ _ (ac rfl (jK rfl rfl hi) (zU d c)) fun Z => dT (dM (aP rfl (aP (aE (ca rfl rfl hi) rfl) rfl)) (kY n d c))), fun Z => ab rfl (oP (n+1) d), rfl⟩).trans (by unfold mF; rw [List.map_map]; rfl)) rfl
    (bP (.list ((eI cls c low high).map .int)) ((eJ (enc := fun j : Nat => PyData.int (low + 1 + (j : Int))) (fun j => jQ cls c (low + 1 + (j : Int))) (fun j : Nat => PyData.int (low + 1 + (j : Int))) (fW (ds := [.int (low + 1), .int high]) rfl (rY _ _ (by lia) (by exact ilt (by assumption) (by decide)) (by exact ige (by assumption) (by decide)) (by exact ile (by assumption) (by decide)))) fun j Z =>
      ⟨_, rfl, (ac (c5 (eJ (enc := aZ) (xs := mF cls c) (fun h => decide (h.1 < low + 1 + (j : Int)) && decide (low + 1 + (j : Int) < h.2)) aZ rfl fun h Z => ⟨_, rfl, cLtLt rfl rfl rfl, fun Z => rfl, rfl⟩) rfl) rfl (fH (cS kq _) rfl)).trans (congrArg some List.isEmpty_map), fun Z => rfl, rfl⟩).trans (congrArg (fun l => some (PyData.list l)) (yv _ _ _ _))) rfl))
noncomputable def iC (x : Cl) (m k : Int) : Cl := ⟨x.s, x.t0, m, x.h0, k, x.x⟩
noncomputable def gF (x : Cl) (m k : Int) : Cl := ⟨if x.s = 1 then 0 else x.s, m, x.t1, k, x.h1, 0⟩
noncomputable def rF (cls r : List Cl) : Prop := r = cls ∨ ∃ c, c < cls.length ∧ ∃ m k, (cls.filter fun d => decide (d.t0 = (clN cls c).t0) && decide (d.t1 = (clN cls c).t1)).length ≤ 1 ∧ m ∈ eI cls (clN cls c) (clN cls c).t0 (clN cls c).t1 ∧ k ∈ eI cls (clN cls c) (clN cls c).h0 (clN cls c).h1 ∧
  r = cls.take c ++ [iC (clN cls c) m k, gF (clN cls c) m k] ++ cls.drop (c + 1)
noncomputable def Bnd (x : Cl) : Prop := 0 ≤ x.t0 ∧ x.t0 ≤ 90000 ∧ 0 ≤ x.t1 ∧ x.t1 ≤ 90000 ∧ 0 ≤ x.h0 ∧ x.h0 ≤ 90000 ∧ 0 ≤ x.h1 ∧ x.h1 ≤ 90000
theorem xS (n : Nat) (cls : List Cl) (y : Int) (hc0 : 0 < cls.length) (hc : cls.length ≤ 100) (hb : ∀ x ∈ cls, Bnd x) : ∃ r : List Cl, rF cls r ∧ (gN TT (n+5)).call 42 [.list (cls.map aL), .int y] = some (.list (r.map aL)) := by
  have f2 : 0 ≤ y.fmod (cls.length : Int) := Int.fmod_nonneg_of_pos _ (by exact icp (by assumption))
  have f3 : y.fmod (cls.length : Int) < cls.length := Int.fmod_lt_of_pos _ (by exact icp (by assumption))
  obtain ⟨c, hcc⟩ : ∃ c : Nat, y.fmod (cls.length : Int) = (c : Int) := ⟨_, (Int.toNat_of_nonneg f2).symm⟩
  have hcl : c < cls.length := Int.ofNat_lt.mp (hcc ▸ f3)
  have same : rF cls cls := .inl rfl
  have other : ∀ m k, (cls.filter fun d => decide (d.t0 = (clN cls c).t0) && decide (d.t1 = (clN cls c).t1)).length ≤ 1 → m ∈ eI cls (clN cls c) (clN cls c).t0 (clN cls c).t1 → k ∈ eI cls (clN cls c) (clN cls c).h0 (clN cls c).h1 → rF cls (cls.take c ++ [iC (clN cls c) m k, gF (clN cls c) m k] ++ cls.drop (c + 1)) :=
    fun m k h1 h2 h3 => .inr ⟨c, hcl, m, k, h1, h2, h3, rfl⟩
  have k3 := b9 hcl
  obtain ⟨b1, b2, b3, b4, b5, b6, b7, b8⟩ := hb _ (dJ hcl)
  have fr1 := oQ n cls c (clN cls c).t0 (clN cls c).t1 hcl hc b1 b2 b3 b4
  have fr2 := oQ n cls c (clN cls c).h0 (clN cls c).h1 hcl hc b5 b6 b7 b8
  have lenM : (eI cls (clN cls c) (clN cls c).t0 (clN cls c).t1).length ≤ 90000 := by
    refine Nat.le_trans (List.length_filterMap_le ..) ?_
    rw [List.length_range]; omega
  have lenE : (eI cls (clN cls c) (clN cls c).h0 (clN cls c).h1).length ≤ 90000 := by
    refine Nat.le_trans (List.length_filterMap_le ..) ?_
    rw [List.length_range]; omega
  clear b1 b2 b3 b4 b5 b6 b7 b8 hb
  generalize eI cls (clN cls c) (clN cls c).t0 (clN cls c).t1 = mids at fr1 other lenM
  generalize eI cls (clN cls c) (clN cls c).h0 (clN cls c).h1 = ends at fr2 other lenE
  generalize clN cls c = x at k3 fr1 fr2 other
  generalize rF cls = C at same other ⊢
  have whole : ∀ (g : G) (l : Row), E l 0 = some (.val (.list (cls.map aL))) → evI g (frz (E l)) (.bi .list [.v 0]) = some (.list (cls.map aL)) := fun g l e => eCopy (by unfold isV; rw [pk_v, wo, e]; rfl) (bk sO cls)
  obtain ⟨_, e, r, rfl, hr⟩ := xT (f := 42) (ds := [.list (cls.map aL), .int y]) (n+4) 13 (fun d => ∃ r : List Cl, d = .list (r.map aL) ∧ C r) rfl rfl rfl (by
    refine bC (.int (c : Int)) ((vIs (bo rfl (cU rfl) (by exact qY (by assumption))) rfl).trans (by rw [hcc])) rfl (pn (ds := [.int x.s, .int x.t0, .int x.t1, .int x.h0, .int x.h1, .int x.x]) _ (ca rfl rfl (bR k3 (Int.natCast_nonneg c) (rJ hcl hc))) rfl
      (aT (decide (((cls.filter fun d => decide (d.t0 = x.t0) && decide (d.t1 = x.t1)).length : Int) > 1)) _ (cGt (dj (enc := aL) (c5 (eJ (enc := aL) (fun d => decide (d.t0 = x.t0) && decide (d.t1 = x.t1)) aL rfl fun d Z => ⟨_, rfl, ac rfl rfl (pO _ _ _ _), fun Z => rfl, rfl⟩) rfl)) rfl) (whole _ _ rfl) (fun Z => ⟨_, rfl, same⟩) fun hz =>
        bC (.list (mids.map .int)) (ab rfl fr1) rfl (bC (.list (ends.map .int)) (ab rfl fr2) rfl (aT ((mids.map PyData.int).isEmpty || (ends.map PyData.int).isEmpty) _ (i4 _ _ (ac rfl rfl (fH (cS (fun a => dA a 2) mids) rfl)) fun Z => gH (ac rfl rfl (fH (cS (fun a => dA a 2) ends) rfl))) (whole _ _ rfl) (fun Z => ⟨_, rfl, same⟩) fun he => ?_))))
    have he := Bool.or_eq_false_iff.mp he
    have lm : 0 < mids.length := List.length_pos_iff.mpr fun q => by rw [q] at he; cases he.1
    have le : 0 < ends.length := List.length_pos_iff.mpr fun q => by rw [q] at he; cases he.2
    have pm : 0 ≤ (y.fdiv 7).fmod (mids.length : Int) := Int.fmod_nonneg_of_pos _ (by exact icp (by assumption))
    have pm2 : (y.fdiv 7).fmod (mids.length : Int) < mids.length := Int.fmod_lt_of_pos _ (by exact icp (by assumption))
    have pe : 0 ≤ (y.fdiv 49).fmod (ends.length : Int) := Int.fmod_nonneg_of_pos _ (by exact icp (by assumption))
    have pe2 : (y.fdiv 49).fmod (ends.length : Int) < ends.length := Int.fmod_lt_of_pos _ (by exact icp (by assumption))
    have gm := List.getElem?_eq_getElem (l := mids) (i := ((y.fdiv 7).fmod (mids.length : Int)).toNat) (toNat_lt pm pm2)
    have ge := List.getElem?_eq_getElem (l := ends) (i := ((y.fdiv 49).fmod (ends.length : Int)).toNat) (toNat_lt pe pe2)
    have mm := List.getElem_mem (l := mids) (n := ((y.fdiv 7).fmod (mids.length : Int)).toNat) (toNat_lt pm pm2)
    have me := List.getElem_mem (l := ends) (n := ((y.fdiv 49).fmod (ends.length : Int)).toNat) (toNat_lt pe pe2)
    generalize mids[((y.fdiv 7).fmod (mids.length : Int)).toNat] = m at gm mm
    generalize ends[((y.fdiv 49).fmod (ends.length : Int)).toNat] = k at ge me
    have fin := other m k (Nat.le_of_not_lt fun q => of_decide_eq_false hz (Int.ofNat_lt.mpr q)) mm me
    refine bC (.int m) (ca rfl (vIs (bo (cq rfl rfl (by decide)) (cU rfl) (by exact qY (by assumption))) rfl) (bR (enc := PyData.int) gm pm (sn pm2 lenM (by decide)))) rfl (bC (.int k) (ca rfl (vIs (bo (cq rfl rfl (by decide)) (cU rfl) (by exact qY (by assumption))) rfl) (bR (enc := PyData.int) ge pe (sn pe2 lenE (by decide)))) rfl
      (bC (.tuple [.int x.s, .int x.t0, .int m, .int x.h0, .int k, .int x.x]) rfl rfl (bC (.tuple [.int (if x.s = 1 then 0 else x.s), .int m, .int x.t1, .int k, .int x.h1, .int 0]) (zP (bg (ui (cEq rfl rfl) rfl rfl) rfl)) rfl (bP (.list ((cls.take c ++ [iC x m k, gF x m k] ++ cls.drop (c + 1)).map aL)) ?_ ⟨_, rfl, fin⟩))))
    rw [List.map_append, List.map_append]
    have e1 := hR aL cls (c : Int) (Int.natCast_nonneg c) (Int.le_of_lt (Int.ofNat_lt.mpr hcl))
    rw [Int.toNat_natCast] at e1
    exact jY (c5 (jY (c5 ((pN rfl rfl (oa (Int.natCast_nonneg c)) (rJ hcl hc)).trans (congrArg (fun l => some (PyData.list l)) e1)) rfl) rfl (by rw [List.length_map, List.length_take]; exact pg (k := 2) hc (by decide))) rfl) ((gb rfl (vIs (fz rfl rfl) rfl) (sm hcl hc).1 (sm hcl hc).2).trans (congrArg (fun l => some (PyData.list l)) (xJ aL cls c))) (by rw [List.length_append, List.length_map, List.length_map, List.length_map, List.length_take, List.length_drop]; exact yc 2 hcl hc (by decide)))
  exact ⟨r, hr, e⟩
end Mine
namespace Mine
open PySem
theorem zT {α : Type} {enc : α → D} (he : ∀ a b, (enc a).eqv (enc b) = true ↔ a = b) (hs : ∀ a, Sm 3 (enc a)) (xs ys : List α) (b : Bool) (hb : b = true ↔ xs = ys) : be .NotEq (.list (xs.map enc)) (.list (ys.map enc)) = some (!b) := by
  unfold be
  dsimp only
  rw [eu (cS hs xs) (cS hs ys) rfl rfl, if_pos rfl]
  congr 2
  rw [Bool.eq_iff_iff, PyData.eqv, pM he, hb]
theorem eqv_F (a b : Int) : (bd a).eqv (bd b) = true ↔ a = b := by
  rw [show bd a = aZ (8, a) from rfl, show bd b = aZ (8, b) from rfl, te]
  simp
theorem mP (xs ys : List Int) : be .NotEq (.list (xs.map bd)) (.list (ys.map bd)) = some (!decide (xs = ys)) := zT eqv_F (fun a => kq (8, a)) xs ys _ decide_eq_true_iff
theorem xP (xs ys : List Int) : be .Eq (.list (xs.map bd)) (.list (ys.map bd)) = some (decide (xs = ys)) := pP eqv_F (fun a => kq (8, a)) xs ys _ decide_eq_true_iff
noncomputable def gD (code : List Int) (k : Int) (m : Nat) : List Int := code.take k.toNat ++ List.replicate m 0 ++ code.drop k.toNat
theorem qk (cls : List Cl) (y : Int) : (cw cls y).length = cls.length := by
  unfold cw
  split
  · rfl
  · rw [List.length_set, List.length_set]
theorem gL (cls : List Cl) (y : Int) (size : Nat) : 0 ≤ bS cls y size ∧ bS cls y size ≤ size := by
  unfold bS
  have h1 : 0 ≤ y.fmod ((size : Int) + 1) := Int.fmod_nonneg_of_pos _ (Int.lt_add_one_of_le (Int.natCast_nonneg size))
  have h2 : y.fmod ((size : Int) + 1) < (size : Int) + 1 := Int.fmod_lt_of_pos _ (Int.lt_add_one_of_le (Int.natCast_nonneg size))
  split <;> constructor <;> omega
theorem vn (code : List Int) (cls : List Cl) : (aD code cls).length ≤ cls.length := by
  have h := bV code cls
  have := ls _ _ h.1 h.2
  rwa [List.length_map] at this
theorem mE (code : List Int) (k : Int) (m : Nat) (h0 : 0 ≤ k) (h1 : k ≤ code.length) : (gD code k m).length = code.length + m := by
  unfold gD
  rw [List.length_append, List.length_append, List.length_take, List.length_drop, List.length_replicate]; (lia -abstractProof)
theorem kD (n : Nat) (code : List Int) (ts : List Cl) (x y : Int) (hl : code.length ≤ 90000) (hc : ts.length ≤ 4)
    (hA : aD code ts = ig code ts) (hB : bU toF (aD code (cw ts x)) = bU toF (aD code ts))
    (hC : aD (gD code (bS ts y code.length) 2) (ts.map (bH (bS ts y code.length) 2)) = (aD code ts).map (fun t => aN t (bS ts y code.length) 2)) :
    (gN TT (n+6)).call 44 [.list (code.map cC), .list (ts.map aL), .int x, .int y] = some (.bool true) := by
  have hc2 : ts.length ≤ 100 := by exact nle (by assumption) (by decide)
  have el := qk ts x
  obtain ⟨s1, s2⟩ := gL ts y code.length
  have r1 := ao (n+1) code ts (by exact nle (by assumption) (by decide)) hc2
  have r2 := qw n code ts (by exact nle (by assumption) (by decide)) hc2
  have r3 := oR (n+2) ts x hc2
  have r4 := ao (n+1) code (cw ts x) (by exact nle (by assumption) (by decide)) (by rw [el]; exact hc2)
  have r5 := oO (n+4) ts y code.length
  have r6 := ao (n+1) (gD code (bS ts y code.length) 2) (ts.map (bH (bS ts y code.length) 2)) (by rw [mE _ _ _ s1 s2]; lia) (by rw [List.length_map]; assumption)
  have r7 := mU (n+3) ts (bS ts y code.length) 2 hc2
  have q1 := sv true (aD code ts) (Nat.le_trans (vn _ _) hc)
  have q2 := sv true (aD code (cw ts x)) (Nat.le_trans (vn _ _) (by lia))
  rw [← hA] at r2
  rw [hB] at q2
  rw [hC] at r6
  have e1 := hR cC code (bS ts y code.length) s1 (by assumption)
  have e2 := kA cC code (bS ts y code.length) s1 (by assumption)
  generalize bS ts y code.length = k at s1 s2 r5 r6 r7 e1 e2 hC
  generalize cw ts x = us at r3 r4 q2
  generalize aD code us = fu at r4 q2
  generalize aD code ts = fs at r1 r2 r6 q1 q2
  generalize bU toF fs = ss at q1 q2
  refine bA (n+5) 3 rfl rfl rfl (bC _ (ab rfl r1) rfl (aT (!decide (fs = fs)) _ (ac rfl (eR rfl r2) (mP _ _)) rfl (fun h => by rw [decide_eq_true rfl] at h; exact fT h) fun Z =>
    aT (!decide (ss = ss)) _ (ac (c5 (lM (c5 (ab (aP rfl (aP (aE (ab rfl r3) rfl) rfl)) r4) rfl) (congrArg (Option.map PyData.list) q2)) rfl) (c5 (lM rfl (congrArg (Option.map PyData.list) q1)) rfl) (mP _ _)) rfl (fun h => by rw [decide_eq_true rfl] at h; exact fT h) fun Z =>
      bC (.int k) (ab (aP rfl (aP rfl (aP (aE (cU rfl) rfl) rfl))) r5) rfl (bC (.list ((gD code k 2).map cC)) ?_ rfl (bP (.bool true) (eP (ac (eR (aP rfl (aP (aE (ab rfl r7) rfl) rfl)) r6)
        (c5 ((eJ (enc := bd) (fun Z => true) (fun t => bd (aN t k 2)) rfl fun t Z => ⟨_, rfl, rfl, fun Z => xB rfl (ab rfl (di _ t k 2)), rfl⟩).trans ?_) rfl) ((xP (fs.map fun t => aN t k 2) (fs.map fun t => aN t k 2)).trans (by rw [decide_eq_true rfl])))) rfl))))
  · unfold gD
    rw [List.map_append, List.map_append]
    exact jY (c5 (jY (c5 ((pN rfl rfl (lC (by exact ige (by assumption) (by decide))) (c8 (by lia))).trans (congrArg (fun l => some (PyData.list l)) e1)) rfl) rfl (by rw [List.length_map, List.length_take]; show _ + 2 ≤ _; unfold aF; lia)) rfl) ((gb rfl rfl (lC (by exact ige (by assumption) (by decide))) (c8 (by lia))).trans (congrArg (fun l => some (PyData.list l)) e2)) (by rw [List.length_append, List.length_map, List.length_map, List.length_map, List.length_take, List.length_drop]; show _ + 2 + _ ≤ _; unfold aF; lia)
  · rw [List.filter_eq_self.mpr fun Z Z => rfl, List.map_map]; rfl
end Mine
namespace Mine
open PySem
noncomputable def Ap (ps qs : List Pr) : Prop := ∀ p ∈ ps, ∀ q ∈ qs, p.2 ≤ q.1 ∨ q.2 ≤ p.1
theorem u5 {a b : Pr} : iu a b = true ↔ a.2 ≤ b.1 ∨ b.2 ≤ a.1 := by unfold iu; simp
theorem sH {a b : Pr} : cr a b = true ↔ b.1 ≤ a.1 ∧ a.2 ≤ b.2 := by unfold cr; simp
theorem fj {ps qs : List Pr} : bl ps qs = true ↔ Ap ps qs := by
  unfold bl Ap
  simp only [List.all_eq_true, u5]
theorem nJ {ps qs : List Pr} : allInside ps qs = true ↔ ∃ q ∈ qs, ∀ p ∈ ps, q.1 ≤ p.1 ∧ p.2 ≤ q.2 := by
  unfold allInside
  simp only [List.any_eq_true, List.all_eq_true, sH]
theorem Ap.symm {ps qs : List Pr} (h : Ap ps qs) : Ap qs ps := fun p m q m' => (h q m' p m).symm
noncomputable def Wi (lo hi : Int) (c : Cl) : Prop := ∀ p ∈ aM c, lo ≤ p.1 ∧ p.2 ≤ hi
noncomputable def NE (c : Cl) : Prop := ∀ p ∈ aM c, p.1 < p.2
noncomputable def rD (c : Cl) : Prop := Ap [(c.t0, c.t1)] (aI c)
theorem am (c : Cl) : (c.t0, c.t1) ∈ aM c := by rw [bX]; exact .head _
theorem bK (c : Cl) : (c.h0, c.h1) ∈ aI c := by unfold aI; split <;> simp
theorem lT {c : Cl} {p : Pr} (h : p ∈ aI c) : p ∈ aM c := by rw [bX]; exact .tail _ h
theorem bQ (c : Cl) : (c.h0, c.h1) ∈ aM c := lT (bK c)
theorem dF {code : List Int} {f0 h0 : Int} : ay code f0 h0 = true ↔ 0 ≤ f0 ∧ f0 < h0 ∧ ∀ i, f0 ≤ i → i < h0 → (code.getD i.toNat 0 = 65041 ↔ i = h0 - 1) := by
  unfold ay
  rw [Bool.and_eq_true, List.all_eq_true]
  constructor
  · rintro ⟨h1, h2⟩
    have h1 : ¬ (f0 < 0 ∨ h0 ≤ f0) := by simpa using h1
    refine ⟨by (lia -abstractProof), by (lia -abstractProof), fun i hi hi2 => ?_⟩
    have := h2 (i - f0).toNat (List.mem_range.mpr (by (lia -abstractProof)))
    have e : f0 + ((i - f0).toNat : Int) = i := by (lia -abstractProof)
    rw [e] at this
    have := beq_iff_eq.mp this
    rw [Bool.eq_iff_iff, decide_eq_true_iff, decide_eq_true_iff] at this
    exact this
  · rintro ⟨h1, h2, h3⟩
    refine ⟨by simp; (lia -abstractProof), fun k hk => ?_⟩
    have hk := List.mem_range.mp hk
    rw [beq_iff_eq, Bool.eq_iff_iff, decide_eq_true_iff, decide_eq_true_iff]
    exact h3 _ (by (lia -abstractProof)) (by (lia -abstractProof))
structure RightP (code : List Int) (c : Cl) : Prop where
  sort : c.s = 0 ∨ c.s = 1 ∨ c.s = 2 ∨ c.s = 4
  t : 0 ≤ c.t0 ∧ c.t0 < c.t1 ∧ c.t1 ≤ code.length
  h : 0 ≤ c.h0 ∧ c.h0 < c.h1 ∧ c.h1 ≤ code.length
  f : c.s = 1 → ay code c.x c.h0 = true
  self : rD c
theorem ef {code : List Int} {c : Cl} : aH code c = true ↔ RightP code c := by
  rw [kz]
  simp only [Bool.and_eq_true, Bool.or_eq_true, Bool.not_eq_true', Bool.or_eq_false_iff, decide_eq_true_iff, decide_eq_false_iff_not, fj, Bool.and_eq_false_iff, Bool.not_eq_false']
  constructor
  · rintro ⟨⟨⟨⟨h1, ⟨h2, h3⟩, h4⟩, ⟨h5, h6⟩, h7⟩, h8⟩, h9⟩
    exact ⟨by (lia -abstractProof), by (lia -abstractProof), by (lia -abstractProof), fun e => h8.elim (fun q => absurd e q) id, h9⟩
  · rintro ⟨h1, h2, h3, h4, h5⟩
    refine ⟨⟨⟨⟨by (lia -abstractProof), ⟨by (lia -abstractProof), by (lia -abstractProof)⟩, by (lia -abstractProof)⟩, ⟨by (lia -abstractProof), by (lia -abstractProof)⟩, by (lia -abstractProof)⟩, ?_⟩, h5⟩
    by_cases e : c.s = 1
    · exact .inr (h4 e)
    · exact .inl e
theorem RightP.ne {code : List Int} {c : Cl} (h : RightP code c) : NE c := by
  intro p m
  unfold aM at m
  split at m
  · rename_i e
    have := (dF.mp (h.f e))
    have h1 := h.t
    have h2 := h.h
    simp only [List.mem_cons, List.not_mem_nil, or_false] at m
    rcases m with rfl | rfl | rfl <;> dsimp only <;> omega
  · have h1 := h.t
    have h2 := h.h
    simp only [List.mem_cons, List.not_mem_nil, or_false] at m
    rcases m with rfl | rfl <;> dsimp only <;> omega
theorem wm {code more : List Int} {i : Nat} (h : i < code.length) : (code ++ more).getD i 0 = code.getD i 0 := by
  simp only [List.getD, List.getElem?_append_left h]
theorem RightP.grow {code : List Int} {c : Cl} (h : RightP code c) (more : List Int) : RightP (code ++ more) c := by
  have h1 := h.t
  have h2 := h.h
  have hl : (code ++ more).length = code.length + more.length := List.length_append
  refine ⟨h.sort, by rw [hl]; (lia -abstractProof), by rw [hl]; (lia -abstractProof), fun e => ?_, h.self⟩
  obtain ⟨f1, f2, f3⟩ := dF.mp (h.f e)
  refine dF.mpr ⟨f1, f2, fun i hi hi2 => ?_⟩
  rw [wm (by (lia -abstractProof))]
  exact f3 i hi hi2
noncomputable def af (a b : Cl) : Prop := if a.t0 = b.t0 ∧ a.t1 = b.t1 then bc a = false ∧ bc b = false ∧ Ap (aI a) (aI b) else Ap (aM a) (aM b) ∨ Wi b.t0 b.t1 a ∨ Wi b.h0 b.h1 a
theorem du {a b : Cl} : aJ a b = true ↔ af a b := by
  rw [m4]
  unfold af
  split
  · simp only [Bool.and_eq_true, Bool.not_eq_true', fj]
  · simp only [Bool.or_eq_true, fj, nJ]
    refine or_congr Iff.rfl ?_
    simp only [List.mem_cons, List.not_mem_nil, or_false, exists_eq_or_imp, exists_eq_left]
    exact Iff.rfl
theorem al {a b c d i : Int} (h : b ≤ c ∨ d ≤ a) (h1 : a ≤ i) (h2 : i < b) (h3 : c ≤ i) (h4 : i < d) : False := h.elim (fun h => Int.lt_irrefl i (Int.lt_of_lt_of_le h2 (Int.le_trans h h3))) fun h => Int.lt_irrefl i (Int.lt_of_lt_of_le h4 (Int.le_trans h h1))
theorem ai {a b : Cl} (na : NE a) (h : Ap (aM a) (aM b)) : af a b := by
  unfold af
  rw [if_neg]
  · exact .inl h
  · rintro ⟨e1, e2⟩
    have n := na _ (am a)
    exact al (i := a.t0) (h _ (am a) _ (am b)) (Int.le_refl _) n (Int.le_of_eq e1.symm) (e2 ▸ n)
theorem pZ {lo mid mid' hi : Int} {a b : Cl} (h1 : Wi lo mid a) (h2 : Wi mid' hi b) (h : mid ≤ mid') : Ap (aM a) (aM b) := fun p m q m' => .inl (Int.le_trans (h1 p m).2 (Int.le_trans h (h2 q m').1))
theorem Wi.wide {lo hi lo' hi' : Int} {c : Cl} (h : Wi lo hi c) (h1 : lo' ≤ lo) (h2 : hi ≤ hi') : Wi lo' hi' c := fun p m => ⟨Int.le_trans h1 (h p m).1, Int.le_trans (h p m).2 h2⟩
theorem gP {a b : Cl} (na : NE a) (sa : rD a) (h : Wi b.t0 b.t1 a) : af a b := by
  unfold af
  rw [if_neg]
  · exact .inr (.inl h)
  · rintro ⟨e1, e2⟩
    have h1 := h _ (bQ a)
    have h3 := na _ (bQ a)
    exact al (i := a.h0) (sa (a.t0, a.t1) (.head _) _ (bK a)) (e1 ▸ h1.1) (e2 ▸ Int.lt_of_lt_of_le h3 h1.2) (Int.le_refl _) h3
theorem ej {a b : Cl} (na : NE a) (nb : NE b) (sb : rD b) (h : Wi b.h0 b.h1 a) : af a b := by
  unfold af
  rw [if_neg]
  · exact .inr (.inr h)
  · rintro ⟨e1, e2⟩
    have h1 := h _ (am a)
    have h3 := na _ (am a)
    exact al (i := a.t0) (sb (b.t0, b.t1) (.head _) _ (bK b)) (Int.le_of_eq e1.symm) (e2 ▸ h3) h1.1 (Int.lt_of_lt_of_le h3 h1.2)
structure Seg (code : List Int) (lo hi : Int) (N : List Cl) : Prop where
  right : ∀ c ∈ N, RightP code c
  pair : N.Pairwise af
  wi : ∀ c ∈ N, Wi lo hi c
theorem Seg.nil {code : List Int} {lo hi : Int} : Seg code lo hi [] := ⟨fun Z m => (nomatch m), List.Pairwise.nil, fun Z m => (nomatch m)⟩
theorem Seg.grow {code : List Int} {lo hi lo' hi' : Int} {N : List Cl} (h : Seg code lo hi N) (more : List Int) (h1 : lo' ≤ lo) (h2 : hi ≤ hi') : Seg (code ++ more) lo' hi' N :=
  ⟨fun c m => (h.right c m).grow more, h.pair, fun c m => (h.wi c m).wide h1 h2⟩
theorem Seg.append {code : List Int} {lo mid mid' hi : Int} {N M : List Cl} (h : Seg code lo mid N) (h' : Seg code mid' hi M) (h1 : lo ≤ mid') (h2 : mid ≤ hi) (h3 : mid ≤ mid') : Seg code lo hi (N ++ M) := by
  refine ⟨fun c m => ?_, ?_, fun c m => ?_⟩
  · rcases List.mem_append.mp m with m | m
    · exact h.right c m
    · exact h'.right c m
  · refine List.pairwise_append.mpr ⟨h.pair, h'.pair, fun a ma b mb => ?_⟩
    exact ai (h.right a ma).ne (pZ (h.wi a ma) (h'.wi b mb) h3)
  · rcases List.mem_append.mp m with m | m
    · exact (h.wi c m).wide (Int.le_refl _) h2
    · exact (h'.wi c m).wide h1 (Int.le_refl _)
structure Trying (code : List Int) (t0 t1 cur : Int) (M : List Cl) : Prop where
  right : ∀ c ∈ M, RightP code c
  pair : M.Pairwise af
  pos : ∀ c ∈ M, Wi t0 t1 c ∨ Wi t1 cur c ∨ (c.t0 = t0 ∧ c.t1 = t1 ∧ bc c = false ∧ ∀ p ∈ aI c, t1 ≤ p.1 ∧ p.2 ≤ cur)
theorem Trying.grow {code : List Int} {t0 t1 cur cur' : Int} {M : List Cl} (h : Trying code t0 t1 cur M) (more : List Int) (h2 : cur ≤ cur') : Trying (code ++ more) t0 t1 cur' M :=
  ⟨fun c m => (h.right c m).grow more, h.pair, fun c m => by
    rcases h.pos c m with q | q | q
    · exact .inl q
    · exact .inr (.inl (q.wide (Int.le_refl _) h2))
    · exact .inr (.inr ⟨q.1, q.2.1, q.2.2.1, fun p mp => ⟨(q.2.2.2 p mp).1, Int.le_trans (q.2.2.2 p mp).2 h2⟩⟩)⟩
theorem Trying.start {code : List Int} {t0 t1 : Int} {N : List Cl} (h : Seg code t0 t1 N) : Trying code t0 t1 t1 N := ⟨h.right, h.pair, fun c m => .inl (h.wi c m)⟩
theorem Trying.taker {code : List Int} {t0 t1 cur : Int} {M N : List Cl} {c : Cl} (h : Trying code t0 t1 cur M) (ht : t0 < t1) (hcur : t1 ≤ cur) (hN : Seg code c.h0 c.h1 N) (hc : RightP code c) (e0 : c.t0 = t0) (e1 : c.t1 = t1) (hh : cur ≤ c.h0)
    (htl : ∀ p ∈ aI c, cur ≤ p.1 ∧ p.2 ≤ c.h1) (hal : (∀ d ∈ M, Wi t0 t1 d) ∨ bc c = false) : (M ++ N ++ [c]).Pairwise af ∧ (∀ d ∈ M ++ N ++ [c], RightP code d) ∧ (∀ d ∈ M ++ N ++ [c], Wi t0 c.h1 d) ∧ (bc c = false → Trying code t0 t1 c.h1 (M ++ N ++ [c])) := by
  have hh1 := hc.h
  have k0 : t0 ≤ cur := Int.le_trans (Int.le_of_lt ht) hcur
  have k2 : cur ≤ c.h1 := Int.le_trans hh (Int.le_of_lt hh1.2.1)
  have k1 : t1 ≤ c.h1 := Int.le_trans hcur k2
  have wc : Wi t0 c.h1 c := fun p m => by
    rw [bX] at m
    rcases List.mem_cons.mp m with rfl | m
    · exact ⟨Int.le_of_eq e0.symm, e1 ▸ k1⟩
    · exact ⟨Int.le_trans k0 (htl p m).1, (htl p m).2⟩
  have wM : ∀ d ∈ M, Wi t0 cur d := fun d md => by
    rcases h.pos d md with q | q | q
    · exact q.wide (Int.le_refl _) (by assumption)
    · exact q.wide (by exact Int.le_of_lt (by assumption)) (Int.le_refl _)
    · intro p m
      rw [bX] at m
      rcases List.mem_cons.mp m with rfl | m
      · exact ⟨Int.le_of_eq q.1.symm, q.2.1 ▸ hcur⟩
      · exact ⟨Int.le_trans (Int.le_of_lt ht) (q.2.2.2 p m).1, (q.2.2.2 p m).2⟩
  have pairs : (M ++ N ++ [c]).Pairwise af := by
    refine List.pairwise_append.mpr ⟨List.pairwise_append.mpr ⟨h.pair, hN.pair, fun a ma b mb => ?_⟩, List.pairwise_singleton _ _, fun a ma b mb => ?_⟩
    · exact ai (h.right a ma).ne (pZ (wM a ma) (hN.wi b mb) hh)
    · cases List.mem_singleton.mp mb
      rcases List.mem_append.mp ma with ma | ma
      · have na := (h.right a ma).ne
        rcases h.pos a ma with q | q | q
        · exact gP na (h.right a ma).self (by rw [e0, e1]; exact q)
        · refine ai na fun p mp r mr => ?_
          have hp := q p mp
          rw [bX] at mr
          rcases List.mem_cons.mp mr with rfl | mr
          · exact .inr (e1 ▸ hp.1)
          · exact .inl (Int.le_trans hp.2 (htl r mr).1)
        · have hca : bc c = false := by
            rcases hal with hal | hal
            · exact absurd (hal a ma _ (bQ a)) (fun z => Int.lt_irrefl _ (Int.lt_of_lt_of_le (na _ (bQ a)) (Int.le_trans z.2 (q.2.2.2 _ (bK a)).1)))
            · exact hal
          unfold af
          rw [if_pos ⟨q.1.trans e0.symm, q.2.1.trans e1.symm⟩]
          refine ⟨q.2.2.1, hca, fun p mp r mr => .inl ?_⟩
          exact Int.le_trans (q.2.2.2 p mp).2 (htl r mr).1
      · exact ej (hN.right a ma).ne hc.ne hc.self (hN.wi a ma)
  have rights : ∀ d ∈ M ++ N ++ [c], RightP code d := fun d md => by
    rcases List.mem_append.mp md with md | md
    · rcases List.mem_append.mp md with md | md
      · exact h.right d md
      · exact hN.right d md
    · cases List.mem_singleton.mp md; exact hc
  refine ⟨pairs, rights, fun d md => ?_, fun hca => ⟨rights, pairs, fun d md => ?_⟩⟩
  · rcases List.mem_append.mp md with md | md
    · rcases List.mem_append.mp md with md | md
      · exact (wM d md).wide (Int.le_refl _) k2
      · exact (hN.wi d md).wide (Int.le_trans k0 hh) (Int.le_refl _)
    · cases List.mem_singleton.mp md; exact wc
  · rcases List.mem_append.mp md with md | md
    · rcases List.mem_append.mp md with md | md
      · rcases h.pos d md with q | q | q
        · exact .inl q
        · exact .inr (.inl (q.wide (Int.le_refl _) k2))
        · exact .inr (.inr ⟨q.1, q.2.1, q.2.2.1, fun p mp => ⟨(q.2.2.2 p mp).1, Int.le_trans (q.2.2.2 p mp).2 k2⟩⟩)
      · exact .inr (.inl ((hN.wi d md).wide (Int.le_trans hcur hh) (Int.le_refl _)))
    · cases List.mem_singleton.mp md
      exact .inr (.inr ⟨e0, e1, hca, fun p mp => ⟨Int.le_trans hcur (htl p mp).1, (htl p mp).2⟩⟩)
end Mine
namespace Mine
open PySem
structure WS where
  t : List Int
  pos : Int
  ops : List Int
  cls : List Cl
  left : Int
noncomputable abbrev cx (w : WS) : LV := .dct [(0, .val (.list (w.t.map .int))), (1, .val (.int w.pos)), (2, .own (w.ops.map .int)), (3, .own (w.cls.map aL)), (4, .val (.int w.left))]
theorem tV (n : Nat) (w : WS) (h0 : 0 ≤ w.pos) (ht : w.t.length ≤ 1000) : ∃ x, (gN TT (n+1)).io 22 (cx w) [] = some (.int x, cx { w with pos := w.pos + 1 }) := by
  obtain ⟨t, k, ops, cls, left⟩ := w
  dsimp only at h0 ht ⊢
  by_cases h : k + 1 ≤ t.length
  · have e := List.getElem?_eq_getElem (l := t) (i := k.toNat) (toNat_lt h0 h)
    generalize t[k.toNat] = x at e
    obtain ⟨lv, e1, rfl⟩ := ioE (f := 22) (ds := []) (lv := cx ⟨t, k, ops, cls, left⟩) (d := .int x) (P := fun lv => lv = cx ⟨t, k + 1, ops, cls, left⟩) n 0 rfl rfl rfl (by
      refine nZ rfl rfl rfl rfl rfl (aT (decide (k + 1 ≤ (t.length : Int))) (.int x) (cLe rfl (dj (enc := PyData.int) rfl)) (ca rfl (vIs (kP rfl rfl) rfl) ((congrArg (fun i => gT (.list (t.map .int)) (.int i)) (Int.add_sub_cancel k 1)).trans (bR (enc := PyData.int) e h0 (sn h ht (by decide))))) (fun Z => ⟨rfl, _, rfl, rfl⟩) fun q => absurd h (of_decide_eq_false q)))
    exact ⟨x, e1⟩
  · obtain ⟨lv, e1, rfl⟩ := ioE (f := 22) (ds := []) (lv := cx ⟨t, k, ops, cls, left⟩) (d := .int (k + 1)) (P := fun lv => lv = cx ⟨t, k + 1, ops, cls, left⟩) n 0 rfl rfl rfl (by
      refine nZ rfl rfl rfl rfl rfl (sIf (decide (k + 1 ≤ (t.length : Int))) (cLe rfl (dj (enc := PyData.int) rfl)) (fun q => absurd (of_decide_eq_true q) h) fun q => dS (bP _ rfl ⟨rfl, _, rfl, rfl⟩)))
    exact ⟨k + 1, e1⟩
structure BR (B : Nat) (w w' : WS) : Prop where
  t : w'.t = w.t
  pos : 0 ≤ w'.pos
  left : 0 ≤ w'.left
  ex : ∃ os N, w'.ops = w.ops ++ os ∧ w'.cls = w.cls ++ N ∧ os.length ≤ B ∧ (N.length : Int) + w'.left = w.left ∧ Seg w'.ops w.ops.length w'.ops.length N
theorem BR.trans {A B : Nat} {w w1 w2 : WS} (h : BR A w w1) (h' : BR B w1 w2) : BR (A + B) w w2 := by
  obtain ⟨a1, a2, a3, os, N, e1, e2, e3, e4, e5⟩ := h
  obtain ⟨b1, b2, b3, os', N', f1, f2, f3, f4, f5⟩ := h'
  refine ⟨b1.trans a1, b2, b3, os ++ os', N ++ N', by rw [f1, e1, List.append_assoc], by rw [f2, e2, List.append_assoc], by rw [List.length_append]; (lia -abstractProof), by rw [List.length_append]; (lia -abstractProof), ?_⟩
  have l1 : w1.ops.length = w.ops.length + os.length := by rw [e1, List.length_append]
  have l2 : w2.ops.length = w1.ops.length + os'.length := by rw [f1, List.length_append]
  refine Seg.append (mid := w1.ops.length) (mid' := w1.ops.length) ?_ f5 (by (lia -abstractProof)) (by (lia -abstractProof)) (by exact Int.le_refl _)
  rw [f1]
  exact e5.grow os' (Int.le_refl _) (Int.le_refl _)
theorem BR.add {w : WS} (os : List Int) (k : Int) (hk : 0 ≤ k) (hl : 0 ≤ w.left) : BR os.length w { w with ops := w.ops ++ os, pos := k } :=
  ⟨rfl, hk, hl, os, [], rfl, (List.append_nil _).symm, Nat.le_refl _, by simp, Seg.nil⟩
theorem BR.wide {A B : Nat} {w w' : WS} (h : BR A w w') (k : A ≤ B) : BR B w w' := by
  obtain ⟨a1, a2, a3, os, N, e1, e2, e3, e4, e5⟩ := h
  exact ⟨a1, a2, a3, os, N, e1, e2, by exact Nat.le_trans (by assumption) (by assumption), e4, e5⟩
theorem BR.len {B : Nat} {w w' : WS} (h : BR B w w') : w.ops.length ≤ w'.ops.length ∧ w'.ops.length ≤ w.ops.length + B ∧ (w'.cls.length : Int) + w'.left = w.cls.length + w.left ∧ w.cls.length ≤ w'.cls.length := by
  obtain ⟨a1, a2, a3, os, N, e1, e2, e3, e4, e5⟩ := h
  rw [e1, e2, List.length_append, List.length_append]
  (lia -abstractProof)
structure WOk (B : Nat) (w : WS) : Prop where
  pos : 0 ≤ w.pos
  t : w.t.length ≤ 1000
  left : 0 ≤ w.left
  cl : (w.cls.length : Int) + w.left ≤ 100
  ops : w.ops.length + B ≤ 500000
theorem WOk.after {A B C : Nat} {w w' : WS} (h : WOk A w) (r : BR B w w') (k : B + C ≤ A) : WOk C w' := by
  have l := r.len
  have h1 := h.ops
  have h2 := h.cl
  exact ⟨r.pos, by rw [r.t]; exact h.t, r.left, by (lia -abstractProof), by (lia -abstractProof)⟩
noncomputable def dc (m : Nat) (d : Int) (B : Nat) : Prop := ∀ w, WOk B w → ∃ w', (gN TT m).io 23 (cx w) [.int d] = some (.none, cx w') ∧ BR B w w' ∧ w.ops.length < w'.ops.length
noncomputable def jf (m : Nat) (d : Int) (B : Nat) : Prop := ∀ w, WOk B w → 0 < w.left → ∃ w', (gN TT m).io 24 (cx w) [.int d] = some (.none, cx w') ∧ BR B w w' ∧ w.ops.length < w'.ops.length ∧ w.cls.length < w'.cls.length
theorem qf (x : Int) : x.fmod 2 = 0 ∨ x.fmod 2 = 1 := by
  have h1 : 0 ≤ x.fmod 2 := Int.fmod_nonneg_of_pos _ (by decide)
  have h2 : x.fmod 2 < 2 := Int.fmod_lt_of_pos _ (by decide)
  omega
theorem fmB (x : Int) : (x.fmod 2).toNat ≤ 1 ∧ -1000 ≤ x.fmod 2 ∧ x.fmod 2 ≤ 1000 := by rcases qf x with h | h <;> rw [h] <;> decide
theorem fmC (x : Int) : (1 + x.fmod 2).toNat ≤ 2 ∧ -1000 ≤ 1 + x.fmod 2 ∧ 1 + x.fmod 2 ≤ 1000 := by rcases qf x with h | h <;> rw [h] <;> decide
end Mine
namespace Mine
open PySem
section
variable {g : G} {ρ : Rho} {l : Row} {r : List IS} {Q : Fl × Rho → Prop}
theorem tInt {e : IE} {i : Int} (h : evI g ρ e = some (.int i)) (hp : evT g ρ (evI g ρ e) e = ((evI g ρ e).map (·, false)).bind fun x => c7 x.1) : evT g ρ (evI g ρ e) e = some (i != 0) := by rw [hp, h]; rfl
theorem xC {x m : IE} {d : D} {k : Int} (h : evI g ρ x = some d) (h' : evI g ρ m = some (.int k)) (h0 : -1000 ≤ k) (h1 : k ≤ 1000) : evI g ρ (.rep x m) = some (.list (List.replicate k.toNat d)) := by
  rw [zC, h, Option.bind_some, h']; exact if_pos ⟨h1, h0⟩
end
noncomputable abbrev RB (w0 w : WS) (d x : Int) : Row := [some (cx w), some (.val (.int d)), some (.val (.int x)), some (.val (.int w0.ops.length))]
theorem nL {n BT A Cc : Nat} {d x lim : Int} {w w1 : WS} {t : IE} {r : List IS} {Q : Fl × Rho → Prop} (b : Bool) (hT : d < 3 → jf (n+1) d BT) (W : WOk Cc w) (hA : A + BT ≤ Cc) (hl : lim ≤ 3) (hbr : BR A w w1)
    (ht : evT (gN TT (n+1)) (E (RB w w1 d x)) (evI (gN TT (n+1)) (E (RB w w1 d x)) t) t = some (b && (decide (d < lim) && decide (w1.left > 0))))
    (k : ∀ w2, BR (A + BT) w w2 → Run (gN TT (n+1)) (RB w w2 d x) r Q) : Run (gN TT (n+1)) (RB w w1 d x) (.ite t [.io (.io 24 0 [.v 1])] [] :: r) Q := by
  refine sIf _ ht (fun h => ?_) fun h => dS (k w1 (hbr.wide (Nat.le_add_right ..)))
  simp only [Bool.and_eq_true, decide_eq_true_eq] at h
  refine iK (hT (by lia) w1 (W.after hbr hA) h.2.2) fun w2 e b2 Z Z => ?_
  exact sIo rfl rfl e rfl rfl (dS (k w2 (hbr.trans b2)))
theorem oM {g : G} {w w1 : WS} {d x : Int} {e : IE} {r : List IS} {Q : Fl × Rho → Prop} (os : List Int) (he : evI g (E (RB w w1 d x)) e = some (.list ((w1.ops ++ os).map .int))) (k : Run g (RB w { w1 with ops := w1.ops ++ os } d x) r Q) : Run g (RB w w1 d x) (.catK 0 2 e :: r) Q :=
  ve rfl he (bk sM _) rfl rfl k
theorem se {n : Nat} {d : Int} {BT : Nat} (hT : d < 3 → jf (n + 1) d BT) : dc (n + 2) d (2 * BT + 4) := by
  intro w W
  obtain ⟨x, hx⟩ := tV n w W.pos W.t
  have hl := W.ops
  have hp := W.pos
  obtain ⟨lv', e, w', rfl, h⟩ := ioE (f := 23) (ds := [.int d]) (lv := cx w) (d := .none) (P := fun lv => ∃ w', lv = cx w' ∧ BR (2 * BT + 4) w w' ∧ w.ops.length < w'.ops.length) (n + 1) 2 rfl rfl rfl (by
    have rest : ∀ w1, BR (2 + BT) w w1 → Run (gN TT (n+1)) (RB w w1 d x) b23_7 (ku fun r => r.1 = .none ∧ ∃ lv', r.2 0 = some lv' ∧ ∃ w', lv' = cx w' ∧ BR (2 * BT + 4) w w' ∧ w.ops.length < w'.ops.length) := fun w1 b1 => by
      refine nL (lim := 2) _ hT W (by (lia -abstractProof)) (by decide) b1 (rK (eQ _ _ (cEq (bo (cq rfl rfl (by decide)) rfl (by decide)) rfl) fun Z => eQ _ _ (cLt rfl rfl) fun Z => dT (cGt rfl rfl))) fun w2 b2 => ?_
      have l2 := b2.len
      refine sIf (decide ((w2.ops.length : Int) = w.ops.length)) (cEq (dj (enc := PyData.int) rfl) rfl) (fun h => ?_) fun h => fB ⟨rfl, _, rfl, w2, rfl, b2.wide (by (lia -abstractProof)), by have := of_decide_eq_false h; (lia -abstractProof)⟩
      have hm := qf (x.fdiv 8)
      refine oM (List.replicate (1 + (x.fdiv 8).fmod 2).toNat 0) ((jY rfl (xC rfl (vIs (fz rfl (vIs (bo (cq rfl rfl (by decide)) rfl (by decide)) rfl)) rfl) (fmC _).2.1 (fmC _).2.2) (by rw [List.length_map, List.length_replicate]; unfold aF; (lia -abstractProof))).trans (by rw [List.map_append, List.map_replicate])) (fB ⟨rfl, _, rfl, _, rfl, (b2.trans (BR.add (List.replicate (1 + (x.fdiv 8).fmod 2).toNat 0) w2.pos b2.pos b2.left)).wide ?_, ?_⟩)
      · rw [List.length_replicate]; (lia -abstractProof)
      · show _ < (w2.ops ++ _).length
        rw [List.length_append, List.length_replicate]; (lia -abstractProof)
    refine rS rfl rfl hx rfl rfl rfl (bC (.int w.ops.length) (cU (enc := PyData.int) rfl) rfl ?_)
    show Run _ (RB w { w with pos := w.pos + 1 } d x) _ _
    have h0 := qf x
    refine oM (List.replicate (x.fmod 2).toNat 0) ((jY rfl (xC rfl (vIs (bo rfl rfl (by decide)) rfl) (fmB x).2.1 (fmB x).2.2) (by rw [List.length_map, List.length_replicate]; exact Nat.le_trans (Nat.add_le_add (Nat.le_trans (Nat.le_add_right _ _) hl) (fmB x).1) (by decide))).trans (by rw [List.map_append, List.map_replicate])) ?_
    have h1 : BR 1 w { w with ops := w.ops ++ List.replicate (x.fmod 2).toNat 0, pos := w.pos + 1 } := (BR.add _ _ (Int.le_of_lt (Int.lt_add_one_of_le hp)) W.left).wide (by rw [List.length_replicate]; exact (fmB x).1)
    refine nL (lim := 3) _ hT W (by (lia -abstractProof)) (by decide) h1 (rK (eQ _ _ (tInt (vIs (bo (cq rfl rfl (by decide)) rfl (by decide)) rfl) rfl) fun Z => eQ _ _ (cLt rfl rfl) fun Z => dT (cGt rfl rfl))) fun w1 b1 => ?_
    have l1 := b1.len
    refine sIf _ (tInt (vIs (bo (cq rfl rfl (by decide)) rfl (by decide)) rfl) rfl) (fun h => ?_) fun h => dS (rest w1 (b1.wide (by (lia -abstractProof))))
    have hs : w1.ops.length < aF := by unfold aF; (lia -abstractProof)
    refine zn (d := .int 0) (ds := w1.ops.map .int) rfl rfl rfl rfl (by rw [List.length_map]; exact hs) rfl (dS ?_)
    have := rest { w1 with ops := w1.ops ++ [0], pos := w1.pos } ((b1.trans (BR.add [0] w1.pos b1.pos b1.left)).wide (by show _ + 1 ≤ _; (lia -abstractProof)))
    unfold RB cx at this
    rw [List.map_append] at this
    exact this)
  exact ⟨w', e, h⟩
end Mine
namespace Mine
open PySem
theorem qj (pre zs rest : List Int) (hz : ∀ z ∈ zs, z = 0) : ay (pre ++ zs ++ [65041] ++ rest) pre.length ((pre.length : Int) + zs.length + 1) = true := by
  refine dF.mpr ⟨by exact Int.natCast_nonneg _, by (lia -abstractProof), fun i h1 h2 => ?_⟩
  have hi : i.toNat < pre.length + zs.length + 1 := by (lia -abstractProof)
  have e : (pre ++ zs ++ [65041] ++ rest).getD i.toNat 0 = (zs ++ [65041]).getD (i.toNat - pre.length) 0 := by
    rw [List.append_assoc pre, List.append_assoc pre]
    simp only [List.getD]
    rw [List.getElem?_append_right (by (lia -abstractProof)), List.getElem?_append_left (by rw [List.length_append, List.length_singleton]; (lia -abstractProof))]
  rw [e]
  simp only [List.getD]
  by_cases q : i.toNat - pre.length < zs.length
  · rw [List.getElem?_append_left q, List.getElem?_eq_getElem q]
    have := hz _ (List.getElem_mem q)
    rw [this]
    constructor
    · intro h; cases h
    · intro h; (lia -abstractProof)
  · rw [List.getElem?_append_right (by exact Nat.le_of_not_lt (by assumption))]
    have : i.toNat - pre.length - zs.length = 0 := by (lia -abstractProof)
    rw [this]
    constructor
    · intro _; (lia -abstractProof)
    · intro _; rfl
noncomputable def zi (ks : List Int) : Prop := (ks.length = 1 ∨ (ks.length = 2 ∧ ∀ s ∈ ks, s = 0 ∨ s = 1)) ∧ ∀ s ∈ ks, s = 0 ∨ s = 1 ∨ s = 2 ∨ s = 4
noncomputable def vT : List (List Int) := [[2], [4], [0], [1], [0, 1], [1, 0], [0, 0]]
theorem sq : ∀ i, i < 7 → zi (vT.getD i []) ∧ (i < 4 → (vT.getD i []).length = 1) := by unfold zi; decide
theorem uF (i : Nat) (h : i < 7) : ∃ ks : List Int, zi ks ∧ (i < 4 → ks.length = 1) ∧ [PyData.tuple [.int 2], .tuple [.int 4], .tuple [.int 0], .tuple [.int 1], .tuple [.int 0, .int 1], .tuple [.int 1, .int 0], .tuple [.int 0, .int 0]][i]? = some (.tuple (ks.map .int)) :=
  ⟨vT.getD i [], (sq i h).1, (sq i h).2, (show (vT.map fun ks => PyData.tuple (ks.map .int))[i]? = _ by rw [List.getElem?_map, List.getD_eq_getElem?_getD, List.getElem?_eq_getElem (show i < vT.length from h)]; rfl)⟩
structure Turning (w : WS) (ks : List Int) (t1 : Int) (B j : Nat) (w1 : WS) : Prop where
  t : w1.t = w.t
  pos : 0 ≤ w1.pos
  left : 0 ≤ w1.left
  lt : w1.left < w.left
  mid : (w.ops.length : Int) < t1 ∧ t1 ≤ w1.ops.length
  ops : ∃ os, w1.ops = w.ops ++ os ∧ os.length ≤ B + j * (B + 3)
  cls : ∃ M, w1.cls = w.cls ++ M ∧ (M.length : Int) + w1.left = w.left - ks.length + j ∧ M.Pairwise af ∧ (∀ c ∈ M, RightP w1.ops c) ∧ (∀ c ∈ M, Wi w.ops.length w1.ops.length c) ∧
    (j = 0 → ∀ c ∈ M, Wi w.ops.length t1 c) ∧ (j < ks.length → Trying w1.ops w.ops.length t1 w1.ops.length M)
theorem Turning.step {w w1 wy : WS} {ks zs1 fl : List Int} {t1 x0 s : Int} {B j : Nat} (T : Turning w ks t1 B j w1) (hks : zi ks) (hj : ks[j]? = some s) (hz1 : zs1.length ≤ 1) (hB : BR B { w1 with ops := w1.ops ++ zs1 ++ fl } wy) (hlen : (w1.ops ++ zs1 ++ fl).length < wy.ops.length)
    (hf : s = 1 → ∃ zs, (∀ z ∈ zs, z = 0) ∧ zs.length ≤ 1 ∧ fl = zs ++ [65041] ∧ x0 = ((w1.ops ++ zs1).length : Int)) (hf' : s ≠ 1 → fl = []) :
    Turning w ks t1 B (j + 1) { wy with cls := wy.cls ++ [⟨s, w.ops.length, t1, (w1.ops ++ zs1 ++ fl).length, wy.ops.length, x0⟩] } := by
  obtain ⟨a1, a2, a3, a0, a4, ⟨os0, a5, a6⟩, M, b1, b2, b3, b4, b5, b6, b7⟩ := T
  obtain ⟨c1, c2, c3, os, N, d1, d2, d3, d4, d5⟩ := hB
  dsimp only at c1 d1 d2 d4 d5
  obtain ⟨hj1, hj2⟩ := List.getElem?_eq_some_iff.mp hj
  have hs : s ∈ ks := hj2 ▸ List.getElem_mem hj1
  have hT := b7 hj1
  have hflen : fl.length ≤ 2 := by
    by_cases q : s = 1
    · refine iK (hf q) fun zs Z hl e3_ Z => ?_; obtain rfl := e3_
      rw [List.length_append, List.length_singleton]; exact nlt (by assumption) (by decide)
    · rw [hf' q]; simp
  have e1 : wy.ops = w1.ops ++ (zs1 ++ fl ++ os) := by rw [d1]; simp only [List.append_assoc]
  have l1 : (w1.ops ++ zs1 ++ fl).length = w1.ops.length + zs1.length + fl.length := by rw [List.length_append, List.length_append]
  have l2 : wy.ops.length = w1.ops.length + zs1.length + fl.length + os.length := by rw [d1, List.length_append, l1]
  have hL : w1.ops.length ≤ (w1.ops ++ zs1 ++ fl).length := by rw [l1]; exact Nat.le_trans (Nat.le_add_right _ _) (Nat.le_add_right _ _)
  have hZ : w1.ops.length ≤ (w1.ops ++ zs1).length := by rw [List.length_append]; exact Nat.le_add_right _ _
  have hW : (w1.ops ++ zs1 ++ fl).length < wy.ops.length := by assumption
  have hLi := Int.le_trans a4.2 (Int.ofNat_le.mpr hL)
  have hZi := Int.le_trans a4.2 (Int.ofNat_le.mpr hZ)
  have hWi := Int.le_trans hLi (Int.ofNat_le.mpr (Nat.le_of_lt hW))
  have hT' : Trying wy.ops w.ops.length t1 w1.ops.length M := by rw [e1]; exact hT.grow _ (Int.le_refl _)
  have hc : RightP wy.ops ⟨s, w.ops.length, t1, (w1.ops ++ zs1 ++ fl).length, wy.ops.length, x0⟩ := by
    refine ⟨hks.2 s hs, ⟨by dsimp only; exact Int.natCast_nonneg _, a4.1, hWi⟩, ⟨by dsimp only; exact Int.natCast_nonneg _, Int.ofNat_lt.mpr hW, by dsimp only; exact Int.le_refl _⟩, fun q => ?_, ?_⟩
    · dsimp only at q
      refine iK (hf q) fun zs hz hl e3_ e4_ => ?_; obtain rfl := e3_; obtain rfl := e4_
      have e2 : wy.ops = (w1.ops ++ zs1) ++ zs ++ [65041] ++ os := by rw [d1]; simp only [List.append_assoc]
      have e3 : ((w1.ops ++ zs1 ++ (zs ++ [65041])).length : Int) = ((w1.ops ++ zs1).length : Int) + zs.length + 1 := by
        simp only [List.length_append, List.length_singleton]; (lia -abstractProof)
      dsimp only
      rw [e2, e3]
      exact qj _ zs os hz
    · intro p m q mq
      cases List.mem_singleton.mp m
      left
      unfold aI at mq
      dsimp only at mq ⊢
      split at mq
      · rename_i q1
        refine iK (hf q1) fun zs hz hl e3_ e4_ => ?_; obtain rfl := e3_; obtain rfl := e4_
        simp only [List.mem_cons, List.not_mem_nil, or_false] at mq
        rcases mq with rfl | rfl <;> first | exact hLi | exact hZi
      · simp only [List.mem_cons, List.not_mem_nil, or_false] at mq
        subst mq
        exact hLi
  have htl : ∀ p ∈ aI (⟨s, w.ops.length, t1, (w1.ops ++ zs1 ++ fl).length, wy.ops.length, x0⟩ : Cl), (w1.ops.length : Int) ≤ p.1 ∧ p.2 ≤ wy.ops.length := by
    intro p mq
    unfold aI at mq
    dsimp only at mq
    split at mq
    · rename_i q1
      refine iK (hf q1) fun zs hz hl e3_ e4_ => ?_; obtain rfl := e3_; obtain rfl := e4_
      simp only [List.mem_cons, List.not_mem_nil, or_false] at mq
      rcases mq with rfl | rfl <;> first | exact ⟨Int.ofNat_le.mpr hL, Int.le_refl _⟩ | exact ⟨Int.ofNat_le.mpr hZ, Int.ofNat_le.mpr (Nat.le_of_lt hW)⟩ | exact ⟨Int.ofNat_le.mpr hZ, Int.le_refl _⟩
    · simp only [List.mem_cons, List.not_mem_nil, or_false] at mq
      subst mq
      exact ⟨Int.ofNat_le.mpr hL, Int.le_refl _⟩
  have hal : (∀ d ∈ M, Wi w.ops.length t1 d) ∨ bc (⟨s, w.ops.length, t1, (w1.ops ++ zs1 ++ fl).length, wy.ops.length, x0⟩ : Cl) = false := by
    by_cases q : j = 0
    · exact .inl (b6 q)
    · right
      rcases hks.1 with h1 | ⟨h1, h2⟩
      · (lia -abstractProof)
      · have := h2 s hs
        unfold bc
        dsimp only
        rcases this with rfl | rfl <;> rfl
  refine wC (hT'.taker (N := N) (c := ⟨s, w.ops.length, t1, (w1.ops ++ zs1 ++ fl).length, wy.ops.length, x0⟩) a4.1 a4.2 d5 hc rfl rfl (Int.ofNat_le.mpr hL) htl hal) fun g1 g2 g3 g4 => ?_
  refine ⟨c1.trans a1, c2, c3, by dsimp only; (lia -abstractProof), ⟨a4.1, hWi⟩, ⟨os0 ++ (zs1 ++ fl ++ os), by dsimp only; rw [e1, a5, List.append_assoc], ?_⟩, M ++ N ++ [⟨s, w.ops.length, t1, (w1.ops ++ zs1 ++ fl).length, wy.ops.length, x0⟩], ?_, ?_, g1, g2, g3, fun q => absurd q (by (lia -abstractProof)), fun q => ?_⟩
  · simp only [List.length_append]
    rw [Nat.add_mul, Nat.one_mul]; (lia -abstractProof)
  · dsimp only; rw [d2, b1]; simp only [List.append_assoc]
  · simp only [List.length_append, List.length_singleton]
    (lia -abstractProof)
  · refine g4 ?_
    rcases hks.1 with h1 | ⟨h1, h2⟩
    · (lia -abstractProof)
    · have := h2 s hs
      unfold bc
      dsimp only
      rcases this with rfl | rfl <;> rfl
theorem Turning.start {w wa wb : WS} {ks : List Int} {B : Nat} {k l : Int} (h : BR B wa wb) (e : wa = { w with left := w.left - 1 }) (hlt : wa.ops.length < wb.ops.length) (hk : 0 ≤ k) (hl : 0 ≤ l) (el : l = wb.left - (ks.length - 1)) (k1 : 1 ≤ ks.length) : Turning w ks wb.ops.length B 0 { wb with pos := k, left := l } := by
  subst e
  obtain ⟨c1, c2, c3, os, N, d1, d2, d3, d4, d5⟩ := h
  dsimp only at c1 d1 d2 d4 d5 hlt
  refine ⟨c1, hk, hl, by dsimp only; lia, ⟨by lia, by dsimp only; exact Int.le_refl _⟩, ⟨os, d1, by lia⟩, N, d2, by dsimp only; lia, d5.pair, d5.right, d5.wi, fun Z => d5.wi, fun Z => Trying.start d5⟩
theorem Turning.done {w w1 : WS} {ks : List Int} {t1 : Int} {B : Nat} (h : Turning w ks t1 B ks.length w1) (hk : ks.length = 1 ∨ ks.length = 2) : BR (3 * B + 6) w w1 ∧ w.ops.length < w1.ops.length ∧ w.cls.length < w1.cls.length := by
  obtain ⟨a1, a2, a3, a0, a4, ⟨os0, a5, a6⟩, M, b1, b2, b3, b4, b5, b6, b7⟩ := h
  refine ⟨⟨a1, a2, a3, os0, M, a5, b1, ?_, by (lia -abstractProof), b4, b3, b5⟩, by (lia -abstractProof), by rw [b1, List.length_append]; (lia -abstractProof)⟩
  rcases hk with hk | hk <;> rw [hk] at a6 <;> (lia -abstractProof)
end Mine
namespace Mine
open PySem
theorem sAppKM {α : Type} {enc : α → D} {g : G} {l : Row} {r : List IS} {Q : Fl × Rho → Prop} {x k : Nat} {e : IE} {es : List (Nat × EV)} {xs : List α} (a : α) (he : evI g (E l) e = some (enc a)) (hf : bf (enc a) = true) (hx : eA (E l x) = some es) (hk : yW (lk k es) = some (xs.map enc)) (hl : xs.length < 1000000) (hi : Nat.blt x l.length = true)
    (q : Run g (cZ x (some (.dct (st k (.own ((xs ++ [a]).map enc)) es))) l) r Q) : Run g l (.appK x k e :: r) Q :=
  zn he hf hx hk (by rw [List.length_map]; exact hl) hi (by rw [List.map_append] at q; exact q)
theorem vJ {n : Nat} {d : Int} {B : Nat} (hB : dc (n + 1) (d + 1) B) (hBs : B ≤ 10000) : jf (n + 2) d (3 * B + 6) := by
  intro w W hl0
  have hl := W.ops
  have hp := W.pos
  have hleft := W.left
  have hcl := W.cl
  refine cg (hB { w with left := w.left - 1 } ⟨hp, W.t, by dsimp only; (lia -abstractProof), by dsimp only; (lia -abstractProof), by dsimp only; (lia -abstractProof)⟩) fun wb eb hb hlb => ?_
  have lb := hb.len
  dsimp only at lb hlb
  obtain ⟨x, hx⟩ := tV n wb hb.pos (by rw [hb.t]; exact W.t)
  have hbl := hb.left
  obtain ⟨M, hM⟩ : ∃ M : Int, M = if wb.left > 0 then 7 else 4 := ⟨_, rfl⟩
  have hM2 : (0 < wb.left ∧ M = 7) ∨ (¬ 0 < wb.left ∧ M = 4) := by
    by_cases q : wb.left > 0
    · rw [if_pos q] at hM; exact .inl ⟨q, hM⟩
    · rw [if_neg q] at hM; exact .inr ⟨q, hM⟩
  have M7 : 0 < M ∧ M ≤ 7 := by rcases hM2 with ⟨_, rfl⟩ | ⟨_, rfl⟩ <;> decide
  have m0 : 0 ≤ x.fmod M := Int.fmod_nonneg_of_pos _ M7.1
  have m1 : x.fmod M < M := Int.fmod_lt_of_pos _ M7.1
  have m7 : x.fmod M < 7 := Int.lt_of_lt_of_le m1 M7.2
  obtain ⟨ks, k1, k2, k3⟩ := uF (x.fmod M).toNat (toNat_lt m0 m7)
  have kl : ks.length = 1 ∨ ks.length = 2 := k1.1.imp id (·.1)
  have k4 : 0 ≤ wb.left - ((ks.length : Int) - 1) := by
    rcases hM2 with ⟨q, e⟩ | ⟨q, e⟩
    · rcases kl with h | h <;> (lia -abstractProof)
    · have := k2 (by (lia -abstractProof)); (lia -abstractProof)
  have T0 := Turning.start (ks := ks) hb rfl hlb (k := wb.pos + 1) (l := wb.left - ((ks.length : Int) - 1)) (Int.le_of_lt (Int.lt_add_one_of_le hb.pos)) k4 rfl (by (lia -abstractProof))
  obtain ⟨lv', e, w', rfl, h⟩ := ioE (f := 24) (ds := [.int d]) (lv := cx w) (d := .none) (P := fun lv => ∃ w', lv = cx w' ∧ BR (3 * B + 6) w w' ∧ w.ops.length < w'.ops.length ∧ w.cls.length < w'.cls.length) (n + 1) 7 rfl rfl rfl (by
    refine nZ rfl rfl rfl rfl rfl (bC (.int w.ops.length) (cU (enc := PyData.int) rfl) rfl (sIo (lv := cx { w with left := w.left - 1 }) (ds := [.int (d + 1)]) rfl rfl eb rfl rfl (bC (.int wb.ops.length) (cU (enc := PyData.int) rfl) rfl (rS (lv := cx wb) rfl rfl hx rfl rfl rfl
      (bC (.tuple (ks.map .int)) (ca rfl (vIs (bo rfl (ui (p := wb.left > 0) (cGt rfl rfl) rfl rfl) (by rw [← hM]; exact ine M7.1)) rfl) ((if_pos ⟨by rw [← hM]; exact m0, by rw [← hM]; exact jo m7 (by decide)⟩).trans (by rw [← hM]; exact k3))) rfl (nZ (a := .int wb.left) (b := .int ((ks.length : Int) - 1)) (c := .int (wb.left - ((ks.length : Int) - 1))) rfl rfl (vIs (kP (pA rfl) rfl) rfl) rfl rfl ?_))))))
    show Run _ [some (cx { wb with pos := wb.pos + 1, left := wb.left - ((ks.length : Int) - 1) }), some (.val (.int d)), some (.val (.int w.ops.length)), some (.val (.int wb.ops.length)), some (.val (.int x)), some (.val (.tuple (ks.map .int))), none, none, none] _ _
    refine nY (β := Unit) (enc := PyData.int) (fun j Z r => ∃ w1 a b c, r = [some (cx w1), some (.val (.int d)), some (.val (.int w.ops.length)), some (.val (.int wb.ops.length)), some (.val (.int x)), some (.val (.tuple (ks.map .int))), a, b, c] ∧ Turning w ks wb.ops.length B j w1) (fun Z Z => ()) ks () rfl ⟨_, _, _, _, rfl, T0⟩ (fun j s hj Z r hI => ?_) fun r hI => ?_
    · obtain ⟨w1, a, b, c, rfl, T⟩ := hI
      have hj1 := (List.getElem?_eq_some_iff.mp hj).1
      have hT := T
      obtain ⟨a1, a2, a3, a0, a4, ⟨os0, a5, a6⟩, Mm, b1, b2, -⟩ := T
      have lops : w1.ops.length ≤ w.ops.length + 2 * B + 3 := by
        rw [a5, List.length_append]
        have : j = 0 ∨ j = 1 := by (lia -abstractProof)
        rcases this with rfl | rfl <;> (lia -abstractProof)
      have lcls : (w1.cls.length : Int) + w1.left ≤ 100 := by rw [b1, List.length_append]; (lia -abstractProof)
      have big : w1.ops.length ≤ 990000 := by (lia -abstractProof)
      obtain ⟨zs1, hzs⟩ : ∃ zs1 : List Int, zs1 = List.replicate ((x.fdiv 7).fmod 2).toNat 0 := ⟨_, rfl⟩
      have hz1 : zs1.length ≤ 1 := by rw [hzs, List.length_replicate]; exact (fmB _).1
      have lz : (w1.ops ++ zs1).length = w1.ops.length + zs1.length := List.length_append
      have rest : ∀ (fl : List Int) (x0 : Int), fl.length ≤ 2 → (s = 1 → ∃ zs : List Int, (∀ z ∈ zs, z = 0) ∧ zs.length ≤ 1 ∧ fl = zs ++ [65041] ∧ x0 = ((w1.ops ++ zs1).length : Int)) → (s ≠ 1 → fl = []) →
          Run (gN TT (n + 1)) [some (cx { w1 with ops := w1.ops ++ zs1 ++ fl }), some (.val (.int d)), some (.val (.int w.ops.length)), some (.val (.int wb.ops.length)), some (.val (.int x)), some (.val (.tuple (ks.map .int))), some (.val (.int s)), some (.val (.int x0)), c] xc
            (turn (fun Z r => ∃ w1 a b c, r = [some (cx w1), some (.val (.int d)), some (.val (.int w.ops.length)), some (.val (.int wb.ops.length)), some (.val (.int x)), some (.val (.tuple (ks.map .int))), a, b, c] ∧ Turning w ks wb.ops.length B (j + 1) w1) ()) := fun fl x0 hfl hf1 hf2 => by
        have lf : (w1.ops ++ zs1 ++ fl).length = w1.ops.length + zs1.length + fl.length := by rw [List.length_append, lz]
        obtain ⟨wy, ey, by1, by2⟩ := hB { w1 with ops := w1.ops ++ zs1 ++ fl } ⟨a2, by rw [a1]; exact W.t, a3, lcls, by dsimp only; (lia -abstractProof)⟩
        have lby := by1.len
        have hstep := hT.step k1 hj hz1 by1 by2 hf1 hf2
        dsimp only at by2 lby
        have hyl : wy.cls.length < 1000000 := by have := by1.left; (lia -abstractProof)
        exact bC (.int (w1.ops ++ zs1 ++ fl).length) (cU (enc := PyData.int) rfl) rfl (sIo (lv := cx { w1 with ops := w1.ops ++ zs1 ++ fl }) (ds := [.int (d + 1)]) rfl rfl ey rfl rfl (sAppKM (enc := aL) (xs := wy.cls) ⟨s, w.ops.length, wb.ops.length, (w1.ops ++ zs1 ++ fl).length, wy.ops.length, x0⟩
          (zP (bg rfl (bg rfl (bg rfl (bg rfl (bg (cU (enc := PyData.int) rfl) rfl)))))) rfl rfl rfl hyl rfl (fin (aO ⟨_, _, _, _, rfl, hstep⟩))))
      refine ⟨_, rfl, ve (xs := (w1.ops ++ zs1).map .int) rfl ((jY rfl (xC rfl (vIs (bo (cq rfl rfl (by decide)) rfl (by decide)) rfl) (fmB _).2.1 (fmB _).2.2) (by rw [List.length_map, List.length_replicate]; exact Nat.le_trans (Nat.add_le_add big (fmB _).1) (by decide))).trans (by rw [hzs, List.map_append, List.map_replicate])) (bk sM _) rfl rfl (bC (.int 0) rfl rfl (sIf (decide (s = 1)) (cEq rfl rfl) (fun h => ?_) fun h => ?_))⟩
      · obtain ⟨fl, hfl⟩ : ∃ fl : List Int, fl = List.replicate ((x.fdiv 14).fmod 2).toNat 0 ++ [65041] := ⟨_, rfl⟩
        have hr := rest fl ((w1.ops ++ zs1).length : Int) (by rw [hfl, List.length_append, List.length_replicate]; exact Nat.succ_le_succ (fmB _).1) (fun Z => ⟨List.replicate ((x.fdiv 14).fmod 2).toNat 0, fun z m => List.eq_of_mem_replicate m, by rw [List.length_replicate]; exact (fmB _).1, hfl, rfl⟩) fun q => absurd (of_decide_eq_true h) q
        refine bC (.int (w1.ops ++ zs1).length) (cU (enc := PyData.int) rfl) rfl (ve (xs := (w1.ops ++ zs1 ++ fl).map PyData.int) rfl ((jY (c5 (jY rfl (xC rfl (vIs (bo (cq rfl rfl (by decide)) rfl (by decide)) rfl) (fmB _).2.1 (fmB _).2.2) (by rw [List.length_map, List.length_replicate, lz]; exact Nat.le_trans (Nat.add_le_add (Nat.add_le_add big hz1) (fmB _).1) (by decide))) rfl) rfl (by rw [List.length_append, List.length_map, List.length_replicate, lz]; exact Nat.le_trans (Nat.add_le_add_right (Nat.add_le_add (Nat.add_le_add big hz1) (fmB _).1) 1) (by decide))).trans (by rw [hfl, ← List.append_assoc, List.map_append (l₂ := [65041]), List.map_append (l₁ := w1.ops ++ zs1), List.map_replicate]; rfl)) (bk sM _) rfl rfl
          (dS hr))
      · have := rest [] 0 (by decide) (fun q => absurd q (of_decide_eq_false h)) fun Z => rfl
        rw [List.append_nil] at this
        exact dS this
    · obtain ⟨w1, a, b, c, rfl, T⟩ := hI
      obtain ⟨h1, h2, h3⟩ := T.done kl
      exact fin ⟨rfl, _, rfl, w1, rfl, h1, h2, h3⟩)
  exact ⟨w', e, h⟩
end Mine
namespace Mine
open PySem
theorem eN {n m : Nat} {d : Int} {BT B : Nat} (hT : d < 3 → jf m d BT) (hm : m = n + 1) (hB : B = 2 * BT + 4) : dc (m + 1) d B := by
  subst hm hB
  exact se hT
theorem jm {n m : Nat} {d e : Int} {B C : Nat} (hB : dc m e B) (hm : m = n + 1) (he : e = d + 1) (hC : C = 3 * B + 6) (hBs : B ≤ 10000) : jf (m + 1) d C := by
  subst hm he hC
  exact vJ hB hBs
theorem block3 (n : Nat) : dc (n + 1 + 1) 3 4 := eN (n := n) (BT := 0) (fun h => absurd h (by decide)) rfl rfl
theorem try2 (n : Nat) : jf (n + 1 + 1 + 1) 2 18 := jm (n := n + 1) (block3 n) rfl (by decide) rfl (by decide)
theorem block2 (n : Nat) : dc (n + 1 + 1 + 1 + 1) 2 40 := eN (n := n + 1 + 1) (fun Z => try2 n) rfl rfl
theorem try1 (n : Nat) : jf (n + 1 + 1 + 1 + 1 + 1) 1 126 := jm (n := n + 1 + 1 + 1) (block2 n) rfl (by decide) rfl (by decide)
theorem block1 (n : Nat) : dc (n + 1 + 1 + 1 + 1 + 1 + 1) 1 256 := eN (n := n + 1 + 1 + 1 + 1) (fun Z => try1 n) rfl rfl
theorem try0 (n : Nat) : jf (n + 1 + 1 + 1 + 1 + 1 + 1 + 1) 0 774 := jm (n := n + 1 + 1 + 1 + 1 + 1) (block1 n) rfl (by decide) rfl (by decide)
theorem block0 (n : Nat) : dc (n + 1 + 1 + 1 + 1 + 1 + 1 + 1 + 1) 0 1552 := eN (n := n + 1 + 1 + 1 + 1 + 1 + 1) (fun Z => try0 n) rfl rfl
structure Fine (code : List Int) (cls : List Cl) : Prop where
  right : ∀ c ∈ cls, RightP code c
  pair : cls.Pairwise af
theorem Seg.fine {code : List Int} {lo hi : Int} {N : List Cl} (h : Seg code lo hi N) : Fine code N := ⟨h.right, h.pair⟩
theorem oj {code : List Int} {cls : List Cl} (h : ∀ c ∈ cls, aH code c = true) : rf1 code cls = [] := by
  unfold rf1
  have : ∀ (xs : List Cl) (l : List Int), (∀ c ∈ xs, aH code c = true) → xs.foldl (fun l c => if aH code c then l else aY l c.t0) l = l := by
    intro xs
    induction xs with
    | nil => intro l _; rfl
    | cons c r ih =>
      intro l h
      rw [List.foldl_cons, if_pos (h c (.head _)), ih l fun d m => h d (.tail _ m)]
  exact this _ _ h
noncomputable def rfS : List Cl → List Int → List Int
  | [], l => l
  | a :: r, l => rfS r (r.foldl (fun l b => if aJ a b then l else aY l a.t0) l)
theorem rfS_n (l) : rfS [] l = l := rfl
theorem nj (a r l) : rfS (a :: r) l = rfS r (r.foldl (fun l b => if aJ a b then l else aY l a.t0) l) := rfl
theorem uI (cls : List Cl) (a : Cl) (k : Nat) (l : List Int) : oi cls a k l = (cls.drop (k + 1)).foldl (fun l b => if aJ a b then l else aY l a.t0) l := by
  unfold oi
  have : ∀ (m i : Nat) (l : List Int), cls.length - i = m → (List.range m).foldl (fun l j => if (match cls[i + j]? with | some b => aJ a b | none => true) = true then l else aY l a.t0) l = (cls.drop i).foldl (fun l b => if aJ a b then l else aY l a.t0) l := by
    intro m
    induction m with
    | zero => intro i l h; rw [List.drop_eq_nil_of_le (by lia)]; rfl
    | succ m ih =>
      intro i l h
      have hi : i < cls.length := by lia
      rw [List.range_succ_eq_map, List.foldl_cons, List.foldl_map, List.drop_eq_getElem_cons hi, List.foldl_cons]
      have e : (fun (l : List Int) (j : Nat) => if (match cls[i + Nat.succ j]? with | some b => aJ a b | none => true) = true then l else aY l a.t0) = fun l j => if (match cls[i + 1 + j]? with | some b => aJ a b | none => true) = true then l else aY l a.t0 := by
        funext l j
        rw [show i + Nat.succ j = i + 1 + j by lia]
      rw [e, ih (i + 1) _ (by lia)]
      congr 1
      rw [Nat.add_zero, List.getElem?_eq_getElem hi]
  exact this _ (k + 1) l rfl
theorem kH (cls : List Cl) (l : List Int) : rf2 cls l = rfS cls l := by
  unfold rf2
  have : ∀ (xs : List Cl) (k : Nat) (l : List Int), cls.drop k = xs → (jk k xs).foldl (fun l p => oi cls p.2 p.1 l) l = rfS xs l := by
    intro xs
    induction xs with
    | nil => intro k l _; rfl
    | cons a r ih =>
      intro k l h
      have hd : cls.drop (k + 1) = r := by
        rw [← List.drop_drop, h]; rfl
      rw [oX, List.foldl_cons, nj, ih (k + 1) _ hd]
      dsimp only
      rw [uI, hd]
  exact this cls 0 l rfl
theorem s6 : ∀ (cls : List Cl), (cls.Pairwise fun a b => aJ a b = true) → rfS cls [] = []
  | [], _ => rfl
  | a :: r, h => by
    obtain ⟨h1, h2⟩ := List.pairwise_cons.mp h
    rw [nj]
    have : ∀ (xs : List Cl) (l : List Int), (∀ b ∈ xs, aJ a b = true) → xs.foldl (fun l b => if aJ a b then l else aY l a.t0) l = l := by
      intro xs
      induction xs with
      | nil => intro l _; rfl
      | cons b r ih =>
        intro l h
        rw [List.foldl_cons, if_pos (h b (.head _)), ih l fun d m => h d (.tail _ m)]
    rw [this r [] h1]; exact s6 r h2
theorem Fine.nil {code : List Int} {cls : List Cl} (h : Fine code cls) : aD code cls = [] := by
  unfold aD
  rw [oj fun c m => ef.mpr (h.right c m), if_pos rfl, kH]
  exact s6 cls (h.pair.imp fun q => du.mpr q)
theorem uT {p q : Sp} : kJ p q = true ↔ p.1 < q.2.1 ∧ p.1 < p.2.1 ∧ q.1 < q.2.1 ∧ q.1 < p.2.1 := by
  unfold kJ mx mn
  simp only [decide_eq_true_iff]
  split <;> split <;> (lia -abstractProof)
theorem pf (c : Cl) : (bF c).map (fun s => (s.1, s.2.1)) = aM c := by
  unfold bF aM
  split <;> rfl
theorem fy {a b : Cl} (na : NE a) (nb : NE b) (h : cH a b = true) : (a.t0 = b.t0 ∧ a.t1 = b.t1) ∨ Ap (aM a) (aM b) := by
  unfold cH at h
  rw [Bool.or_eq_true] at h
  rcases h with h | h
  · left; simpa using h
  · right
    intro p mp q mq
    have np := na p mp
    have nq := nb q mq
    rw [← pf] at mp mq
    obtain ⟨s, ms, rfl⟩ := List.mem_map.mp mp
    obtain ⟨t, mt, rfl⟩ := List.mem_map.mp mq
    have h1 := List.all_eq_true.mp (List.all_eq_true.mp h s ms) t mt
    have h2 : kJ s t = false := by simpa using h1
    have h3 : ¬ (kJ s t = true) := by rw [h2]; decide
    rw [uT] at h3
    dsimp only at *
    (lia -abstractProof)
theorem nu {a b : Cl} (na : NE a) (nb : NE b) (h : cH a b = true) : af a b ↔ af b a := by
  rcases fy na nb h with ⟨e1, e2⟩ | h
  · unfold af
    rw [if_pos ⟨e1, e2⟩, if_pos ⟨e1.symm, e2.symm⟩]
    exact ⟨fun q => ⟨q.2.1, q.1, q.2.2.symm⟩, fun q => ⟨q.2.1, q.1, q.2.2.symm⟩⟩
  · exact ⟨fun Z => ai nb h.symm, fun Z => ai na h⟩
set_option tactic.hygienic true in
theorem oH (cls : List Cl) (y : Int) : cw cls y = cls ∨ ∃ pre a b post, cls = pre ++ a :: b :: post ∧ cw cls y = pre ++ b :: a :: post ∧ cH a b = true := by
  unfold cw
  split
  · exact .inl rfl
  · rename_i k hk
    right
    have hm := List.mem_of_getElem? hk
    have hf := List.mem_filter.mp hm
    have h1 := List.mem_range.mp hf.1
    have hk0 : k < cls.length := by omega
    have hk1 : k + 1 < cls.length := by omega
    have e0 := b9 hk0
    have e1 := b9 hk1
    have d0 : cls.drop k = clN cls k :: clN cls (k + 1) :: cls.drop (k + 2) := by
      rw [List.drop_eq_getElem_cons hk0, List.drop_eq_getElem_cons hk1]
      rw [List.getElem?_eq_getElem hk0] at e0
      rw [List.getElem?_eq_getElem hk1] at e1
      rw [Option.some.inj e0, Option.some.inj e1]
    have hcls : cls = cls.take k ++ clN cls k :: clN cls (k + 1) :: cls.drop (k + 2) := by rw [← d0, List.take_append_drop]
    refine ⟨cls.take k, clN cls k, clN cls (k + 1), cls.drop (k + 2), hcls, ?_, hf.2⟩
    have lt : (cls.take k).length = k := by rw [List.length_take]; omega
    generalize clN cls k = a at hcls ⊢
    generalize clN cls (k + 1) = b at hcls ⊢
    generalize cls.take k = pre at hcls lt ⊢
    generalize cls.drop (k + 2) = post at hcls ⊢
    rw [hcls, List.set_append_right _ _ (by exact Nat.le_of_eq (by assumption)), lt, Nat.sub_self, List.set_cons_zero, List.set_append_right _ _ (by omega), lt, Nat.add_sub_cancel_left, List.set_cons_succ, List.set_cons_zero]
theorem Fine.exch {code : List Int} {cls : List Cl} (h : Fine code cls) (y : Int) : Fine code (cw cls y) := by
  rcases oH cls y with e | ⟨pre, a, b, post, e1, e2, ho⟩
  · rw [e]; exact h
  · rw [e2]
    rw [e1] at h
    have ha : RightP code a := h.right a (by simp)
    have hb : RightP code b := h.right b (by simp)
    refine ⟨fun c m => h.right c (by simp at m ⊢; grind), ?_⟩
    have hp := h.pair
    rw [List.pairwise_append, List.pairwise_cons, List.pairwise_cons] at hp ⊢
    obtain ⟨p1, ⟨p2, p3, p4⟩, p5⟩ := hp
    refine ⟨p1, ⟨fun c m => ?_, fun c m => p2 c (.tail _ m), p4⟩, fun c m d md => p5 c m d (by simp at md ⊢; grind)⟩
    rcases List.mem_cons.mp m with rfl | m
    · exact (nu ha.ne hb.ne ho).mp (p2 b (.head _))
    · exact p3 c m
end Mine
namespace Mine
open PySem
theorem jz (c : Cl) (i : Int) : aB c i = -1 ∨ aB c i = 0 ∨ aB c i = 1 ∨ aB c i = 2 := by
  unfold aB
  split
  · simp
  · split
    · simp
    · split <;> simp
noncomputable def m5 (i : Int) : Nat → List Cl → List Pr
  | _, [] => []
  | k, c :: r => if 0 ≤ aB c i then ((k : Int), aB c i) :: m5 i (k + 1) r else m5 i (k + 1) r
theorem o0 (i k c r) : m5 i k (c :: r) = if 0 ≤ aB c i then ((k : Int), aB c i) :: m5 i (k + 1) r else m5 i (k + 1) r := rfl
theorem zq (cls : List Cl) (i : Int) : bh cls i = m5 i 0 cls := by
  unfold bh
  have : ∀ (m k : Nat) (xs : List Cl), xs.length = m → (∀ j, j < m → clN cls (k + j) = clN xs j) → (List.range m).filterMap (fun j => if 0 ≤ aB (clN cls (k + j)) i then some (((k + j : Nat) : Int), aB (clN cls (k + j)) i) else none) = m5 i k xs := by
    intro m
    induction m with
    | zero => intro k xs h _; cases xs with | nil => rfl | cons _ _ => simp at h
    | succ m ih =>
      intro k xs h hc
      cases xs with
      | nil => simp at h
      | cons c r =>
        have h0 := hc 0 (by (lia -abstractProof))
        have e0 : clN (c :: r) 0 = c := rfl
        rw [e0] at h0
        rw [List.range_succ_eq_map, List.filterMap_cons, List.filterMap_map, o0]
        have ihr := ih (k + 1) r (by simpa using h) fun j hj => by
          have := hc (j + 1) (by exact Nat.lt_succ_of_le (by assumption))
          rw [show k + (j + 1) = k + 1 + j by (lia -abstractProof)] at this
          rw [this]; rfl
        have e : ((fun j => if 0 ≤ aB (clN cls (k + j)) i then some (((k + j : Nat) : Int), aB (clN cls (k + j)) i) else none) ∘ Nat.succ) = fun j => if 0 ≤ aB (clN cls (k + 1 + j)) i then some (((k + 1 + j : Nat) : Int), aB (clN cls (k + 1 + j)) i) else none := by
          funext j
          show (if 0 ≤ aB (clN cls (k + (j + 1))) i then some (((k + (j + 1) : Nat) : Int), aB (clN cls (k + (j + 1))) i) else none) = _
          rw [show k + (j + 1) = k + 1 + j by (lia -abstractProof)]
        rw [e, ihr]
        simp only [Nat.add_zero] at h0 ⊢
        rw [h0]
        by_cases q : 0 ≤ aB c i
        · rw [if_pos q, if_pos q]
        · rw [if_neg q, if_neg q]
  have h := this cls.length 0 cls rfl fun j Z => by rw [Nat.zero_add]
  simp only [Nat.zero_add] at h
  exact h
theorem iP (f : Int → Option Pr) : ∀ n : Nat, (List.range n).filterMap (fun j : Nat => f ((n : Int) - 1 - j)) = ((List.range n).filterMap fun k : Nat => f (k : Int)).reverse
  | 0 => rfl
  | n + 1 => by
    rw [List.range_succ_eq_map, List.filterMap_cons, List.filterMap_map, ← List.range_succ_eq_map, List.range_succ, List.filterMap_append, List.reverse_append]
    have e : ((fun j : Nat => f (((n + 1 : Nat) : Int) - 1 - j)) ∘ Nat.succ) = fun j : Nat => f ((n : Int) - 1 - j) := by
      funext j
      show f (((n + 1 : Nat) : Int) - 1 - ((j + 1 : Nat) : Int)) = _
      congr 1
      (lia -abstractProof)
    rw [e, iP f n]
    have e0 : (((n + 1 : Nat) : Int) - 1 - ((0 : Nat) : Int)) = n := by (lia -abstractProof)
    rw [e0, List.filterMap_cons, List.filterMap_nil]
    cases f (n : Int) <;> rfl
theorem cT (cls : List Cl) (i : Int) : aK cls i = (bh cls i).reverse := by
  unfold aK bh
  have h1 : ∀ (xs : List Nat) (l : List Pr) (f : Nat → Option Pr) , xs.foldl (fun l j => l ++ (f j).toList) l = l ++ xs.filterMap f := by
    intro xs
    induction xs with
    | nil => intro l f; simp
    | cons a r ih => intro l f; rw [List.foldl_cons, ih, List.filterMap_cons]; cases f a <;> simp
  have h2 := iP (fun c => if 0 ≤ aB (bO cls c) i then some (c, aB (bO cls c) i) else none) cls.length
  have h3 : (fun (l : List Pr) (j : Nat) => if 0 ≤ aB (bO cls ((cls.length : Int) - 1 - j)) i then l ++ [((cls.length : Int) - 1 - j, aB (bO cls ((cls.length : Int) - 1 - j)) i)] else l) =
      fun l j => l ++ ((fun j : Nat => if 0 ≤ aB (bO cls ((cls.length : Int) - 1 - j)) i then some ((cls.length : Int) - 1 - j, aB (bO cls ((cls.length : Int) - 1 - j)) i) else none) j).toList := by
    funext l j
    dsimp only
    split <;> simp
  rw [h3, h1, List.nil_append, h2]
  rfl
theorem tH {cls : List Cl} {i : Int} {p : Pr} : p ∈ bh cls i ↔ ∃ k, k < cls.length ∧ p = ((k : Int), aB (clN cls k) i) ∧ 0 ≤ aB (clN cls k) i := by
  unfold bh
  rw [List.mem_filterMap]
  constructor
  · rintro ⟨k, hk, e⟩
    split at e
    · rename_i h
      obtain rfl := Option.some.inj e
      exact ⟨k, List.mem_range.mp hk, rfl, h⟩
    · exact nS e
  · rintro ⟨k, hk, rfl, h⟩
    exact ⟨k, List.mem_range.mpr hk, by rw [if_pos h]⟩
theorem dq {cls : List Cl} {i : Int} {p : Pr} : p ∈ aK cls i ↔ ∃ k, k < cls.length ∧ p = ((k : Int), aB (clN cls k) i) ∧ 0 ≤ aB (clN cls k) i := by
  rw [cT, List.mem_reverse, tH]
theorem gg (cls : List Cl) (k : Nat) : bO cls (k : Int) = clN cls k := rfl
noncomputable def pV (c : Cl) : Prop := c.s = 0 ∨ c.s = 1 ∨ c.s = 2 ∨ c.s = 4
set_option synthInstance.maxHeartbeats 400000 in
set_option synthInstance.maxSize 2000 in
theorem wN : ∀ a ∈ ([-1, 0, 1, 2] : List Int), ∀ b ∈ ([-1, 0, 1, 2] : List Int), ∀ s ∈ ([0, 1, 2, 4] : List Int), ∀ leave ∈ [true, false], ∀ e ∈ [true, false],
    ((decide (a = b) || (!(decide (0 ≤ a) && (!leave || (decide (a = 1) || (decide (a = 2) && decide (s > 1))))) && (decide (b = -1) || (decide (b = 0) && e)))) = true ↔
    (0 ≤ a → b = a ∨ (leave = true ∧ (a = 0 ∨ (decide (a = 2) && (decide (s = 0) || decide (s = 1))) = true))) ∧ (0 ≤ b → a = b ∨ (b = 0 ∧ e = true))) := by decide +kernel
theorem tj (b : Bool) : b ∈ [true, false] := by cases b <;> decide
theorem pH {a w x y z : Int} (h : a = w ∨ a = x ∨ a = y ∨ a = z) : a ∈ [w, x, y, z] := by rcases h with rfl | rfl | rfl | rfl <;> simp
theorem l7 {c : Cl} (hs : pV c) (i goal : Int) (leave : Bool) : d6 c i goal leave = true ↔
    (0 ≤ aB c i → aB c goal = aB c i ∨ (leave = true ∧ (aB c i = 0 ∨ catchB c (aB c i) = true))) ∧ (0 ≤ aB c goal → aB c i = aB c goal ∨ (aB c goal = 0 ∧ c.t0 = goal)) := by
  unfold d6
  dsimp only
  rw [show decide (goal = c.t0) = decide (c.t0 = goal) from decide_eq_decide.mpr eq_comm]
  refine (wN _ (pH (jz c i)) _ (pH (jz c goal)) _ (pH hs) leave (tj leave) _ (tj _)).trans ?_
  rw [decide_eq_true_iff]
  exact Iff.rfl
theorem jS {cls : List Cl} (hs : ∀ c ∈ cls, pV c) (i goal : Int) (leave : Bool) : (iq cls (aK cls i) (aK cls goal) leave = true ∧ fe cls (aK cls i) (aK cls goal) goal = true) ↔ (cls.all fun c => d6 c i goal leave) = true := by
  unfold iq fe
  rw [List.all_eq_true, List.all_eq_true, List.all_eq_true]
  have key : ∀ (k : Nat) (x y : Int), k < cls.length → (((k : Int), aB (clN cls k) x) ∈ aK cls y ↔ aB (clN cls k) y = aB (clN cls k) x ∧ 0 ≤ aB (clN cls k) x) := by
    intro k x y hk
    rw [dq]
    constructor
    · rintro ⟨k', hk', e, h⟩
      have e1 : k = k' := by have := congrArg Prod.fst e; dsimp only at this; (lia -abstractProof)
      subst e1
      have e2 := congrArg Prod.snd e
      dsimp only at e2
      exact ⟨e2.symm, by (lia -abstractProof)⟩
    · rintro ⟨h1, h2⟩
      exact ⟨k, hk, by rw [h1], by (lia -abstractProof)⟩
  constructor
  · rintro ⟨h1, h2⟩ c hc
    obtain ⟨k, hk, rfl⟩ := List.getElem_of_mem hc
    have ek : cls[k] = clN cls k := by unfold clN; rw [List.getElem?_eq_getElem hk]; rfl
    rw [l7 (hs _ hc)]
    rw [ek]
    constructor
    · intro ha
      have := h1 ((k : Int), aB (clN cls k) i) (dq.mpr ⟨k, hk, rfl, ha⟩)
      rw [Bool.or_eq_true, decide_eq_true_iff, key k i goal hk, gg] at this
      rcases this with q | q
      · exact .inl q.1
      · right; simpa using q
    · intro hb
      have := h2 ((k : Int), aB (clN cls k) goal) (dq.mpr ⟨k, hk, rfl, hb⟩)
      rw [Bool.or_eq_true, decide_eq_true_iff, key k goal i hk, gg] at this
      rcases this with q | q
      · exact .inl q.1
      · right; simpa using q
  · intro h
    refine ⟨fun p hp => ?_, fun p hp => ?_⟩
    · refine cg (dq.mp hp) fun k hk e2_ ha => ?_; obtain rfl := e2_
      have hl := (l7 (hs _ (dJ hk)) i goal leave).mp (h _ (dJ hk))
      rw [Bool.or_eq_true, decide_eq_true_iff, key k i goal hk, gg]
      rcases hl.1 ha with q | q
      · exact .inl ⟨q, ha⟩
      · right; simpa using q
    · refine cg (dq.mp hp) fun k hk e2_ hb => ?_; obtain rfl := e2_
      have hl := (l7 (hs _ (dJ hk)) i goal leave).mp (h _ (dJ hk))
      rw [Bool.or_eq_true, decide_eq_true_iff, key k goal i hk, gg]
      rcases hl.2 hb with q | q
      · exact .inl ⟨q, hb⟩
      · right; simpa using q
theorem jI {cls : List Cl} (hs : ∀ c ∈ cls, pV c) (size : Nat) (i goal : Int) (leave : Bool) : l8 size cls i goal leave = kn size cls i goal leave := by
  unfold l8 kn
  by_cases h : goal < 0 ∨ (size : Int) ≤ goal
  · rw [if_pos h, if_pos h]
  · rw [if_neg h, if_neg h]
    by_cases q : (cls.all fun c => d6 c i goal leave) = true
    · rw [if_pos q, if_pos ((jS hs i goal leave).mpr q)]
    · rw [if_neg q, if_neg fun q' => q ((jS hs i goal leave).mp q')]
theorem vB {cls ord : List Cl} (h : ord.Perm cls) (size : Int) (i goal : Int) (leave : Bool) : kn size ord i goal leave = kn size cls i goal leave := by
  unfold kn
  have : (ord.all fun c => d6 c i goal leave) = cls.all fun c => d6 c i goal leave := by
    rw [Bool.eq_iff_iff, List.all_eq_true, List.all_eq_true]
    exact ⟨fun q c m => q c (h.mem_iff.mpr m), fun q c m => q c (h.mem_iff.mp m)⟩
  rw [this]
theorem fR {a b k c : Int} (hc : 0 ≤ c) : aN a k c < aN b k c ↔ a < b := by
  unfold aN; split <;> split <;> (lia -abstractProof)
theorem cf {a b k c : Int} (hc : 0 ≤ c) : aN a k c ≤ aN b k c ↔ a ≤ b := by
  unfold aN; split <;> split <;> (lia -abstractProof)
theorem lG {a b k c : Int} (hc : 0 ≤ c) : aN a k c = aN b k c ↔ a = b := by
  unfold aN; split <;> split <;> (lia -abstractProof)
theorem qD (c : Cl) (k m i : Int) (hm : 0 ≤ m) : aB (bH k m c) (aN i k m) = aB c i := by
  unfold aB bH
  dsimp only
  simp only [fR hm, cf hm]
  by_cases h : c.s = 1
  · simp only [h, if_true, cf hm]
  · simp only [h, false_and, if_false]
theorem wO (c : Cl) (k m i goal : Int) (leave : Bool) (hm : 0 ≤ m) : d6 (bH k m c) (aN i k m) (aN goal k m) leave = d6 c i goal leave := by
  unfold d6
  rw [qD c k m i hm, qD c k m goal hm]
  have e1 : (bH k m c).s = c.s := rfl
  have e2 : (decide (aN goal k m = (bH k m c).t0)) = decide (goal = c.t0) := by
    rw [Bool.eq_iff_iff, decide_eq_true_iff, decide_eq_true_iff]
    exact lG hm
  rw [e1, e2]
theorem xq (cls : List Cl) (size k m i goal : Int) (leave : Bool) (hm : 0 ≤ m) (h0 : 0 ≤ k) (h1 : k ≤ size) : kn (size + m) (cls.map (bH k m)) (aN i k m) (aN goal k m) leave = kn size cls i goal leave := by
  unfold kn
  have e1 : (aN goal k m < 0 ∨ size + m ≤ aN goal k m) ↔ (goal < 0 ∨ size ≤ goal) := by
    unfold aN; split <;> omega
  have e2 : ((cls.map (bH k m)).all fun c => d6 c (aN i k m) (aN goal k m) leave) = cls.all fun c => d6 c i goal leave := by
    rw [List.all_map]
    congr 1
    funext c
    exact wO c k m i goal leave hm
  rw [e2]
  by_cases q : goal < 0 ∨ size ≤ goal
  · rw [if_pos q, if_pos (e1.mpr q)]
  · rw [if_neg q, if_neg fun q' => q (e1.mp q')]
end Mine
namespace Mine
open PySem
theorem wQ {lo i j : Int} : lo ≤ mn i j ↔ lo ≤ i ∧ lo ≤ j := by
  unfold mn
  by_cases h : j < i
  · rw [if_pos h]; exact ⟨fun z => ⟨Int.le_trans z (Int.le_of_lt h), z⟩, fun z => z.2⟩
  · rw [if_neg h]; exact ⟨fun z => ⟨z, Int.le_trans z (Int.not_lt.mp h)⟩, fun z => z.1⟩
theorem wH {hi i j : Int} : mx i j ≤ hi ↔ i ≤ hi ∧ j ≤ hi := by
  unfold mx
  by_cases h : j > i
  · rw [if_pos h]; exact ⟨fun z => ⟨Int.le_trans (Int.le_of_lt h) z, z⟩, fun z => z.2⟩
  · rw [if_neg h]; exact ⟨fun z => ⟨z, Int.le_trans (Int.not_lt.mp h) z⟩, fun z => z.1⟩
theorem gU {c : Cl} {lo hi : Int} : (lo ≤ (gE c).1 ∧ (gE c).2 ≤ hi) ↔ Wi lo hi c := by
  unfold Wi gE aM
  by_cases h : c.s = 1
  · simp only [h, if_true, List.mem_cons, List.not_mem_nil, or_false, forall_eq_or_imp, forall_eq]
    rw [wQ, wQ, wH, wH]
    constructor
    · rintro ⟨⟨⟨a1, a2⟩, a3⟩, ⟨b1, b2⟩, b3⟩
      refine ⟨⟨?_, ?_⟩, ⟨?_, ?_⟩, ?_, ?_⟩ <;> assumption
    · rintro ⟨⟨h1, h2⟩, ⟨h3, h4⟩, h5, h6⟩
      refine ⟨⟨⟨?_, ?_⟩, ?_⟩, ⟨?_, ?_⟩, ?_⟩ <;> assumption
  · simp only [h, if_false, List.mem_cons, List.not_mem_nil, or_false, forall_eq_or_imp, forall_eq]
    rw [wQ, wH]
    constructor
    · rintro ⟨⟨a1, a2⟩, b1, b2⟩
      exact ⟨⟨a1, b1⟩, a2, b2⟩
    · rintro ⟨⟨h1, h2⟩, h5, h6⟩
      exact ⟨⟨h1, h5⟩, h2, h6⟩
theorem iZ {a b : Cl} : bE a b = true ↔ Wi b.t0 b.t1 a ∨ Wi b.h0 b.h1 a := by
  unfold bE
  rw [Bool.or_eq_true, Bool.and_eq_true, Bool.and_eq_true, decide_eq_true_iff, decide_eq_true_iff, decide_eq_true_iff, decide_eq_true_iff, gU, gU]
theorem kx {a b : Cl} (na : NE a) (nb : NE b) (sa : rD a) (sb : rD b) (h : af a b) : ¬ (Wi a.t0 a.t1 b ∨ Wi a.h0 a.h1 b) := by
  have a1 := na _ (am a)
  have a2 := na _ (bQ a)
  have b1 := nb _ (am b)
  have b2 := nb _ (bQ b)
  have s1 := sa (a.t0, a.t1) (.head _) _ (bK a)
  have s2 := sb (b.t0, b.t1) (.head _) _ (bK b)
  unfold af at h
  split at h
  · rename_i e
    rintro (q | q)
    · have := q _ (bQ b)
      exact al (i := b.h0) s2 (e.1 ▸ this.1) (e.2 ▸ Int.lt_of_lt_of_le b2 this.2) (Int.le_refl _) b2
    · have := q _ (am b)
      exact al (i := b.t0) s1 (Int.le_of_eq e.1) (e.2 ▸ b1) this.1 (Int.lt_of_lt_of_le b1 this.2)
  · rcases h with h | h | h
    · rintro (q | q)
      · exact al (h _ (am a) _ (am b)) (q _ (am b)).1 (Int.lt_of_lt_of_le b1 (q _ (am b)).2) (Int.le_refl _) b1
      · exact al (h _ (bQ a) _ (am b)) (q _ (am b)).1 (Int.lt_of_lt_of_le b1 (q _ (am b)).2) (Int.le_refl _) b1
    · have h1 := h _ (am a)
      have h2 := h _ (bQ a)
      rintro (q | q)
      · have := q _ (bQ b)
        exact al s2 (Int.le_trans h1.1 this.1) (Int.lt_of_lt_of_le b2 (Int.le_trans this.2 h1.2)) (Int.le_refl _) b2
      · have := q _ (bQ b)
        exact al s2 (Int.le_trans h2.1 this.1) (Int.lt_of_lt_of_le b2 (Int.le_trans this.2 h2.2)) (Int.le_refl _) b2
    · have h1 := h _ (am a)
      have h2 := h _ (bQ a)
      rintro (q | q)
      · have := q _ (am b)
        exact al s2 (Int.le_refl _) b1 (Int.le_trans h1.1 this.1) (Int.lt_of_lt_of_le b1 (Int.le_trans this.2 h1.2))
      · have := q _ (am b)
        exact al s2 (Int.le_refl _) b1 (Int.le_trans h2.1 this.1) (Int.lt_of_lt_of_le b1 (Int.le_trans this.2 h2.2))
theorem ln {a b : Cl} (na : NE a) (h : af b a) : af a b ∨ Wi a.t0 a.t1 b ∨ Wi a.h0 a.h1 b := by
  unfold af at h
  split at h
  · rename_i e
    left
    unfold af
    rw [if_pos ⟨e.1.symm, e.2.symm⟩]
    exact ⟨h.2.1, h.1, h.2.2.symm⟩
  · rcases h with h | h | h
    · exact .inl (ai na h.symm)
    · exact .inr (.inl h)
    · exact .inr (.inr h)
theorem qE {code : List Int} {a b : Cl} (ra : RightP code a) (rb : RightP code b) (h : af a b ∨ af b a) : aJ a b = !bE b a := by
  rw [Bool.eq_iff_iff, du, Bool.not_eq_true', ← Bool.not_eq_true, iZ]
  constructor
  · exact kx ra.ne rb.ne ra.self rb.self
  · intro q
    rcases h with h | h
    · exact h
    · exact (ln ra.ne h).elim id fun q' => absurd q' q
theorem qI (l : List Int) (t : Int) : aY (aY l t) t = aY l t := by
  have : t ∈ aY l t := ez.mpr (.inr rfl)
  generalize aY l t = m at this
  unfold aY
  rw [if_pos this]
theorem j5 (f : Cl → Bool) (t : Int) : ∀ (r : List Cl) (l : List Int), r.foldl (fun l b => if f b then l else aY l t) l = if r.any (fun b => !f b) then aY l t else l
  | [], l => rfl
  | b :: r, l => by
    rw [List.foldl_cons, j5 f t r, List.any_cons]
    cases f b
    · simp only [Bool.false_eq_true, if_false, Bool.not_false, Bool.true_or, if_true]
      split
      · exact qI l t
      · rfl
    · simp
noncomputable def nM : List Cl → List Int → List Int
  | [], l => l
  | a :: r, l => nM r (if r.any (fun d => bE d a) then aY l a.t0 else l)
theorem so (a r l) : nM (a :: r) l = nM r (if r.any (fun d => bE d a) then aY l a.t0 else l) := rfl
theorem told_S (cls : List Cl) : told cls = nM cls [] := by
  unfold told
  have : ∀ (xs : List Cl) (k : Nat) (l : List Int), cls.drop k = xs → (jk k xs).foldl (fun l p => if (cls.drop (p.1 + 1)).any (fun d => bE d p.2) then aY l p.2.t0 else l) l = nM xs l := by
    intro xs
    induction xs with
    | nil => intro k l _; rfl
    | cons a r ih =>
      intro k l h
      have hd : cls.drop (k + 1) = r := by rw [← List.drop_drop, h]; rfl
      rw [oX, List.foldl_cons, so, ih (k + 1) _ hd]
      dsimp only
      rw [hd]
  exact this cls 0 [] rfl
theorem pw : ∀ (cls : List Cl) (l : List Int), (cls.Pairwise fun a b => aJ a b = !bE b a) → rfS cls l = nM cls l
  | [], _, _ => rfl
  | a :: r, l, h => by
    obtain ⟨h1, h2⟩ := List.pairwise_cons.mp h
    rw [nj, so, j5, pw r _ h2]
    have : (r.any fun b => !aJ a b) = r.any fun d => bE d a := by
      have : ∀ xs : List Cl, (∀ b ∈ xs, aJ a b = !bE b a) → (xs.any fun b => !aJ a b) = xs.any fun d => bE d a := by
        intro xs
        induction xs with
        | nil => intro _; rfl
        | cons b r ih =>
          intro h
          rw [List.any_cons, List.any_cons, h b (.head _), Bool.not_not, ih fun c m => h c (.tail _ m)]
      exact this r h1
    rw [this]
theorem mL : ∀ (l : List Cl) (k : Nat), k < l.length → (clN l k :: l.eraseIdx k).Perm l
  | [], k, h => by simp at h
  | a :: r, 0, _ => .refl _
  | a :: r, k + 1, h => by
    have ih := mL r k (by simpa using h)
    have e : clN (a :: r) (k + 1) = clN r k := rfl
    rw [e, List.eraseIdx_cons_succ]
    exact (List.Perm.swap _ _ _).trans (ih.cons a)
theorem ii : ∀ (m : Nat) (pool : List Cl) (y : Int), pool.length = m → (dv m pool y).Perm pool
  | 0, pool, y, h => by
    cases pool with
    | nil => exact .refl _
    | cons _ _ => simp at h
  | m + 1, pool, y, h => by
    have h1 : 0 ≤ y.fmod (pool.length : Int) := Int.fmod_nonneg_of_pos _ (by omega)
    have h2 : y.fmod (pool.length : Int) < pool.length := Int.fmod_lt_of_pos _ (by omega)
    have hk : (y.fmod (pool.length : Int)).toNat < pool.length := toNat_lt h1 h2
    refine ((ii m _ _ ?_).cons _).trans (mL pool _ hk)
    rw [List.length_eraseIdx_of_lt hk]; omega
theorem Fine.told {code : List Int} {cls ord : List Cl} (h : Fine code cls) (hp : ord.Perm cls) : aD code ord = told ord := by
  have hr : ∀ c ∈ ord, RightP code c := fun c m => h.right c (hp.mem_iff.mp m)
  unfold aD
  rw [oj fun c m => ef.mpr (hr c m), if_pos rfl, kH, told_S]
  refine pw _ _ ?_
  have hs : cls.Pairwise fun a b => af a b ∨ af b a := h.pair.imp fun q => .inl q
  have ho : ord.Pairwise fun a b => af a b ∨ af b a := (hp.pairwise_iff fun q => q.symm).mpr hs
  have : ∀ xs : List Cl, (∀ c ∈ xs, RightP code c) → (xs.Pairwise fun a b => af a b ∨ af b a) → xs.Pairwise fun a b => aJ a b = !bE b a := by
    intro xs
    induction xs with
    | nil => intro _ _; exact List.Pairwise.nil
    | cons a r ih =>
      intro hr hp
      obtain ⟨p1, p2⟩ := List.pairwise_cons.mp hp
      exact List.pairwise_cons.mpr ⟨fun b m => qE (hr a (.head _)) (hr b (.tail _ m)) (p1 b m), ih (fun c m => hr c (.tail _ m)) p2⟩
  exact this ord hr ho
theorem jP {cls : List Cl} {c : Cl} {low high e : Int} (h : e ∈ eI cls c low high) : low < e ∧ e < high ∧ ∀ d ∈ cls, eqC d c = false → bE d c = true → ¬ ((gE d).1 < e ∧ e < (gE d).2) := by
  unfold eI at h
  obtain ⟨k, hk, e1⟩ := List.mem_filterMap.mp h
  have hk := List.mem_range.mp hk
  split at e1
  · rename_i hf
    obtain rfl := Option.some.inj e1
    refine ⟨by omega, by omega, fun d md h1 h2 h3 => ?_⟩
    unfold jQ mF at hf
    rw [List.isEmpty_iff, List.filter_eq_nil_iff] at hf
    have := hf (gE d) (List.mem_map_of_mem (List.mem_filter.mpr ⟨md, by rw [h1, h2]; rfl⟩))
    simp at this
    omega
  · exact nS e1
theorem vA {d : Cl} {lo m hi : Int} (h : Wi lo hi d) (hm : ¬ ((gE d).1 < m ∧ m < (gE d).2)) : Wi lo m d ∨ Wi m hi d := by
  have h' := gU.mpr h
  by_cases q : (gE d).2 ≤ m
  · exact .inl (gU.mp ⟨h'.1, q⟩)
  · exact .inr (gU.mp ⟨Int.not_lt.mp fun z => hm ⟨z, Int.not_le.mp q⟩, h'.2⟩)
theorem xL {x : Cl} {m k : Int} (hm : m ≤ x.t1) (hk : k ≤ x.h1) : ∀ p ∈ aM (iC x m k), ∃ q ∈ aM x, q.1 ≤ p.1 ∧ p.2 ≤ q.2 := by
  intro p mp
  unfold aM iC at mp
  unfold aM
  dsimp only at mp
  split at mp <;> rename_i h
  · rw [if_pos h]
    simp only [List.mem_cons, List.not_mem_nil, or_false] at mp
    rcases mp with rfl | rfl | rfl
    · exact ⟨_, .head _, Int.le_refl _, hm⟩
    · exact ⟨_, .tail _ (.head _), Int.le_refl _, Int.le_refl _⟩
    · exact ⟨_, .tail _ (.tail _ (.head _)), Int.le_refl _, hk⟩
  · rw [if_neg h]
    simp only [List.mem_cons, List.not_mem_nil, or_false] at mp
    rcases mp with rfl | rfl
    · exact ⟨_, .head _, Int.le_refl _, hm⟩
    · exact ⟨_, .tail _ (.head _), Int.le_refl _, hk⟩
theorem ff (x : Cl) (m k : Int) : aM (gF x m k) = [(m, x.t1), (k, x.h1)] := by
  have e : (gF x m k).s ≠ 1 := by
    unfold gF
    dsimp only
    split
    · decide
    · assumption
  unfold aM
  rw [if_neg e]; rfl
theorem xK {x : Cl} {m k : Int} (hm : x.t0 ≤ m) (hk : x.h0 ≤ k) : ∀ p ∈ aM (gF x m k), ∃ q ∈ aM x, q.1 ≤ p.1 ∧ p.2 ≤ q.2 := by
  intro p mp
  rw [ff] at mp
  simp only [List.mem_cons, List.not_mem_nil, or_false] at mp
  rcases mp with rfl | rfl
  · exact ⟨_, am x, hm, Int.le_refl _⟩
  · exact ⟨_, bQ x, hk, Int.le_refl _⟩
theorem Ap.sub {ps qs rs : List Pr} (h : Ap ps qs) (hs : ∀ r ∈ rs, ∃ q ∈ qs, q.1 ≤ r.1 ∧ r.2 ≤ q.2) : Ap ps rs := fun p mp r mr => by
  obtain ⟨q, mq, h1, h2⟩ := hs r mr
  exact (h p mp q mq).imp (Int.le_trans · h1) (Int.le_trans h2 ·)
theorem Wi.sub {x y : Cl} {lo hi : Int} (h : Wi lo hi x) (hs : ∀ r ∈ aM y, ∃ q ∈ aM x, q.1 ≤ r.1 ∧ r.2 ≤ q.2) : Wi lo hi y := fun r mr => by
  obtain ⟨q, mq, h1, h2⟩ := hs r mr
  exact ⟨Int.le_trans (h q mq).1 h1, Int.le_trans h2 (h q mq).2⟩
theorem oK {code : List Int} {x : Cl} {m k : Int} (h : RightP code x) (m1 : x.t0 < m) (m2 : m < x.t1) (k1 : x.h0 < k) (k2 : k < x.h1) : RightP code (iC x m k) ∧ RightP code (gF x m k) := by
  have ht := h.t
  have hh := h.h
  constructor
  · refine ⟨h.sort, ⟨ht.1, m1, Int.le_trans (Int.le_of_lt m2) ht.2.2⟩, ⟨hh.1, k1, Int.le_trans (Int.le_of_lt k2) hh.2.2⟩, h.f, fun p mp q mq => ?_⟩
    cases List.mem_singleton.mp mp
    have hsub : ∃ q' ∈ aI x, q'.1 ≤ q.1 ∧ q.2 ≤ q'.2 := by
      unfold aI iC at mq
      unfold aI
      dsimp only at mq
      split at mq <;> rename_i e
      · rw [if_pos e]
        simp only [List.mem_cons, List.not_mem_nil, or_false] at mq
        rcases mq with rfl | rfl
        · exact ⟨_, .head _, Int.le_refl _, Int.le_refl _⟩
        · exact ⟨_, .tail _ (.head _), Int.le_refl _, by dsimp only; exact Int.le_of_lt (by assumption)⟩
      · rw [if_neg e]
        simp only [List.mem_cons, List.not_mem_nil, or_false] at mq
        subst mq
        exact ⟨_, .head _, Int.le_refl _, by dsimp only; exact Int.le_of_lt (by assumption)⟩
    obtain ⟨q', mq', h1, h2⟩ := hsub
    have := h.self (x.t0, x.t1) (.head _) q' mq'
    exact this.imp (fun h => Int.le_trans (Int.le_of_lt m2) (Int.le_trans h h1)) (Int.le_trans h2 ·)
  · have e : (gF x m k).s ≠ 1 := by
      unfold gF
      dsimp only
      split
      · decide
      · assumption
    refine ⟨?_, ⟨Int.le_trans ht.1 (Int.le_of_lt m1), m2, ht.2.2⟩, ⟨Int.le_trans hh.1 (Int.le_of_lt k1), k2, hh.2.2⟩, fun q => absurd q e, fun p mp q mq => ?_⟩
    · have := h.sort
      unfold gF
      dsimp only
      split <;> (lia -abstractProof)
    · cases List.mem_singleton.mp mp
      unfold aI at mq
      rw [if_neg e] at mq
      cases List.mem_singleton.mp mq
      have := h.self (x.t0, x.t1) (.head _) _ (bK x)
      exact this.imp (fun h => Int.le_trans h (Int.le_of_lt k1)) (fun h => Int.le_trans h (Int.le_of_lt m1))
theorem xG {code : List Int} {x : Cl} {m k : Int} (h : RightP code x) (m1 : x.t0 < m) (m2 : m < x.t1) (k1 : x.h0 < k) (k2 : k < x.h1) : Ap (aM (iC x m k)) (aM (gF x m k)) := by
  intro p mp q mq
  rw [ff] at mq
  have s1 := h.self (x.t0, x.t1) (.head _) _ (bK x)
  unfold aM iC at mp
  dsimp only at mp s1
  split at mp <;> rename_i e
  · have s2 := h.self (x.t0, x.t1) (.head _) (x.x, x.h0) (by unfold aI; rw [if_pos e]; exact .head _)
    dsimp only at s2
    simp only [List.mem_cons, List.not_mem_nil, or_false] at mp mq
    rcases mp with rfl | rfl | rfl <;> rcases mq with rfl | rfl <;> dsimp only <;> lia
  · simp only [List.mem_cons, List.not_mem_nil, or_false] at mp mq
    rcases mp with rfl | rfl <;> rcases mq with rfl | rfl <;> dsimp only <;> lia
theorem xF {code : List Int} {x : Cl} {m k : Int} (h : RightP code x) (m1 : x.t0 < m) (m2 : m < x.t1) (k1 : x.h0 < k) (k2 : k < x.h1) : af (iC x m k) (gF x m k) :=
  ai (oK h m1 m2 k1 k2).1.ne (xG h m1 m2 k1 k2)
theorem Fine.cut {code : List Int} {cls r : List Cl} (h : Fine code cls) (hr : rF cls r) : Fine code r := by
  rcases hr with rfl | ⟨c, hc, m, k, hone, hm, hk, rfl⟩
  · exact h
  have hd : cls = cls.take c ++ clN cls c :: cls.drop (c + 1) := by
    have : cls.drop c = clN cls c :: cls.drop (c + 1) := by
      have e := b9 hc
      rw [List.drop_eq_getElem_cons hc]
      rw [List.getElem?_eq_getElem hc] at e
      rw [Option.some.inj e]
    rw [← this, List.take_append_drop]
  have fm := jP hm
  have fk := jP hk
  generalize clN cls c = x at *
  generalize cls.take c = pre at *
  generalize cls.drop (c + 1) = post at *
  have hx : x ∈ cls := by rw [hd]; simp
  have rx := h.right x hx
  obtain ⟨m1, m2, mf⟩ := fm
  obtain ⟨k1, k2, kf⟩ := fk
  obtain ⟨rA, rB⟩ := oK rx m1 m2 k1 k2
  have pAB := xF rx m1 m2 k1 k2
  have sA := xL (x := x) (m := m) (k := k) (by exact Int.le_of_lt (by assumption)) (by exact Int.le_of_lt (by assumption))
  have sB := xK (x := x) (m := m) (k := k) (by exact Int.le_of_lt (by assumption)) (by exact Int.le_of_lt (by assumption))
  have nosame : ∀ d, (d ∈ pre ∨ d ∈ post) → ¬ (d.t0 = x.t0 ∧ d.t1 = x.t1) := by
    intro d md e
    rw [hd, List.filter_append, List.filter_cons, if_pos (by simp), List.length_append, List.length_cons] at hone
    rcases md with md | md
    · have : 0 < (pre.filter fun d => decide (d.t0 = x.t0) && decide (d.t1 = x.t1)).length := List.length_pos_of_mem (List.mem_filter.mpr ⟨md, by simp [e]⟩)
      exact absurd (Nat.le_trans (Nat.add_le_add this (Nat.le_add_left 1 _)) hone) (by decide)
    · have : 0 < (post.filter fun d => decide (d.t0 = x.t0) && decide (d.t1 = x.t1)).length := List.length_pos_of_mem (List.mem_filter.mpr ⟨md, by simp [e]⟩)
      exact absurd (Nat.le_trans (Nat.add_le_add (Nat.zero_le _) (Nat.add_le_add_right this 1)) hone) (by decide)
  have hp := h.pair
  rw [hd, List.pairwise_append, List.pairwise_cons] at hp
  obtain ⟨p1, ⟨p2, p3⟩, p4⟩ := hp
  have selfx := rx.self
  have before : ∀ d ∈ pre, af d (iC x m k) ∧ af d (gF x m k) := by
    intro d md
    have rd := h.right d (by rw [hd]; simp [md])
    have hpx := p4 d md x (.head _)
    have ns := nosame d (.inl md)
    have neq : eqC d x = false := by
      cases q : eqC d x with
      | false => rfl
      | true =>
        unfold eqC at q
        simp only [Bool.and_eq_true, decide_eq_true_iff] at q
        exact absurd ⟨q.2.1, q.2.2.1⟩ ns
    have hdc : d ∈ cls := by rw [hd]; simp [md]
    unfold af at hpx
    rw [if_neg ns] at hpx
    rcases hpx with q | q | q
    · exact ⟨ai rd.ne (q.sub sA), ai rd.ne (q.sub sB)⟩
    · have hcut := vA q (mf d hdc neq (iZ.mpr (.inl q)))
      rcases hcut with hcut | hcut
      · refine ⟨gP rd.ne rd.self hcut, ai rd.ne fun p mp r mr => ?_⟩
        have := hcut p mp
        rw [ff] at mr
        have s1 := selfx (x.t0, x.t1) (.head _) _ (bK x)
        simp only [List.mem_cons, List.not_mem_nil, or_false] at mr
        rcases mr with rfl | rfl
        · exact .inl this.2
        · exact s1.imp (fun h => Int.le_trans this.2 (Int.le_trans (Int.le_of_lt m2) (Int.le_trans h (Int.le_of_lt k1)))) fun h => Int.le_trans h this.1
      · refine ⟨ai rd.ne fun p mp r mr => ?_, gP rd.ne rd.self (by unfold gF; exact hcut)⟩
        have hp := hcut p mp
        have hp' := rd.ne p mp
        rw [bX] at mr
        rcases List.mem_cons.mp mr with rfl | mr
        · right; exact hp.1
        · have hsub := rA.self
          have s1 : x.t1 ≤ r.1 ∨ r.2 ≤ x.t0 := by
            unfold aI iC at mr
            dsimp only at mr
            have s1 := selfx (x.t0, x.t1) (.head _) _ (bK x)
            dsimp only at s1
            split at mr <;> rename_i e
            · have s2 := selfx (x.t0, x.t1) (.head _) (x.x, x.h0) (by unfold aI; rw [if_pos e]; exact .head _)
              dsimp only at s2
              simp only [List.mem_cons, List.not_mem_nil, or_false] at mr
              rcases mr with rfl | rfl <;> first | exact s2 | exact s1.imp id fun h => Int.le_trans (Int.le_of_lt k2) h
            · simp only [List.mem_cons, List.not_mem_nil, or_false] at mr
              subst mr
              exact s1.imp id fun h => Int.le_trans (Int.le_of_lt k2) h
          exact s1.imp (Int.le_trans hp.2 ·) fun h => Int.le_trans h (Int.le_trans (Int.le_of_lt m1) hp.1)
    · have hcut := vA q (kf d hdc neq (iZ.mpr (.inr q)))
      have s1 := selfx (x.t0, x.t1) (.head _) _ (bK x)
      dsimp only at s1
      rcases hcut with hcut | hcut
      · refine ⟨ej rd.ne rA.ne rA.self hcut, ai rd.ne fun p mp r mr => ?_⟩
        have hc := hcut p mp
        rw [ff] at mr
        simp only [List.mem_cons, List.not_mem_nil, or_false] at mr
        rcases mr with rfl | rfl
        · exact s1.symm.imp (fun h => Int.le_trans (Int.le_trans hc.2 (Int.le_of_lt k2)) (Int.le_trans h (Int.le_of_lt m1))) fun h => Int.le_trans h hc.1
        · exact .inl hc.2
      · refine ⟨ai rd.ne fun p mp r mr => ?_, ej rd.ne rB.ne rB.self hcut⟩
        have hc := hcut p mp
        have ht : p.2 ≤ x.t0 ∨ m ≤ p.1 := s1.symm.imp (Int.le_trans hc.2 ·) fun h => Int.le_trans (Int.le_trans (Int.le_of_lt m2) h) (Int.le_trans (Int.le_of_lt k1) hc.1)
        unfold aM iC at mr
        dsimp only at mr
        split at mr <;> rename_i e
        · simp only [List.mem_cons, List.not_mem_nil, or_false] at mr
          rcases mr with rfl | rfl | rfl <;> first | exact ht | exact .inr hc.1 | exact .inr (Int.le_trans (Int.le_of_lt k1) hc.1)
        · simp only [List.mem_cons, List.not_mem_nil, or_false] at mr
          rcases mr with rfl | rfl <;> first | exact ht | exact .inr hc.1
  have after : ∀ d ∈ post, af (iC x m k) d ∧ af (gF x m k) d := by
    intro d md
    have rd := h.right d (by rw [hd]; simp [md])
    have hpx := p2 d md
    have ns := nosame d (.inr md)
    unfold af at hpx
    rw [if_neg fun q => ns ⟨q.1.symm, q.2.symm⟩] at hpx
    rcases hpx with q | q | q
    · exact ⟨ai rA.ne (q.symm.sub sA).symm, ai rB.ne (q.symm.sub sB).symm⟩
    · exact ⟨gP rA.ne rA.self (q.sub sA), gP rB.ne rB.self (q.sub sB)⟩
    · exact ⟨ej rA.ne rd.ne rd.self (q.sub sA), ej rB.ne rd.ne rd.self (q.sub sB)⟩
  refine ⟨fun d md => ?_, ?_⟩
  · rcases List.mem_append.mp md with md | md
    · rcases List.mem_append.mp md with md | md
      · exact h.right d (by rw [hd]; simp [md])
      · simp only [List.mem_cons, List.not_mem_nil, or_false] at md
        rcases md with rfl | rfl
        · exact rA
        · exact rB
    · exact h.right d (by rw [hd]; simp [md])
  · rw [List.append_assoc, List.pairwise_append]
    refine ⟨p1, ?_, fun a ma b mb => ?_⟩
    · show (iC x m k :: gF x m k :: post).Pairwise af
      rw [List.pairwise_cons, List.pairwise_cons]
      refine ⟨fun b mb => ?_, fun b mb => (after b mb).2, p3⟩
      rcases List.mem_cons.mp mb with rfl | mb
      · exact pAB
      · exact (after b mb).1
    · rcases List.mem_append.mp mb with mb | mb
      · simp only [List.mem_cons, List.not_mem_nil, or_false] at mb
        rcases mb with rfl | rfl
        · exact (before a ma).1
        · exact (before a ma).2
      · exact p4 a ma b (.tail _ mb)
end Mine
namespace Mine
open PySem
noncomputable def m6 (k m : Int) (p : Pr) : Pr := (aN p.1 k m, aN p.2 k m)
theorem jy (k m : Int) (c : Cl) : aM (bH k m c) = (aM c).map (m6 k m) := by
  unfold aM bH m6
  dsimp only
  split <;> rfl
theorem lS (k m : Int) (c : Cl) : aI (bH k m c) = (aI c).map (m6 k m) := by
  unfold aI bH m6
  dsimp only
  split <;> rfl
theorem sg {k m : Int} (hm : 0 ≤ m) (ps qs : List Pr) : Ap (ps.map (m6 k m)) (qs.map (m6 k m)) ↔ Ap ps qs := by
  unfold Ap
  constructor
  · intro h p mp q mq
    have := h _ (List.mem_map_of_mem mp) _ (List.mem_map_of_mem mq)
    unfold m6 at this
    dsimp only at this
    rwa [cf hm, cf hm] at this
  · intro h p mp q mq
    refine aA (List.mem_map.mp mp) fun p' mp' e2_ => ?_; obtain rfl := e2_
    refine aA (List.mem_map.mp mq) fun q' mq' e2_ => ?_; obtain rfl := e2_
    unfold m6
    dsimp only
    rw [cf hm, cf hm]
    exact h p' mp' q' mq'
theorem u9 {k m : Int} (hm : 0 ≤ m) (lo hi : Int) (c : Cl) : Wi (aN lo k m) (aN hi k m) (bH k m c) ↔ Wi lo hi c := by
  unfold Wi
  rw [jy]
  constructor
  · intro h p mp
    have := h _ (List.mem_map_of_mem mp)
    unfold m6 at this
    dsimp only at this
    rwa [cf hm, cf hm] at this
  · intro h p mp
    refine aA (List.mem_map.mp mp) fun p' mp' e2_ => ?_; obtain rfl := e2_
    unfold m6
    dsimp only
    rw [cf hm, cf hm]
    exact h p' mp'
theorem qF {k m : Int} (hm : 0 ≤ m) (a b : Cl) : af (bH k m a) (bH k m b) ↔ af a b := by
  unfold af
  have e1 : ((bH k m a).t0 = (bH k m b).t0 ∧ (bH k m a).t1 = (bH k m b).t1) ↔ (a.t0 = b.t0 ∧ a.t1 = b.t1) := by
    show (aN a.t0 k m = aN b.t0 k m ∧ aN a.t1 k m = aN b.t1 k m) ↔ _
    rw [lG hm, lG hm]
  have e2 : bc (bH k m a) = bc a := rfl
  have e3 : bc (bH k m b) = bc b := rfl
  have e4 : Wi (bH k m b).t0 (bH k m b).t1 (bH k m a) ↔ Wi b.t0 b.t1 a := u9 hm _ _ _
  have e5 : Wi (bH k m b).h0 (bH k m b).h1 (bH k m a) ↔ Wi b.h0 b.h1 a := u9 hm _ _ _
  rw [e2, e3, lS, lS, sg hm, jy, jy, sg hm, e4, e5]
  by_cases q : a.t0 = b.t0 ∧ a.t1 = b.t1
  · rw [if_pos q, if_pos (e1.mpr q)]
  · rw [if_neg q, if_neg fun q' => q (e1.mp q')]
theorem pj {k m : Int} (hm : 0 ≤ m) (c : Cl) : rD (bH k m c) ↔ rD c := by
  unfold rD
  rw [lS]
  exact sg hm [(c.t0, c.t1)] (aI c)
theorem n8 {code : List Int} {k m : Nat} (h : k ≤ code.length) : ∃ l1 l2, code = l1 ++ l2 ∧ l1.length = k ∧ gD code k m = l1 ++ (List.replicate m 0 ++ l2) :=
  ⟨code.take k, code.drop k, (List.take_append_drop k code).symm, List.length_take_of_le h, List.append_assoc ..⟩
theorem sI {code : List Int} {k : Int} {m : Nat} (h0 : 0 ≤ k) (h1 : k ≤ code.length) (i : Int) (hi : 0 ≤ i) : (gD code k m).getD (aN i k m).toNat 0 = code.getD i.toNat 0 := by
  obtain ⟨k, rfl⟩ := Int.eq_ofNat_of_zero_le h0
  obtain ⟨i, rfl⟩ := Int.eq_ofNat_of_zero_le hi
  obtain ⟨l1, l2, rfl, rfl, e⟩ := n8 (m := m) (Int.ofNat_le.mp h1)
  rw [e]
  unfold aN
  by_cases q : l1.length ≤ i
  · obtain ⟨j, rfl⟩ := Nat.exists_eq_add_of_le q
    rw [if_pos (Int.ofNat_le.mpr q)]
    show (l1 ++ (List.replicate m 0 ++ l2)).getD (l1.length + j + m) 0 = (l1 ++ l2).getD (l1.length + j) 0
    rw [List.getD, List.getD, Nat.add_assoc, List.getElem?_append_right (Nat.le_add_right ..), List.getElem?_append_right (Nat.le_add_right ..), Nat.add_sub_cancel_left, Nat.add_sub_cancel_left, Nat.add_comm j m, List.getElem?_append_right (by rw [List.length_replicate]; exact Nat.le_add_right ..), List.length_replicate, Nat.add_sub_cancel_left]
  · rw [if_neg fun z => q (Int.ofNat_le.mp z)]
    show (l1 ++ (List.replicate m 0 ++ l2)).getD i 0 = (l1 ++ l2).getD i 0
    rw [List.getD, List.getD, List.getElem?_append_left (Nat.lt_of_not_le q), List.getElem?_append_left (Nat.lt_of_not_le q)]
theorem yq {code : List Int} {k : Int} {m : Nat} (h0 : 0 ≤ k) (h1 : k ≤ code.length) (i : Int) (hi : k ≤ i) (hi2 : i < k + m) : (gD code k m).getD i.toNat 0 = 0 := by
  obtain ⟨i, rfl⟩ := Int.eq_ofNat_of_zero_le (Int.le_trans h0 hi)
  obtain ⟨k, rfl⟩ := Int.eq_ofNat_of_zero_le h0
  obtain ⟨l1, l2, rfl, rfl, e⟩ := n8 (m := m) (Int.ofNat_le.mp h1)
  rw [e]
  obtain ⟨j, rfl⟩ := Nat.exists_eq_add_of_le (Int.ofNat_le.mp hi)
  have hj : j < m := Nat.lt_of_add_lt_add_left (Int.ofNat_lt.mp hi2)
  show (l1 ++ (List.replicate m 0 ++ l2)).getD (l1.length + j) 0 = 0
  rw [List.getD, List.getElem?_append_right (Nat.le_add_right ..), Nat.add_sub_cancel_left, List.getElem?_append_left (by rw [List.length_replicate]; exact hj), List.getElem?_replicate, if_pos hj]
  rfl
theorem oy {i k m : Int} (h : i < k) : aN i k m = i := if_neg (Int.not_le.mpr h)
theorem oz {i k m : Int} (h : k ≤ i) : aN i k m = i + m := if_pos h
theorem tD {k m : Int} (h0 : 0 ≤ k) (hm : 0 ≤ m) (e : Int) : 0 ≤ aN e k m ↔ 0 ≤ e := by
  by_cases q : k ≤ e
  · rw [oz q]; exact ⟨fun Z => Int.le_trans h0 q, fun h => Int.add_nonneg h hm⟩
  · rw [oy (Int.not_le.mp q)]
theorem vz {k m n : Int} (h1 : k ≤ n) (hm : 0 ≤ m) (e : Int) : aN e k m ≤ n + m ↔ e ≤ n := by
  by_cases q : k ≤ e
  · rw [oz q]; exact Int.add_le_add_iff_right m
  · rw [oy (Int.not_le.mp q)]
    have q := Int.le_trans (Int.le_of_lt (Int.not_le.mp q)) h1
    exact ⟨fun Z => q, fun h => Int.le_trans h (Int.le_add_of_nonneg_right hm)⟩
theorem mK {code : List Int} {k : Int} {m : Nat} (hm : 0 < m) (h0 : 0 ≤ k) (h1 : k ≤ code.length) (x h : Int) (hk : h ≠ k ∨ k = 0) : ay (gD code k m) (aN x k m) (aN h k m) = true ↔ ay code x h = true := by
  rw [dF, dF]
  have hm' : (0 : Int) ≤ (m : Int) := by exact Int.natCast_nonneg _
  rw [fR hm']
  have e0 : 0 ≤ aN x k m ↔ 0 ≤ x := tD h0 hm' x
  rw [e0]
  constructor
  · rintro ⟨a1, a2, a3⟩
    refine ⟨a1, a2, fun i b1 b2 => ?_⟩
    have := a3 (aN i k m) ((cf hm').mpr b1) ((fR hm').mpr b2)
    rw [sI h0 h1 i (by exact Int.le_trans (by assumption) (by assumption))] at this
    rw [this]
    unfold aN
    split <;> split <;> (lia -abstractProof)
  · rintro ⟨a1, a2, a3⟩
    refine ⟨a1, a2, fun i b1 b2 => ?_⟩
    by_cases q1 : i < k
    · have e : aN i k m = i := oy q1
      have hi0 : 0 ≤ i := by
        have := e0.mpr a1
        exact Int.le_trans (by assumption) (by assumption)
      have := sI (m := m) h0 h1 i hi0
      rw [e] at this
      rw [this, a3 i (by unfold aN at b1; split at b1 <;> (lia -abstractProof)) (by unfold aN at b2; split at b2 <;> (lia -abstractProof))]
      unfold aN
      split <;> (lia -abstractProof)
    · by_cases q2 : i < k + m
      · rw [yq h0 h1 i (by exact Int.not_lt.mp (by assumption)) q2]
        constructor
        · intro q; cases q
        · intro q
          unfold aN at q b1
          split at q <;> split at b1 <;> (lia -abstractProof)
      · have q3 : k ≤ i - m := Int.le_sub_right_of_add_le (Int.not_lt.mp q2)
        have e : aN (i - m) k m = i := (oz q3).trans (Int.sub_add_cancel i m)
        have := sI (m := m) h0 h1 (i - m) (Int.le_trans h0 q3)
        rw [e] at this
        rw [this, a3 (i - m) (by unfold aN at b1; split at b1 <;> (lia -abstractProof)) (by unfold aN at b2; split at b2 <;> (lia -abstractProof))]
        unfold aN
        split <;> (lia -abstractProof)
theorem ni {code : List Int} {k : Int} {m : Nat} (hm : 0 < m) (h0 : 0 ≤ k) (h1 : k ≤ code.length) (c : Cl) (hk : c.s = 1 → c.h0 ≠ k ∨ k = 0) : RightP (gD code k m) (bH k m c) ↔ RightP code c := by
  have hm' : (0 : Int) ≤ (m : Int) := by exact Int.natCast_nonneg _
  have hl : ((gD code k m).length : Int) = code.length + m := by rw [mE _ _ _ h0 h1]; lia
  have b0 : ∀ e : Int, 0 ≤ aN e k m ↔ 0 ≤ e := tD h0 hm'
  have b1 : ∀ e : Int, aN e k m ≤ code.length + m ↔ e ≤ code.length := vz h1 hm'
  constructor
  · rintro ⟨r1, r2, r3, r4, r5⟩
    rw [hl] at r2 r3
    refine ⟨r1, ⟨(b0 _).mp r2.1, (fR hm').mp r2.2.1, (b1 _).mp r2.2.2⟩, ⟨(b0 _).mp r3.1, (fR hm').mp r3.2.1, (b1 _).mp r3.2.2⟩, fun e => ?_, (pj hm' c).mp r5⟩
    have := r4 e
    unfold bH at this
    dsimp only at this
    rw [if_pos e] at this
    exact (mK hm h0 h1 _ _ (hk e)).mp this
  · rintro ⟨r1, r2, r3, r4, r5⟩
    refine ⟨r1, ?_, ?_, fun e => ?_, (pj hm' c).mpr r5⟩
    · rw [hl]; exact ⟨(b0 _).mpr r2.1, (fR hm').mpr r2.2.1, (b1 _).mpr r2.2.2⟩
    · rw [hl]; exact ⟨(b0 _).mpr r3.1, (fR hm').mpr r3.2.1, (b1 _).mpr r3.2.2⟩
    · have e : c.s = 1 := e
      unfold bH
      dsimp only
      rw [if_pos e]
      exact (mK hm h0 h1 _ _ (hk e)).mpr (r4 e)
theorem s4 (cls : List Cl) (y : Int) (size : Nat) : ∀ c ∈ cls, c.s = 1 → c.h0 ≠ bS cls y size ∨ bS cls y size = 0 := by
  intro c hc e
  unfold bS
  split
  · exact .inr rfl
  · rename_i h
    left
    intro q
    exact h (List.mem_filterMap.mpr ⟨c, hc, by rw [if_pos e, q]⟩)
theorem Fine.mov {code : List Int} {cls : List Cl} (h : Fine code cls) (y : Int) {m : Nat} (hm : 0 < m) : Fine (gD code (bS cls y code.length) m) (cls.map (bH (bS cls y code.length) m)) := by
  obtain ⟨h0, h1⟩ := gL cls y code.length
  have hs := s4 cls y code.length
  generalize bS cls y code.length = k at *
  refine ⟨fun c mc => ?_, ?_⟩
  · refine aA (List.mem_map.mp mc) fun d md e2_ => ?_; obtain rfl := e2_
    exact (ni hm h0 h1 d (hs d md)).mpr (h.right d md)
  · rw [List.pairwise_map]
    exact h.pair.imp fun q => (qF (by exact Int.natCast_nonneg _) _ _).mpr q
theorem nx {f : Int → Int} (hf : ∀ a b, f a = f b → a = b) (l : List Int) (t : Int) : aY (l.map f) (f t) = (aY l t).map f := by
  unfold aY
  by_cases h : t ∈ l
  · rw [if_pos h, if_pos (List.mem_map_of_mem h)]
  · rw [if_neg h, if_neg, List.map_append]
    · rfl
    · intro q
      refine aA (List.mem_map.mp q) fun u mu e => ?_
      exact h (hf _ _ e ▸ mu)
theorem rf_mov {code code' : List Int} {k m : Int} (hm : 0 ≤ m) {cls : List Cl} (hr : ∀ c ∈ cls, aH code' (bH k m c) = aH code c) : aD code' (cls.map (bH k m)) = (aD code cls).map fun t => aN t k m := by
  have hf : ∀ a b : Int, aN a k m = aN b k m → a = b := fun a b => (lG hm).mp
  have h1 : rf1 code' (cls.map (bH k m)) = (rf1 code cls).map fun t => aN t k m := by
    unfold rf1
    have : ∀ (xs : List Cl) (l : List Int), (∀ c ∈ xs, aH code' (bH k m c) = aH code c) → (xs.map (bH k m)).foldl (fun l c => if aH code' c then l else aY l c.t0) (l.map fun t => aN t k m) = (xs.foldl (fun l c => if aH code c then l else aY l c.t0) l).map fun t => aN t k m := by
      intro xs
      induction xs with
      | nil => intro l _; rfl
      | cons c r ih =>
        intro l h
        rw [List.map_cons, List.foldl_cons, List.foldl_cons, ← ih _ fun d md => h d (.tail _ md), h c (.head _)]
        congr 1
        split
        · rfl
        · exact nx hf l c.t0
    exact this cls [] hr
  have h2 : ∀ (xs : List Cl) (l : List Int), rfS (xs.map (bH k m)) (l.map fun t => aN t k m) = (rfS xs l).map fun t => aN t k m := by
    intro xs
    induction xs with
    | nil => intro l; rfl
    | cons a r ih =>
      intro l
      rw [List.map_cons, nj, nj, ← ih]
      congr 1
      have : ∀ (ys : List Cl) (l : List Int), (ys.map (bH k m)).foldl (fun l b => if aJ (bH k m a) b then l else aY l (bH k m a).t0) (l.map fun t => aN t k m) = (ys.foldl (fun l b => if aJ a b then l else aY l a.t0) l).map fun t => aN t k m := by
        intro ys
        induction ys with
        | nil => intro l; rfl
        | cons b r ih =>
          intro l
          rw [List.map_cons, List.foldl_cons, List.foldl_cons, ← ih]
          congr 1
          have e : aJ (bH k m a) (bH k m b) = aJ a b := by
            rw [Bool.eq_iff_iff, du, du]; exact qF hm a b
          rw [e]
          split
          · rfl
          · exact nx hf l a.t0
      exact this r l
  unfold aD
  rw [h1, kH, kH]
  by_cases q : rf1 code cls = []
  · rw [if_pos q, if_pos (by rw [q]; rfl)]
    exact h2 cls []
  · rw [if_neg q, if_neg (by intro e; exact q (List.map_eq_nil_iff.mp e))]
theorem vE (code : List Int) (ts : List Cl) (y : Int) : aD (gD code (bS ts y code.length) 2) (ts.map (bH (bS ts y code.length) 2)) = (aD code ts).map (fun t => aN t (bS ts y code.length) 2) := by
  obtain ⟨h0, h1⟩ := gL ts y code.length
  have hs := s4 ts y code.length
  generalize bS ts y code.length = k at *
  refine rf_mov (by decide) fun c mc => ?_
  rw [Bool.eq_iff_iff, ef, ef]
  exact ni (m := 2) (by decide) h0 h1 c (hs c mc)
theorem rf_one (code : List Int) (c : Cl) : aD code [c] = if aH code c then [] else [c.t0] := by
  unfold aD rf1
  rw [List.foldl_cons, List.foldl_nil]
  by_cases h : aH code c = true
  · rw [if_pos h, if_pos rfl, if_pos h, kH]; rfl
  · rw [if_neg h, if_neg h, if_neg (by unfold aY; simp)]; unfold aY; simp
theorem rf_two (code : List Int) (a b : Cl) (ha : aH code a = true) (hb : aH code b = true) : aD code [a, b] = if aJ a b then [] else [a.t0] := by
  unfold aD
  rw [oj (by intro c m; simp at m; rcases m with rfl | rfl <;> assumption), if_pos rfl, kH]
  show (if aJ a b = true then [] else aY [] a.t0) = _
  split
  · rfl
  · unfold aY; simp
theorem vG (code : List Int) (ts : List Cl) : aD code ts = ig code ts := by
  have h1 : eG code ts = rf1 code ts := by
    unfold eG rf1
    congr 1
    funext l c
    rw [rf_one]
    split
    · rfl
    · rfl
  unfold aD ig
  rw [h1]
  by_cases q : rf1 code ts = []
  · rw [if_pos q, if_pos q]
    have hr : ∀ c ∈ ts, aH code c = true := by
      have : ∀ (xs : List Cl) (l : List Int), (∃ c ∈ xs, ¬ aH code c = true) ∨ l ≠ [] → xs.foldl (fun l c => if aH code c then l else aY l c.t0) l ≠ [] := by
        intro xs
        induction xs with
        | nil => rintro l (⟨c, m, _⟩ | h); · cases m
                 exact h
        | cons c r ih =>
          rintro l h
          rw [List.foldl_cons]
          refine ih _ ?_
          by_cases hc : aH code c = true
          · rw [if_pos hc]
            rcases h with ⟨d, md, hd⟩ | h
            · rcases List.mem_cons.mp md with rfl | md
              · exact absurd hc hd
              · exact .inl ⟨d, md, hd⟩
            · exact .inr h
          · rw [if_neg hc]
            right
            intro e
            have : c.t0 ∈ aY l c.t0 := ez.mpr (.inr rfl)
            rw [e] at this; cases this
      intro c mc
      cases hq : aH code c with
      | true => rfl
      | false => exact absurd q (this ts [] (.inl ⟨c, mc, by rw [hq]; decide⟩))
    unfold ow rf2
    have hz : jk 0 ts = (List.range ts.length).map fun k => (k, clN ts k) := by
      have : ∀ (xs : List Cl) (k : Nat), ts.drop k = xs → jk k xs = (List.range xs.length).map fun j => (k + j, clN ts (k + j)) := by
        intro xs
        induction xs with
        | nil => intro k _; rfl
        | cons a r ih =>
          intro k h
          have hk : k < ts.length := by
            have := congrArg List.length h
            rw [List.length_drop, List.length_cons] at this; omega
          have hd : ts.drop (k + 1) = r := by rw [← List.drop_drop, h]; rfl
          have ha : clN ts k = a := by
            unfold clN
            have : ts[k]? = (ts.drop k)[0]? := by rw [List.getElem?_drop]; rfl
            rw [this, h]; rfl
          rw [oX, ih (k + 1) hd, List.length_cons, List.range_succ_eq_map, List.map_cons, List.map_map, show k + 0 = k from rfl, ha]
          congr 1
          refine List.map_congr_left fun j Z => ?_
          show (k + 1 + j, clN ts (k + 1 + j)) = (k + (j + 1), clN ts (k + (j + 1)))
          rw [show k + 1 + j = k + (j + 1) by omega]
      have h := this ts 0 rfl
      simp only [Nat.zero_add] at h
      exact h
    rw [hz, List.foldl_map]
    have hcong : ∀ (xs : List Nat) (l : List Int), (∀ k ∈ xs, k < ts.length) → xs.foldl (fun l k => oi ts (clN ts k) k l) l = xs.foldl (fun l c => (List.range (ts.length - (c + 1))).foldl (fun l j => rC l (aD code [clN ts c, clN ts (c + 1 + j)])) l) l := by
      intro xs
      induction xs with
      | nil => intro l _; rfl
      | cons k r ih =>
        intro l h
        rw [List.foldl_cons, List.foldl_cons, ih _ fun j mj => h j (.tail _ mj)]
        congr 1
        have hk := h k (.head _)
        unfold oi
        have : ∀ (js : List Nat) (l : List Int), (∀ j ∈ js, k + 1 + j < ts.length) → js.foldl (fun l j => if (match ts[k + 1 + j]? with | some b => aJ (clN ts k) b | none => true) = true then l else aY l (clN ts k).t0) l = js.foldl (fun l j => rC l (aD code [clN ts k, clN ts (k + 1 + j)])) l := by
          intro js
          induction js with
          | nil => intro l _; rfl
          | cons j r ih =>
            intro l h
            rw [List.foldl_cons, List.foldl_cons, ih _ fun i mi => h i (.tail _ mi)]
            congr 1
            have hj := h j (.head _)
            rw [b9 hj, rf_two code _ _ (hr _ (dJ hk)) (hr _ (dJ hj))]
            dsimp only
            split
            · rfl
            · rfl
        exact this _ l fun j mj => by have := List.mem_range.mp mj; omega
    exact hcong _ [] fun k mk => List.mem_range.mp mk
  · rw [if_neg q, if_neg q]
end Mine
namespace Mine
open PySem
theorem ltF (a b : Int) : aW (toF a) (toF b) = decide (a < b) := by
  unfold toF
  rw [ch, if_pos rfl, ch]
  by_cases h : a = b
  · rw [if_pos h]; subst h; exact (decide_eq_false (Int.lt_irrefl _)).symm
  · rw [if_neg h]
theorem insE_I (a : Int) (l : List Int) : j1 toF a l = ky a l := by
  induction l with
  | nil => rfl
  | cons b r ih =>
    show (if aW (toF b) (toF a) = true then b :: j1 toF a r else a :: b :: r) = if a ≤ b then a :: b :: r else b :: ky a r
    rw [ltF, ih]
    by_cases h : b < a
    · rw [if_pos (decide_eq_true h), if_neg (Int.not_le.mpr h)]
    · rw [if_neg (by rw [decide_eq_false h]; exact Bool.false_ne_true), if_pos (Int.not_lt.mp h)]
theorem su (l : List Int) : bU toF l = eZ l := congrArg (fun f => l.foldr f []) (funext fun a => funext (insE_I a))
theorem rN {l l' : List Int} (h : l.Perm l') : bU toF l = bU toF l' := by
  rw [su, su]
  exact lks_uniq ((fM l).trans (h.trans (fM l').symm)) (dX l) (dX l')
theorem om (code : List Int) (cls : List Cl) (t : Int) : t ∈ rf1 code cls ↔ ∃ c ∈ cls, aH code c = false ∧ t = c.t0 := by
  unfold rf1
  have : ∀ (xs : List Cl) (l : List Int), t ∈ xs.foldl (fun l c => if aH code c then l else aY l c.t0) l ↔ t ∈ l ∨ ∃ c ∈ xs, aH code c = false ∧ t = c.t0 := by
    intro xs
    induction xs with
    | nil => intro l; simp
    | cons c r ih =>
      intro l
      rw [List.foldl_cons, ih]
      cases hc : aH code c
      · rw [if_neg (by decide), ez]
        simp [hc]
        grind
      · rw [if_pos rfl]
        simp [hc]
  rw [this]; simp
noncomputable def pX : List Cl → Int → Prop
  | [], _ => False
  | a :: r, t => (t = a.t0 ∧ ∃ b ∈ r, aJ a b = false) ∨ pX r t
theorem BadP_n (t) : pX [] t = False := rfl
theorem pW (a r t) : pX (a :: r) t = ((t = a.t0 ∧ ∃ b ∈ r, aJ a b = false) ∨ pX r t) := rfl
theorem og (t : Int) : ∀ (cls : List Cl) (l : List Int), t ∈ rfS cls l ↔ t ∈ l ∨ pX cls t
  | [], l => by simp [rfS_n, BadP_n]
  | a :: r, l => by
    rw [nj, og t r, j5, pW]
    by_cases h : (r.any fun b => !aJ a b) = true
    · rw [if_pos h, ez]
      have : ∃ b ∈ r, aJ a b = false := by simpa using h
      grind
    · rw [if_neg h]
      have : ¬ ∃ b ∈ r, aJ a b = false := by simpa using h
      grind
theorem xj (pre : List Cl) {xs ys : List Cl} {t : Int} (hm : ∀ b, b ∈ xs ↔ b ∈ ys) (h : pX xs t ↔ pX ys t) : pX (pre ++ xs) t ↔ pX (pre ++ ys) t := by
  induction pre with
  | nil => exact h
  | cons a r ih =>
    rw [List.cons_append, List.cons_append, pW, pW, ih]
    have : (∃ b ∈ r ++ xs, aJ a b = false) ↔ ∃ b ∈ r ++ ys, aJ a b = false := by
      constructor
      · rintro ⟨b, m, e⟩
        exact ⟨b, by rw [List.mem_append] at m ⊢; exact m.imp id (hm b).mp, e⟩
      · rintro ⟨b, m, e⟩
        exact ⟨b, by rw [List.mem_append] at m ⊢; exact m.imp id (hm b).mpr, e⟩
    rw [this]
theorem vF (code : List Int) (ts : List Cl) (x : Int) : bU toF (aD code (cw ts x)) = bU toF (aD code ts) := by
  rcases oH ts x with e | ⟨pre, a, b, post, e1, e2, ho⟩
  · rw [e]
  · rw [e2]
    have n1 := (bV code (pre ++ b :: a :: post)).1
    have n2 := (bV code ts).1
    refine rN ((List.perm_ext_iff_of_nodup n1 n2).mpr fun t => ?_)
    have hmem : ∀ c, c ∈ b :: a :: post ↔ c ∈ a :: b :: post := fun c => by simp only [List.mem_cons]; grind
    have hmem' : ∀ c, c ∈ pre ++ b :: a :: post ↔ c ∈ pre ++ a :: b :: post := fun c => by rw [List.mem_append, List.mem_append, hmem]
    have h1 : ∀ u, u ∈ rf1 code (pre ++ b :: a :: post) ↔ u ∈ rf1 code (pre ++ a :: b :: post) := fun u => by
      rw [om, om]
      constructor
      · rintro ⟨c, m, q⟩; exact ⟨c, (hmem' c).mp m, q⟩
      · rintro ⟨c, m, q⟩; exact ⟨c, (hmem' c).mpr m, q⟩
    have h2 : rf1 code (pre ++ b :: a :: post) = [] ↔ rf1 code (pre ++ a :: b :: post) = [] := by
      rw [List.eq_nil_iff_forall_not_mem, List.eq_nil_iff_forall_not_mem]
      exact forall_congr' fun u => not_congr (h1 u)
    rw [e1]
    unfold aD
    by_cases q : rf1 code (pre ++ a :: b :: post) = []
    · rw [if_pos q, if_pos (h2.mpr q), kH, kH, og, og]
      refine or_congr Iff.rfl (xj pre hmem ?_)
      have ra : ∀ c ∈ pre ++ a :: b :: post, RightP code c := fun c m => by
        rw [List.eq_nil_iff_forall_not_mem] at q
        have := q c.t0
        rw [om] at this
        cases hq : aH code c with
        | true => exact ef.mp hq
        | false => exact absurd ⟨c, m, hq, rfl⟩ this
      have na := (ra a (by simp)).ne
      have nb := (ra b (by simp)).ne
      have sw := nu na nb ho
      have hc := fy na nb ho
      have hab : aJ a b = aJ b a := by rw [Bool.eq_iff_iff, du, du]; exact sw
      have ht : aJ a b = false → a.t0 = b.t0 := by
        intro hf
        rcases hc with hc | hc
        · exact hc.1
        · rw [← Bool.not_eq_true, du] at hf
          exact absurd (ai na hc) hf
      simp only [pW, List.mem_cons, exists_eq_or_imp]
      rw [← hab]
      cases hpq : aJ a b
      · have := ht hpq
        rw [this]
        grind
      · grind
    · rw [if_neg q, if_neg fun q' => q (h2.mp q')]
      exact h1 t
noncomputable def bN (c : Cl) (p : Int) : Int := if p = 0 then c.t1 - c.t0 else if p = 1 then c.h0 - c.x else c.h1 - c.h0
noncomputable def dn (i : Int) (c : Cl) : Sp := (bN c (aB c i), aB c i, c.s)
noncomputable def bI (i : Int) (cls : List Cl) : List Cl := cls.filter fun c => decide (0 ≤ aB c i)
theorem wh {code : List Int} {c : Cl} (h : RightP code c) (i : Int) : mH i c = if 0 ≤ aB c i then [dn i c] else [] := by
  have s1 := h.self (c.t0, c.t1) (.head _) _ (bK c)
  dsimp only at s1
  unfold mH bF pv dn bN aB
  by_cases e : c.s = 1
  · have s2 := h.self (c.t0, c.t1) (.head _) (c.x, c.h0) (by unfold aI; rw [if_pos e]; exact .head _)
    dsimp only at s2
    by_cases h1 : c.t0 ≤ i ∧ i < c.t1
    · have h2 : ¬ (c.h0 ≤ i ∧ i < c.h1) := fun z => al s1 h1.1 h1.2 z.1 z.2
      have h3 : ¬ (c.x ≤ i ∧ i < c.h0) := fun z => al s2 h1.1 h1.2 z.1 z.2
      simp only [e, h1, h2, h3, if_true, if_false, List.filterMap_cons, List.filterMap_nil, and_self, Int.le_refl]
    · by_cases h2 : c.h0 ≤ i ∧ i < c.h1
      · have h3 : ¬ (c.x ≤ i ∧ i < c.h0) := fun z => absurd z.2 (Int.not_lt.mpr h2.1)
        simp only [e, h1, h2, h3, if_true, if_false, List.filterMap_cons, List.filterMap_nil, and_self]
        simp
      · by_cases h3 : c.x ≤ i ∧ i < c.h0
        · simp only [e, h1, h2, h3, if_true, if_false, List.filterMap_cons, List.filterMap_nil, and_self]
          simp
        · simp only [e, h1, h2, h3, if_true, if_false, List.filterMap_cons, List.filterMap_nil, and_false]
          simp
  · by_cases h1 : c.t0 ≤ i ∧ i < c.t1
    · have h2 : ¬ (c.h0 ≤ i ∧ i < c.h1) := fun z => al s1 h1.1 h1.2 z.1 z.2
      simp only [e, h1, h2, if_true, if_false, List.filterMap_cons, List.filterMap_nil, and_self, Int.le_refl]
    · by_cases h2 : c.h0 ≤ i ∧ i < c.h1
      · simp only [e, h1, h2, if_true, if_false, List.filterMap_cons, List.filterMap_nil, and_self]
        simp
      · simp only [e, h1, h2, if_false, List.filterMap_cons, List.filterMap_nil, false_and]
        simp
theorem tw {c : Cl} (i : Int) (hp : 0 ≤ aB c i) : fJ c (aB c i) = [bN c (aB c i)] := by
  have hv := jz c i
  have h1 : aB c i = 1 → c.s = 1 := by
    unfold aB
    split
    · intro q; cases q
    · split
      · intro q; cases q
      · split
        · rename_i q; exact fun Z => q.1
        · intro q; cases q
  unfold fJ bF bN
  generalize aB c i = p at *
  rcases hv with rfl | rfl | rfl | rfl
  · omega
  · split <;> simp
  · rw [if_pos (h1 rfl)]; simp
  · split <;> simp
theorem oC {code : List Int} {cls : List Cl} (h : ∀ c ∈ cls, RightP code c) (i : Int) : bJ cls i = (bI i cls).map (dn i) := by
  unfold bJ bI
  have : ∀ (xs : List Cl) (l : List Sp), (∀ c ∈ xs, RightP code c) → xs.foldl (fun l c => l ++ mH i c) l = l ++ (xs.filter fun c => decide (0 ≤ aB c i)).map (dn i) := by
    intro xs
    induction xs with
    | nil => intro l _; simp
    | cons c r ih =>
      intro l h
      rw [List.foldl_cons, ih _ fun d m => h d (.tail _ m), wh (h c (.head _)), List.filter_cons]
      by_cases q : 0 ≤ aB c i <;> simp [q]
  rw [this cls [] h, List.nil_append]
theorem lH (i : Int) (cls : List Cl) : (bh cls i).map (fun p => bO cls p.1) = bI i cls := by
  rw [zq]
  have : ∀ (xs : List Cl) (k : Nat), cls.drop k = xs → (m5 i k xs).map (fun p => bO cls p.1) = bI i xs := by
    intro xs
    induction xs with
    | nil => intro k _; rfl
    | cons c r ih =>
      intro k h
      have hd : cls.drop (k + 1) = r := by rw [← List.drop_drop, h]; rfl
      have ha : clN cls k = c := by
        unfold clN
        have : cls[k]? = (cls.drop k)[0]? := by rw [List.getElem?_drop]; rfl
        rw [this, h]; rfl
      unfold bI
      rw [o0, List.filter_cons]
      by_cases q : 0 ≤ aB c i
      · rw [if_pos q, if_pos (by simpa using q), List.map_cons, ih (k + 1) hd]
        dsimp only
        rw [gg, ha]; rfl
      · rw [if_neg q, if_neg (by simpa using q), ih (k + 1) hd]; rfl
  exact this cls 0 rfl
theorem lq (i : Int) (cls : List Cl) : ∀ p ∈ bh cls i, p.2 = aB (bO cls p.1) i ∧ 0 ≤ p.2 := by
  intro p mp
  refine cg (tH.mp mp) fun k hk e2_ h => ?_; obtain rfl := e2_
  exact ⟨rfl, h⟩
theorem tS {p1 p2 q1 q2 l r : Int} (h1 : l ≤ p1 ∧ p2 ≤ r) (h2 : l ≤ q1 ∧ q2 ≤ r) (q : q1 < q2) (ap : p2 ≤ q1 ∨ q2 ≤ p1) : p2 - p1 < r - l := by omega
theorem narrow {code : List Int} {a b : Cl} (ra : RightP code a) (rb : RightP code b) (h : af a b) (i : Int) (ha : 0 ≤ aB a i) (hb : 0 ≤ aB b i) :
    (aB a i = 0 ∧ aB b i = 0 ∧ a.t0 = b.t0 ∧ a.t1 = b.t1) ∨ bN a (aB a i) < bN b (aB b i) := by
  have inp : ∀ c : Cl, 0 ≤ aB c i → (aB c i = 0 ∧ c.t0 ≤ i ∧ i < c.t1 ∧ bN c (aB c i) = c.t1 - c.t0) ∨ (∃ p ∈ aI c, p.1 ≤ i ∧ i < p.2 ∧ bN c (aB c i) = p.2 - p.1) := by
    intro c hc
    unfold aB at hc ⊢
    split
    · rename_i q; exact .inl ⟨rfl, q.1, q.2, by unfold bN; rw [if_pos rfl]⟩
    · rename_i q0
      rw [if_neg q0] at hc
      split
      · rename_i q
        exact .inr ⟨_, bK c, q.1, q.2, by unfold bN; simp⟩
      · rename_i q1
        rw [if_neg q1] at hc
        split
        · rename_i q
          exact .inr ⟨(c.x, c.h0), by unfold aI; rw [if_pos q.1]; exact .head _, q.2.1, q.2.2, by unfold bN; simp⟩
        · rename_i q; rw [if_neg q] at hc; exact absurd hc (by decide)
  have inpA : ∃ p ∈ aM a, p.1 ≤ i ∧ i < p.2 ∧ bN a (aB a i) = p.2 - p.1 ∧ ∃ q ∈ aM a, q.1 < q.2 ∧ (p.2 ≤ q.1 ∨ q.2 ≤ p.1) := by
    have s1 := ra.self (a.t0, a.t1) (.head _)
    rcases inp a ha with ⟨h0, h1, h2, h3⟩ | ⟨p, mp, h1, h2, h3⟩
    · exact ⟨_, am a, h1, h2, h3, _, bQ a, ra.ne _ (bQ a), s1 _ (bK a)⟩
    · exact ⟨p, lT mp, h1, h2, h3, _, am a, ra.ne _ (am a), (s1 p mp).symm⟩
  obtain ⟨p, mp, p1, p2, p3, q, mq, q1, q2⟩ := inpA
  have sb := rb.self (b.t0, b.t1) (.head _)
  unfold af at h
  split at h
  · rename_i e
    left
    rcases inp a ha with ⟨h0, h1, h2, h3⟩ | ⟨p, mp, h1, h2, h3⟩
    · rcases inp b hb with ⟨g0, g1, g2, g3⟩ | ⟨r, mr, g1, g2, g3⟩
      · exact ⟨h0, g0, e⟩
      · exact (al (sb r mr) (e.1 ▸ h1) (e.2 ▸ h2) g1 g2).elim
    · rcases inp b hb with ⟨g0, g1, g2, g3⟩ | ⟨r, mr, g1, g2, g3⟩
      · exact (al (ra.self (a.t0, a.t1) (.head _) p mp) (e.1.symm ▸ g1) (e.2.symm ▸ g2) h1 h2).elim
      · exact (al (h.2.2 p mp r mr) h1 h2 g1 g2).elim
  · right
    rcases h with h | h | h
    · rcases inp b hb with ⟨g0, g1, g2, g3⟩ | ⟨r, mr, g1, g2, g3⟩
      · exact (al (h p mp _ (am b)) p1 p2 g1 g2).elim
      · exact (al (h p mp r (lT mr)) p1 p2 g1 g2).elim
    · have h1 := h p mp
      have h2 := h q mq
      rcases inp b hb with ⟨g0, g1, g2, g3⟩ | ⟨r, mr, g1, g2, g3⟩
      · rw [p3, g3]; exact tS h1 h2 q1 q2
      · exact (al (sb r mr) (Int.le_trans h1.1 p1) (Int.lt_of_lt_of_le p2 h1.2) g1 g2).elim
    · have h1 := h p mp
      have h2 := h q mq
      have s2 := sb _ (bK b)
      rcases inp b hb with ⟨g0, g1, g2, g3⟩ | ⟨r, mr, g1, g2, g3⟩
      · exact (al s2 g1 g2 (Int.le_trans h1.1 p1) (Int.lt_of_lt_of_le p2 h1.2)).elim
      · have : r = (b.h0, b.h1) := by
          unfold aI at mr
          split at mr
          · simp only [List.mem_cons, List.not_mem_nil, or_false] at mr
            rcases mr with rfl | rfl
            · exact absurd g2 (Int.not_lt.mpr (Int.le_trans h1.1 p1))
            · rfl
          · exact List.mem_singleton.mp mr
        subst this
        rw [p3, g3]; exact tS h1 h2 q1 q2
end Mine
namespace Mine
open PySem
theorem yb {a b : Pr} (h : a.1 < b.1) : aW (toP a) (toP b) = true := by
  unfold toP; rw [ch]
  rw [if_neg (by (lia -abstractProof))]; simpa using h
theorem n9 (a : Pr) : ∀ l : List Pr, (∀ b ∈ l, b.1 < a.1) → j1 toP a l = l ++ [a]
  | [], _ => rfl
  | b :: r, h => by rw [pC, if_pos (yb (h b (.head _))), n9 a r fun c m => h c (.tail _ m)]; rfl
theorem uB (l : List Pr) (h : l.Pairwise fun p q => p.1 < q.1) : bU toP l.reverse = l := by
  unfold bU
  rw [List.foldr_reverse]
  have : ∀ (xs acc : List Pr), (acc ++ xs).Pairwise (fun p q => p.1 < q.1) → xs.foldl (fun acc a => j1 toP a acc) acc = acc ++ xs := by
    intro xs
    induction xs with
    | nil => intro acc _; simp
    | cons a r ih =>
      intro acc h
      rw [List.foldl_cons, n9 a acc fun b m => (List.pairwise_append.mp h).2.2 b m a (.head _), ih _ (by rw [List.append_assoc]; exact h), List.append_assoc]; rfl
  exact this l [] h
theorem rj (cls : List Cl) (i : Int) : (bh cls i).Pairwise fun p q => p.1 < q.1 := by
  rw [zq]
  have low : ∀ (xs : List Cl) (k : Nat), ∀ p ∈ m5 i k xs, (k : Int) ≤ p.1 := by
    intro xs
    induction xs with
    | nil => intro k p m; cases m
    | cons c r ih =>
      intro k p m
      rw [o0] at m
      split at m
      · rcases List.mem_cons.mp m with rfl | m
        · exact Int.le_refl _
        · have := ih (k + 1) p m; exact Int.le_of_lt (by assumption)
      · have := ih (k + 1) p m; exact Int.le_of_lt (by assumption)
  have : ∀ (xs : List Cl) (k : Nat), (m5 i k xs).Pairwise fun p q => p.1 < q.1 := by
    intro xs
    induction xs with
    | nil => intro k; exact List.Pairwise.nil
    | cons c r ih =>
      intro k
      rw [o0]
      split
      · refine List.pairwise_cons.mpr ⟨fun p m => ?_, ih (k + 1)⟩
        have := low r (k + 1) p m
        dsimp only; assumption
      · exact ih (k + 1)
  exact this cls 0
theorem oA (a : Int) : ∀ l : List Int, (∀ b ∈ l, b ≤ a) → l.Pairwise (· ≤ ·) → ky a l = l ++ [a]
  | [], _, _ => rfl
  | b :: r, h, hp => by
    obtain ⟨h1, h2⟩ := List.pairwise_cons.mp hp
    have hb := h b (.head _)
    have ih := oA a r (fun c m => h c (.tail _ m)) h2
    rw [pB]
    split
    · have e : a = b := by (lia -abstractProof)
      subst e
      have : ∀ l : List Int, (∀ c ∈ l, c ≤ a) → (∀ c ∈ l, a ≤ c) → a :: l = l ++ [a] := by
        intro l
        induction l with
        | nil => intro _ _; rfl
        | cons c r ih =>
          intro h1 h2
          have : c = a := by have := h1 c (.head _); have := h2 c (.head _); (lia -abstractProof)
          subst this
          rw [List.cons_append, ← ih (fun d m => h1 d (.tail _ m)) (fun d m => h2 d (.tail _ m))]
      rw [List.cons_append, ← this r (fun c m => h c (.tail _ m)) h1]
    · rw [ih]; rfl
theorem uC (l : List Int) (h : l.Pairwise (· ≤ ·)) : eZ l.reverse = l := by
  unfold eZ
  rw [List.foldr_reverse]
  have : ∀ (xs acc : List Int), (acc ++ xs).Pairwise (· ≤ ·) → xs.foldl (fun acc a => ky a acc) acc = acc ++ xs := by
    intro xs
    induction xs with
    | nil => intro acc _; simp
    | cons a r ih =>
      intro acc h
      rw [List.foldl_cons, oA a acc (fun b m => (List.pairwise_append.mp h).2.2 b m a (.head _)) (List.pairwise_append.mp h).1, ih _ (by rw [List.append_assoc]; exact h), List.append_assoc]; rfl
  exact this l [] h
noncomputable def Star (i : Int) (a b : Cl) : Prop := (aB a i = 0 ∧ aB b i = 0 ∧ a.t0 = b.t0 ∧ a.t1 = b.t1) ∨ bN a (aB a i) < bN b (aB b i)
theorem jM {i : Int} {cls : List Cl} {c : Cl} (h : c ∈ bI i cls) : c ∈ cls ∧ 0 ≤ aB c i := by
  have := List.mem_filter.mp h
  exact ⟨this.1, by simpa using this.2⟩
theorem Fine.star {code : List Int} {cls : List Cl} (h : Fine code cls) (i : Int) : (bI i cls).Pairwise (Star i) := by
  have hp : (bI i cls).Pairwise af := h.pair.filter _
  refine hp.imp_of_mem fun {a b} ma mb q => ?_
  obtain ⟨a1, a2⟩ := jM ma
  obtain ⟨b1, b2⟩ := jM mb
  exact narrow (h.right a a1) (h.right b b1) q i a2 b2
theorem pY {cls : List Cl} (i : Int) : cN cls (aK cls i) = ((bI i cls).map fun c => bN c (aB c i)).reverse := by
  have e1 : cN cls (aK cls i) = (aK cls i).map fun p => bN (bO cls p.1) (aB (bO cls p.1) i) := by
    unfold cN
    have : ∀ (xs : List Pr) (l : List Int), (∀ p ∈ xs, p ∈ aK cls i) → xs.foldl (fun ws p => ws ++ fJ (bO cls p.1) p.2) l = l ++ xs.map fun p => bN (bO cls p.1) (aB (bO cls p.1) i) := by
      intro xs
      induction xs with
      | nil => intro l _; simp
      | cons p r ih =>
        intro l hm
        have hp := hm p (.head _)
        rw [cT, List.mem_reverse] at hp
        obtain ⟨q1, q2⟩ := lq i cls p hp
        rw [List.foldl_cons, ih _ fun r m => hm r (.tail _ m), q1, tw i (by (lia -abstractProof)), List.map_cons, List.append_assoc]; rfl
    rw [this _ [] fun p m => m, List.nil_append]
  rw [e1, cT, List.map_reverse, ← lH, List.map_map]; rfl
theorem ya (a b : Sp) : aW (toS a) (toS b) = true ↔ a.1 < b.1 ∨ (a.1 = b.1 ∧ (a.2.1 < b.2.1 ∨ (a.2.1 = b.2.1 ∧ a.2.2 < b.2.2))) := by
  unfold toS
  simp only [wK, uV, ch]
  split
  · split
    · split
      · simp; omega
      · simp; omega
    · simp; omega
  · simp; omega
theorem mD (a x : Sp) : ∀ l : List Sp, x ∈ j1 toS a l ↔ x = a ∨ x ∈ l
  | [] => by simp [wY]
  | b :: r => by
    rw [pC]
    split
    · rw [List.mem_cons, mD a x r, List.mem_cons]; grind
    · simp
theorem nR (x : Sp) : ∀ l : List Sp, x ∈ bU toS l ↔ x ∈ l
  | [] => Iff.rfl
  | a :: r => by
    show x ∈ j1 toS a (bU toS r) ↔ _
    rw [mD, nR x r, List.mem_cons]
noncomputable def LeS (x y : Sp) : Prop := ¬ aW (toS y) (toS x) = true
theorem kT (a : Sp) : ∀ l : List Sp, l.Pairwise LeS → (j1 toS a l).Pairwise LeS
  | [], _ => by simp [wY]
  | b :: r, h => by
    obtain ⟨h1, h2⟩ := List.pairwise_cons.mp h
    rw [pC]
    split
    · rename_i q
      refine List.pairwise_cons.mpr ⟨fun x m => ?_, kT a r h2⟩
      rcases (mD a x r).mp m with rfl | m
      · unfold LeS
        rw [qP q]; exact Bool.false_ne_true
      · exact h1 x m
    · rename_i q
      refine List.pairwise_cons.mpr ⟨fun x m => ?_, h⟩
      rcases List.mem_cons.mp m with rfl | m
      · exact q
      · have := h1 x m
        intro h
        cases e : aW (toS a) (toS b) with
        | true => exact this (dy h e)
        | false =>
          rw [e8 e (by simpa using q)] at h
          exact this h
theorem jA : ∀ l : List Sp, (bU toS l).Pairwise LeS
  | [] => List.Pairwise.nil
  | a :: r => kT a _ (jA r)
theorem qc {i : Int} {c0 : Cl} {r0 : List Cl} (hE : (c0 :: r0).Pairwise (Star i)) {xs : List Sp} (hs : xs.Pairwise LeS) (hm : ∀ r, r ∈ xs ↔ r ∈ (c0 :: r0).map (dn i)) :
    ∃ s r, xs = s :: r ∧ (aB c0 i ≠ 0 → s = dn i c0) ∧ (aB c0 i = 0 → s.2.1 = 0) := by
  have m0 : dn i c0 ∈ xs := (hm _).mpr (List.mem_map_of_mem (.head _))
  cases xs with
  | nil => cases m0
  | cons s r =>
    refine ⟨s, r, rfl, ?_⟩
    obtain ⟨p1, _⟩ := List.pairwise_cons.mp hE
    obtain ⟨l1, _⟩ := List.pairwise_cons.mp hs
    have hmin : dn i c0 = s ∨ LeS s (dn i c0) := by
      rcases List.mem_cons.mp m0 with e | m
      · exact .inl e
      · exact .inr (l1 _ m)
    refine aA (List.mem_map.mp ((hm s).mp (.head _))) fun c mc ec => ?_
    have hno : bN c0 (aB c0 i) < bN c (aB c i) → False := by
      intro hlt
      rcases hmin with e | e
      · rw [← e] at ec
        have := congrArg Prod.fst ec
        unfold dn at this
        dsimp only at this; omega
      · unfold LeS at e
        rw [← ec] at e
        refine e ((ya _ _).mpr (.inl ?_))
        exact hlt
    rcases List.mem_cons.mp mc with rfl | mc
    · exact ⟨fun Z => ec.symm, fun q => by rw [← ec]; exact q⟩
    · rcases p1 c mc with q | q
      · exact ⟨fun h => absurd q.1 h, fun Z => by rw [← ec]; exact q.2.1⟩
      · exact (hno q).elim
theorem vo {cls : List Cl} (i : Int) : jC cls (bh cls i) = (match (bI i cls).filter (fun c => decide (0 < aB c i)) with
    | [] => 5
    | c :: _ => if catchB c (aB c i) then 0 else 5) := by
  rw [← lH]
  have : ∀ xs : List Pr, (∀ p ∈ xs, p ∈ bh cls i) → jC cls xs = (match (xs.map fun p => bO cls p.1).filter (fun c => decide (0 < aB c i)) with
    | [] => 5
    | c :: _ => if catchB c (aB c i) then 0 else 5) := by
    intro xs
    induction xs with
    | nil => intro _; rfl
    | cons p r ih =>
      intro hm
      obtain ⟨q1, q2⟩ := lq i cls p (hm p (.head _))
      rw [s7, List.map_cons, List.filter_cons]
      by_cases q : p.2 = 0
      · rw [if_pos q, if_neg (by rw [← q1]; simp; (lia -abstractProof)), ih fun s m => hm s (.tail _ m)]
      · have hpos : decide (0 < aB (bO cls p.1) i) = true := by rw [← q1]; simp; (lia -abstractProof)
        simp only [if_neg q, hpos, if_true]
        rw [q1]
  exact this _ fun p m => m
theorem zO {cls : List Cl} (i op : Int) : uh cls (aK cls i) op = (match bI i cls with
    | [] => 5
    | c :: _ => if op = 220 ∧ kO c (aB c i) = true then 0 else if op = 65041 ∧ aB c i = 1 then 0 else 5) := by
  rw [← lH]
  unfold uh
  rw [cT]
  have hp := lq i cls
  cases e : bh cls i with
  | nil => rfl
  | cons p r =>
    rw [e] at hp
    obtain ⟨q1, q2⟩ := hp p (.head _)
    rw [List.reverse_cons, List.getElem?_append_right (by simp)]
    simp only [List.length_append, List.length_reverse, List.length_singleton, Nat.add_sub_cancel, Nat.sub_self, List.getElem?_cons_zero, List.map_cons]
    rw [q1]
theorem ie (cls : List Cl) (i : Int) : (aK cls i).length = (bI i cls).length := by
  rw [cT, List.length_reverse, ← lH, List.length_map]
theorem vW {code : List Int} {cls : List Cl} (h : Fine code cls) (i op : Int) (ho : op = 65050 ∨ op = 220 ∨ op = 65041 ∨ op = 42) : fL cls i op = gI cls i op := by
  have hst := h.star i
  have hrows := oC h.right i
  have hsorted := jA (bJ cls i)
  have hmem : ∀ r, r ∈ bU toS (bJ cls i) ↔ r ∈ (bI i cls).map (dn i) := fun r => by rw [nR, hrows]
  have hsrt : ∀ c ∈ bI i cls, (c.s = 0 ∨ c.s = 1 ∨ c.s = 2 ∨ c.s = 4) ∧ 0 ≤ aB c i := fun c m => ⟨(h.right c (jM m).1).sort, (jM m).2⟩
  unfold fL gI
  by_cases o1 : op = 42
  · rw [if_pos o1, if_pos o1]
    have e1 : aK cls i = [] ↔ bI i cls = [] := by
      rw [← List.length_eq_zero_iff, ie, List.length_eq_zero_iff]
    by_cases q : bI i cls = []
    · rw [if_pos (e1.mpr q)]
      rw [hrows, q]; rfl
    · rw [if_neg fun q' => q (e1.mp q')]
      cases e : bI i cls with
      | nil => exact absurd e q
      | cons c r =>
        rw [e] at hmem
        have : dn i c ∈ bU toS (bJ cls i) := (hmem _).mpr (List.mem_map_of_mem (.head _))
        cases e2 : bU toS (bJ cls i) with
        | nil => rw [e2] at this; cases this
        | cons _ _ => rfl
  · rw [if_neg o1, if_neg o1]
    by_cases o2 : op = 65050
    · rw [if_pos o2, if_pos o2, cT, List.reverse_reverse, vo]
      have hm2 : ∀ r, r ∈ (bU toS (bJ cls i)).filter (fun s => decide (s.2.1 > 0)) ↔ r ∈ ((bI i cls).filter fun c => decide (0 < aB c i)).map (dn i) := by
        intro r
        rw [List.mem_filter, hmem, List.mem_map, List.mem_map]
        constructor
        · rintro ⟨⟨c, mc, rfl⟩, q⟩
          exact ⟨c, List.mem_filter.mpr ⟨mc, q⟩, rfl⟩
        · rintro ⟨c, mc, rfl⟩
          have := List.mem_filter.mp mc
          exact ⟨⟨c, this.1, rfl⟩, this.2⟩
      have hs2 : ((bU toS (bJ cls i)).filter (fun s => decide (s.2.1 > 0))).Pairwise LeS := hsorted.filter _
      have hst2 : ((bI i cls).filter fun c => decide (0 < aB c i)).Pairwise (Star i) := hst.filter _
      have hin : ∀ c ∈ (bI i cls).filter (fun c => decide (0 < aB c i)), (c.s = 0 ∨ c.s = 1 ∨ c.s = 2 ∨ c.s = 4) ∧ 0 < aB c i := fun c m => by
        have := List.mem_filter.mp m
        exact ⟨(hsrt c this.1).1, by simpa using this.2⟩
      generalize (bU toS (bJ cls i)).filter (fun s => decide (s.2.1 > 0)) = xs at *
      generalize (bI i cls).filter (fun c => decide (0 < aB c i)) = E at *
      cases E with
      | nil =>
        have : xs = [] := by
          cases xs with
          | nil => rfl
          | cons s r => have := (hm2 s).mp (.head _); cases this
        rw [this]
      | cons c0 r0 =>
        refine bm (qc hst2 hs2 hm2) fun s r e2_ g1 g2 => ?_; obtain rfl := e2_
        obtain ⟨k1, k2⟩ := hin c0 (.head _)
        have e := g1 (by exact ine (by assumption))
        subst e
        have o3 : ¬ op = 65041 := by (lia -abstractProof)
        simp only [if_neg o3]
        unfold catchB dn
        simp only [Bool.and_eq_true, Bool.or_eq_true, decide_eq_true_iff, beq_iff_eq]
        have hd : decide (op = 65050) = true := decide_eq_true o2
        rw [hd]
        by_cases z : aB c0 i = 2 ∧ (c0.s = 0 ∨ c0.s = 1)
        · rw [if_pos z, if_pos ⟨z.1, by simp; (lia -abstractProof)⟩]
        · rw [if_neg z, if_neg]
          rintro ⟨z1, z2⟩
          simp at z2
          (lia -abstractProof)
    · rw [if_neg o2, if_neg o2, if_pos (by (lia -abstractProof)), zO]
      generalize bU toS (bJ cls i) = xs at *
      generalize bI i cls = E at *
      cases E with
      | nil =>
        have : xs = [] := by
          cases xs with
          | nil => rfl
          | cons s r => have := (hmem s).mp (.head _); cases this
        rw [this]
      | cons c0 r0 =>
        refine bm (qc hst hsorted hmem) fun s r e2_ g1 g2 => ?_; obtain rfl := e2_
        obtain ⟨k1, k2⟩ := hsrt c0 (.head _)
        dsimp only
        have hd : decide (op = 65050) = false := decide_eq_false o2
        rw [hd]
        by_cases z : aB c0 i = 0
        · have g := g2 z
          rw [z, g]
          simp [kO]
        · have e := g1 z
          subst e
          unfold dn kO bc
          dsimp only
          by_cases o3 : op = 65041
          · rw [if_pos o3, if_neg (by (lia -abstractProof))]
            by_cases z1 : aB c0 i = 1
            · rw [if_pos z1, if_pos ⟨o3, z1⟩]
            · rw [if_neg z1, if_neg fun q => z1 q.2]
          · have o4 : op = 220 := by (lia -abstractProof)
            rw [if_neg o3]
            by_cases z1 : aB c0 i = 2 ∧ (c0.s = 2 ∨ c0.s = 4)
            · rw [if_pos ⟨o4, by simp [z1]⟩, if_pos ⟨z1.1, by simp; (lia -abstractProof)⟩]
            · rw [if_neg (by simp only [Bool.and_eq_true, Bool.or_eq_true, decide_eq_true_iff]; exact fun q => z1 q.2), if_neg fun q => o3 q.1, if_neg]
              rintro ⟨z2, z3⟩
              simp at z3
              (lia -abstractProof)
theorem qC {code : List Int} {cls : List Cl} (h : Fine code cls) (i op : Int) (ho : op = 65050 ∨ op = 220 ∨ op = 65041 ∨ op = 42) : gp cls i op = true := by
  unfold gp
  rw [Bool.and_eq_true, Bool.and_eq_true, decide_eq_true_iff, decide_eq_true_iff, decide_eq_true_iff]
  refine ⟨vW h i op ho, ?_, ?_⟩
  · rw [cT]
    exact uB _ (rj cls i)
  · rw [pY i, uC]
    rw [List.pairwise_map]
    refine (h.star i).imp fun {a b} q => ?_
    rcases q with q | q
    · unfold bN
      rw [if_pos q.1, if_pos q.2.1]; (lia -abstractProof)
    · exact Int.le_of_lt (by assumption)
theorem qZ {code : List Int} {cls : List Cl} (h : Fine code cls) (i : Int) : (bJ cls i).length = (bI i cls).length := by rw [oC h.right, List.length_map]
theorem tE {c : Cl} {i : Int} (h : 0 ≤ aB c i) : ∃ p ∈ aM c, p.1 ≤ i ∧ i < p.2 := by
  unfold aB at h
  split at h
  · rename_i q; exact ⟨_, am c, q⟩
  · split at h
    · rename_i q; exact ⟨_, bQ c, q⟩
    · split at h
      · rename_i q
        exact ⟨(c.x, c.h0), by unfold aM; rw [if_pos q.1]; exact .tail _ (.head _), q.2⟩
      · (lia -abstractProof)
theorem gz (i : Int) (cls : List Cl) : (bI i cls).length ≤ cls.length := List.length_filter_le ..
theorem wg {code : List Int} {cls r : List Cl} (h : Fine code cls) (hr : rF cls r) (i : Int) (h4 : cls.length ≤ 4) : (bI i r).length ≤ 4 := by
  rcases hr with rfl | ⟨c, hc, m, k, hone, hm, hk, rfl⟩
  · exact Nat.le_trans (gz i _) h4
  have rx := h.right _ (dJ hc)
  refine lr (jP hm) fun m1 m2 Z => ?_
  refine lr (jP hk) fun k1 k2 Z => ?_
  have hap := xG rx m1 m2 k1 k2
  generalize iC (clN cls c) m k = A at *
  generalize gF (clN cls c) m k = B at *
  have l1 : (bI i (cls.take c)).length ≤ c := by
    have := gz i (cls.take c)
    rw [List.length_take] at this; (lia -abstractProof)
  have l3 : (bI i (cls.drop (c + 1))).length ≤ cls.length - (c + 1) := by
    have := gz i (cls.drop (c + 1))
    rw [List.length_drop] at this; exact this
  have l2 : (bI i [A, B]).length ≤ 1 := by
    unfold bI
    rw [List.filter_cons, List.filter_cons, List.filter_nil]
    by_cases qA : 0 ≤ aB A i
    · by_cases qB : 0 ≤ aB B i
      · exfalso
        refine cg (tE qA) fun p mp p1 p2 => ?_
        refine cg (tE qB) fun q mq q1 q2 => ?_
        have := hap p mp q mq
        (lia -abstractProof)
      · simp [qA, qB]
    · by_cases qB : 0 ≤ aB B i <;> simp [qA, qB]
  have e : bI i (cls.take c ++ [A, B] ++ cls.drop (c + 1)) = bI i (cls.take c) ++ bI i [A, B] ++ bI i (cls.drop (c + 1)) := by
    unfold bI
    rw [List.filter_append, List.filter_append]
  rw [e, List.length_append, List.length_append]
  (lia -abstractProof)
end Mine
namespace Mine
open PySem
theorem tm (n : Nat) : dc (n + 8) 0 1552 := block0 n
theorem try0' (n : Nat) : jf (n + 8) 0 774 := try0 (n + 1)
theorem top40 : (40 : Int) < aj := by decide
theorem topn40 : -aj < (40 : Int) := by decide
theorem xH {α β : Type} (f : α → β) (xs : List α) : db none (some 40) (xs.map f) = (xs.take 40).map f := by
  unfold db
  have e : bz (xs.map f).length 40 = min 40 xs.length := by
    unfold bz
    rw [if_neg (by decide), List.length_map]; rfl
  dsimp only
  rw [e, List.drop_zero, Nat.sub_zero, List.map_take]
  by_cases h : 40 ≤ xs.length
  · rw [Nat.min_eq_left h]
  · rw [Nat.min_eq_right (by (lia -abstractProof)), List.take_of_length_le (by rw [List.length_map]; exact Nat.le_refl _), List.take_of_length_le (by rw [List.length_map]; (lia -abstractProof))]
noncomputable abbrev jW (w : WS) : LV := .dct [(0, .val (.list (w.t.map .int))), (1, .val (.int w.pos)), (2, .own (w.ops.map .int)), (3, .val (.list (w.cls.map aL))), (4, .val (.int w.left))]
theorem wX (n : Nat) (w : WS) (h0 : 0 ≤ w.pos) (ht : w.t.length ≤ 1000) : ∃ x, (gN TT (n+1)).io 22 (jW w) [] = some (.int x, jW { w with pos := w.pos + 1 }) := by
  obtain ⟨t, k, ops, cls, left⟩ := w
  dsimp only at h0 ht ⊢
  by_cases h : k + 1 ≤ t.length
  · have e := List.getElem?_eq_getElem (l := t) (i := k.toNat) (toNat_lt h0 h)
    generalize t[k.toNat] = x at e
    obtain ⟨lv, e1, rfl⟩ := ioE (f := 22) (ds := []) (lv := jW ⟨t, k, ops, cls, left⟩) (d := .int x) (P := fun lv => lv = jW ⟨t, k + 1, ops, cls, left⟩) n 0 rfl rfl rfl (by
      refine nZ rfl rfl rfl rfl rfl (aT (decide (k + 1 ≤ (t.length : Int))) (.int x) (cLe rfl (dj (enc := PyData.int) rfl)) (ca rfl (vIs (kP rfl rfl) rfl) ((congrArg (fun i => gT (.list (t.map .int)) (.int i)) (Int.add_sub_cancel k 1)).trans (bR (enc := PyData.int) e h0 (sn h ht (by decide))))) (fun Z => ⟨rfl, _, rfl, rfl⟩) fun q => absurd h (of_decide_eq_false q)))
    exact ⟨x, e1⟩
  · obtain ⟨lv, e1, rfl⟩ := ioE (f := 22) (ds := []) (lv := jW ⟨t, k, ops, cls, left⟩) (d := .int (k + 1)) (P := fun lv => lv = jW ⟨t, k + 1, ops, cls, left⟩) n 0 rfl rfl rfl (by
      refine nZ rfl rfl rfl rfl rfl (sIf (decide (k + 1 ≤ (t.length : Int))) (cLe rfl (dj (enc := PyData.int) rfl)) (fun q => absurd (of_decide_eq_true q) h) fun q => dS (bP _ rfl ⟨rfl, _, rfl, rfl⟩)))
    exact ⟨k + 1, e1⟩
structure Made (w : WS) : Prop where
  pos : 0 ≤ w.pos
  t : w.t.length ≤ 40
  fine : Fine w.ops w.cls
  c1 : 0 < w.cls.length
  c4 : w.cls.length ≤ 4
  o1 : 0 < w.ops.length
  o2 : w.ops.length ≤ 4000
end Mine
namespace Mine
open PySem
theorem sDct {g : G} {l : Row} {r : List IS} {Q : Fl × Rho → Prop} {i : Nat} {es : List (Nat × IV)} {xs : List (Nat × EV)} (h : jU g (E l) es = some xs) (hi : Nat.blt i l.length = true) (k : Run g (cZ i (some (.dct xs)) l) r Q) : Run g l (.dct i es :: r) Q := by
  refine az (an ?_)
  rw [y6, h]
  show Ok (exIs g (upd (E l) i _) r) Q
  rw [cK _ _ _ hi]; exact ah k
noncomputable abbrev RW (sc : List Int) (w : LV) (t : Row) : Row := some (.val (.list (sc.map .int))) :: some w :: t
theorem uX (n : Nat) (xs : List Int) {Q : Fl × Rho → Prop} (h : ∀ w : WS, Made w → w.t = xs.take 40 → Run (gN TT (n + 8)) (RW (xs.take 40) (cx w) (List.replicate 19 none)) xZ Q) : Run (gN TT (n + 8)) (some (.val (.list (xs.map .int))) :: List.replicate 20 none) b46_0 Q := by
  have hsl : (xs.take 40).length ≤ 40 := by rw [List.length_take]; (lia -abstractProof)
  refine bC (.list ((xs.take 40).map .int)) ((pN rfl rfl topn40 top40).trans (congrArg (fun l => some (PyData.list l)) (xH PyData.int xs))) rfl ?_
  show Run _ (some (.val (.list ((xs.take 40).map .int))) :: List.replicate 20 none) _ _
  generalize xs.take 40 = sc at h hsl
  obtain ⟨l0, hl0⟩ : ∃ l0 : Int, l0 = if 3 + (sc.length : Int).fdiv 8 < 4 then 3 + (sc.length : Int).fdiv 8 else 4 := ⟨_, rfl⟩
  have hl3 : 3 ≤ l0 ∧ l0 ≤ 4 := by
    have : 0 ≤ (sc.length : Int).fdiv 8 := Int.fdiv_nonneg (by exact Int.natCast_nonneg _) (by decide)
    rw [hl0]
    split <;> (lia -abstractProof)
  have W0 : WOk 1552 ⟨sc, 0, [], [], l0⟩ := ⟨by show (0 : Int) ≤ 0; decide, by show sc.length ≤ 1000; exact nle (by assumption) (by decide), by show 0 ≤ l0; (lia -abstractProof), by show (([] : List Cl).length : Int) + l0 ≤ 100; simp; (lia -abstractProof), by show ([] : List Int).length + 1552 ≤ 500000; decide⟩
  obtain ⟨w1, e1, b1, g1⟩ := tm n _ W0
  have W1 : WOk 1552 w1 := ⟨b1.pos, by rw [b1.t]; exact W0.t, b1.left, by have := b1.len; have := W0.cl; (lia -abstractProof), by have := b1.len; have h0 : (⟨sc, 0, [], [], l0⟩ : WS).ops.length = 0 := rfl; (lia -abstractProof)⟩
  obtain ⟨w2, e2, b2, g2⟩ := tm n _ W1
  have b12 := b1.trans b2
  have h0 : (⟨sc, 0, [], [], l0⟩ : WS).ops.length = 0 := rfl
  have h0c : (⟨sc, 0, [], [], l0⟩ : WS).cls.length = 0 := rfl
  have h0l : (⟨sc, 0, [], [], l0⟩ : WS).left = l0 := rfl
  have made : ∀ w3, BR (1552 + 1552 + 774) ⟨sc, 0, [], [], l0⟩ w3 → w3.cls ≠ [] → 0 < w3.ops.length → Made w3 := by
    intro w3 b hc ho
    have l := b.len
    obtain ⟨t1, t2, t3, os, N, q1, q2, q3, q4, q5⟩ := b
    have ec : w3.cls = N := by rw [q2]; rfl
    refine ⟨t2, by rw [t1]; exact hsl, ?_, List.length_pos_iff.mpr hc, by (lia -abstractProof), ho, by (lia -abstractProof)⟩
    rw [ec]
    exact q5.fine
  have l12 := b12.len
  refine sDct (xs := [(0, .val (.list (sc.map .int))), (1, .val (.int 0)), (2, .own []), (3, .own []), (4, .val (.int l0))]) (by rw [hl0, ← List.length_map (f := PyData.int)]; rfl) rfl (sIo (lv := cx ⟨sc, 0, [], [], l0⟩) (ds := [.int 0]) rfl rfl e1 rfl rfl (sIo (lv := cx w1) (ds := [.int 0]) rfl rfl e2 rfl rfl
    (sIf (w2.cls.map aL).isEmpty (ac rfl rfl (fH (cS vY w2.cls) rfl)) (fun q => ?_) fun q => ?_)))
  · have hc : w2.cls = [] := by simpa using q
    have W2 : WOk 774 w2 := ⟨b2.pos, by rw [b2.t]; exact W1.t, b2.left, by have := W0.cl; (lia -abstractProof), by (lia -abstractProof)⟩
    obtain ⟨w3, e3, b3, g3, g4⟩ := try0' n w2 W2 (by rw [hc] at l12; simp at l12; (lia -abstractProof))
    exact sIo (lv := cx w2) (ds := [.int 0]) rfl rfl e3 rfl rfl (dS (h w3 (made w3 (b12.trans b3) (fun q => by rw [q] at g4; simp at g4) (by (lia -abstractProof))) (b12.trans b3).t))
  · have hc : w2.cls ≠ [] := fun e => by rw [e] at q; exact tF q
    exact dS (h w2 (made w2 (b12.wide (by (lia -abstractProof))) hc (by (lia -abstractProof))) b12.t)
end Mine
namespace Mine
open PySem
section
variable {g : G} {l : Row} {ρ ρ' ρ'' : Rho} {r : List IS} {Q : Fl × Rho → Prop}
theorem nX {i : Nat} {e : IX} {l' : Row} (d : D) (h : evX g (E l) e = some (d, E l')) (hi : Nat.blt i l'.length = true) (k : Run g (cZ i (some (.val d)) l') r Q) : Run g l (.set i e :: r) Q := by
  refine az (an ?_)
  rw [pJ, h]
  show Ok (exIs g (upd (E l') i (.val d)) r) Q
  rw [cK _ _ _ hi]; exact ah k
theorem sMov {i w k : Nat} {es : List (Nat × EV)} {ds : List D} (hx : eA (E l w) = some es) (hk : lk k es = some (.own ds)) (hi : Nat.blt w l.length = true) (hi2 : Nat.blt i (cZ w (some (.dct (st k (.val (.list ds)) es))) l).length = true)
    (q : Run g (cZ i (some (.val (.list ds))) (cZ w (some (.dct (st k (.val (.list ds)) es))) l)) r Q) : Run g l (.mov i w k :: r) Q := by
  refine az (an ?_)
  rw [yz, hx, Option.bind_some, hk]
  show Ok (exIs g (upd (upd (E l) w _) i _) r) Q
  rw [cK _ _ _ hi, cK _ _ _ hi2]; exact ah q
theorem xE {e : IE} {d : D} (h : evI g ρ e = some d) : evX g ρ (.e e) = some (d, ρ) := by rw [w5, h]; rfl
theorem xIo {f x : Nat} {as : List IE} {ds : List D} {d : D} {lv lv' : LV} (hx : kQ (E l x) = some lv) (ha : evEs g (E l) as = some ds) (hc : g.io f lv ds = some (d, lv')) (hf : bf d = true) (hi : Nat.blt x l.length = true) : evX g (E l) (.io f x as) = some (d, E (cZ x (some lv') l)) := by
  rw [sQ, hx, Option.bind_some, ha, Option.bind_some, hc, Option.bind_some, hf, cond_true, cK _ _ _ hi]
theorem xBin {a b : IX} {x y d : D} {op : Operator} (ha : evX g ρ a = some (x, ρ')) (hb : evX g ρ' b = some (y, ρ'')) (h : nK op x y = some d) : evX g ρ (.bin op a b) = some (d, ρ'') := by
  rw [y9, ha, Option.bind_some, hb, Option.bind_some, h]; rfl
theorem lO {f : Nat} {as : List IX} {ds : List D} {d : D} (h : evXs g ρ as = some (ds, ρ')) (hc : g.call f ds = some d) : evX g ρ (.call f as) = some (d, ρ') := by
  rw [w6, h, Option.bind_some, hc]; rfl
theorem c6 {e : IX} {es : List IX} {d : D} {ds : List D} (h : evX g ρ e = some (d, ρ')) (h' : evXs g ρ' es = some (ds, ρ'')) : evXs g ρ (e :: es) = some (d :: ds, ρ'') := by
  rw [ue, h, Option.bind_some, h']; rfl
theorem rG : evXs g ρ [] = some ([], ρ) := rfl
theorem sRetX {e : IX} {ρ' : Rho} (d : D) (h : evX g (E l) e = some (d, ρ')) (h1 : Q (.ret d, ρ')) : Run g l (.retX e :: r) Q := by
  refine az (an ?_)
  rw [ww, h]; exact h1
end
noncomputable def Vok (v : WS) : Prop := 0 ≤ v.pos ∧ v.t.length ≤ 1000
theorem iL (n : Nat) (v : WS) (h : Vok v) : ∃ x v', (gN TT (n+1)).io 22 (jW v) [] = some (.int x, jW v') ∧ Vok v' := by
  obtain ⟨x, e⟩ := wX n v h.1 h.2
  exact ⟨x, _, e, Int.le_of_lt (Int.lt_add_one_of_le h.1), h.2⟩
noncomputable abbrev RL (sc : List Int) (w : LV) (op : Option LV) (ops : List Int) (cls ord twn par : List Cl) (k mm : Int) (rs : List Int) (mv : List Cl) (t : Row) : Row :=
  some (.val (.list (sc.map .int))) :: some w :: op :: some (.val (.list (ops.map cC))) :: some (.val (.list (cls.map aL))) :: some (.val (.int ops.length)) :: some (.val (.list (ord.map aL))) :: some (.val (.list (twn.map aL))) :: some (.val (.list (par.map aL))) :: some (.val (.int k)) :: some (.val (.int mm)) :: some (.val (.list (rs.map cC))) :: some (.val (.list (mv.map aL))) :: t
theorem yg (n : Nat) (w : WS) (M : Made w) (sc : List Int) {Q : Fl × Rho → Prop}
    (h : ∀ (par : List Cl) (y1 y2 y4 : Int) (m : Nat) (v : WS), rF w.cls par → 1 ≤ m → m ≤ 3 → Vok v →
      Run (gN TT (n + 8)) (RL sc (jW v) none w.ops w.cls (dv w.cls.length w.cls y1) (cw w.cls y2) par (bS w.cls y4 w.ops.length) m (gD w.ops (bS w.cls y4 w.ops.length) m) (w.cls.map (bH (bS w.cls y4 w.ops.length) m)) (List.replicate 8 none)) sf Q) :
    Run (gN TT (n + 8)) (RW sc (cx w) (List.replicate 19 none)) xZ Q := by
  have hc : w.cls.length ≤ 100 := by have := M.c4; exact nle (by assumption) (by decide)
  have V0 : Vok w := ⟨M.pos, by have := M.t; exact nle (by assumption) (by decide)⟩
  refine bY (iL (n + 7) w V0) fun x1 v1 n1 V1 => ?_
  refine bY (iL (n + 7) v1 V1) fun x2 v2 n2 V2 => ?_
  refine bY (iL (n + 7) v2 V2) fun x3 v3 n3 V3 => ?_
  refine bY (iL (n + 7) v3 V3) fun x4 v4 n4 V4 => ?_
  refine bY (iL (n + 7) v4 V4) fun x5 v5 n5 V5 => ?_
  have bnd : ∀ x ∈ w.cls, Bnd x := fun x m => by
    have r := M.fine.right x m
    have := r.t
    have := r.h
    have := M.o2
    unfold Bnd
    (lia -abstractProof)
  refine aA (xS (n + 3) w.cls x3 M.c1 hc bnd) fun par hpar ep => ?_
  have eo := sX (n + 7) w.cls x1 hc
  have et := oR (n + 5) w.cls x2 hc
  have es := oO (n + 7) w.cls x4 w.ops.length
  obtain ⟨k0, k1⟩ := gL w.cls x4 w.ops.length
  have ho2 := M.o2
  obtain ⟨m, hm, hm1, hm2⟩ : ∃ m : Nat, 1 + x5.fmod 3 = (m : Int) ∧ 1 ≤ m ∧ m ≤ 3 := ⟨(1 + x5.fmod 3).toNat, by
    have : 0 ≤ x5.fmod 3 := Int.fmod_nonneg_of_pos _ (by decide)
    have : x5.fmod 3 < 3 := Int.fmod_lt_of_pos _ (by decide)
    (lia -abstractProof)⟩
  have h := h par x1 x2 x4 m v5 hpar hm1 hm2 V5
  have em := mU (n + 6) w.cls (bS w.cls x4 w.ops.length) (m : Int) hc
  generalize bS w.cls x4 w.ops.length = k at *
  generalize dv w.cls.length w.cls x1 = ord at *
  generalize cw w.cls x2 = twn at *
  have t1 : k < aj := c8 (Int.le_trans k1 (icl ho2 (by decide)))
  have t2 : -aj < k := lC (by exact ige (by assumption) (by decide))
  have sz : (w.ops.take k.toNat).length + m + (w.ops.drop k.toNat).length ≤ 1000000 := by rw [List.length_take, List.length_drop]; (lia -abstractProof)
  have sz2 : (w.ops.take k.toNat).length + m ≤ 1000000 := Nat.le_trans (Nat.le_add_right _ _) sz
  refine bC (.list (w.ops.map cC)) ((eJ (fun Z => true) cC (xs := w.ops) (enc := PyData.int) rfl fun o Z => ⟨_, rfl, rfl, fun Z => xB rfl rfl, rfl⟩).trans (by rw [List.filter_eq_self.mpr fun Z Z => rfl])) rfl ?_
  refine sMov rfl rfl rfl rfl (bC _ (cU (enc := cC) rfl) rfl ?_)
  refine nX _ (lO (c6 (xE rfl) (c6 (xIo rfl rfl n1 rfl rfl) rG)) eo) rfl ?_
  refine nX _ (lO (c6 (xE rfl) (c6 (xIo rfl rfl n2 rfl rfl) rG)) et) rfl ?_
  refine nX _ (lO (c6 (xE rfl) (c6 (xIo rfl rfl n3 rfl rfl) rG)) ep) rfl ?_
  refine nX _ (lO (c6 (xE rfl) (c6 (xIo rfl rfl n4 rfl rfl) (c6 (xE rfl) rG))) es) rfl ?_
  refine nX (.int m) (xBin (xE rfl) (xBin (xIo rfl rfl n5 rfl rfl) (xE rfl) rfl) (congrArg (fun x => some (PyData.int x)) hm)) rfl ?_
  refine bC (.list ((gD w.ops k m).map cC)) ((jY (c5 (jY (c5 ((pN rfl rfl t2 t1).trans (congrArg (fun l => some (PyData.list l)) (hR cC w.ops k k0 k1))) rfl) (xC (d := cC 0) rfl rfl (ige (Int.natCast_nonneg m) (by decide)) (by exact icl (by assumption) (by decide))) ?_) rfl) ((gb rfl rfl t2 t1).trans (congrArg (fun l => some (PyData.list l)) (kA cC w.ops k k0 k1))) ?_).trans ?_) rfl ?_
  · rw [List.length_map, List.length_replicate]; exact sz2
  · rw [List.length_append, List.length_map, List.length_map, List.length_replicate]; exact sz
  · unfold gD
    rw [List.map_append, List.map_append, List.map_replicate]; rfl
  exact bC _ (ab (aP rfl (aP rfl (aP rfl rfl))) em) rfl h
end Mine
namespace Mine
open PySem
section
variable {g : G} {ρ : Rho} {l : Row} {r : List IS} {Q : Fl × Rho → Prop}
theorem sNe {a b e : IE} {i : Int} (h1 : isV g (E l) a (.int i)) (h2 : isV g (E l) b (.int i)) (k : Run g l r Q) : Run g l (.ite (.cmp .NotEq a b) [.ret e] [] :: r) Q :=
  sIf false ((cNe h1 h2).trans (by rw [decide_eq_true rfl]; rfl)) (fun q => nomatch q) fun Z => dS k
theorem isMul {a b : IE} {i j : Int} (h1 : isV g ρ a (.int i)) (h2 : evI g ρ b = some (.int j)) (hm : ly i j = true) : isV g ρ (.bin .Mult a b) (.int (i * j)) := by
  obtain ⟨x', e1, e⟩ := Option.map_eq_some_iff.mp h1
  show ((evI g ρ (.bin .Mult a b)).map (·, false)).map (·.1) = _
  rw [hO, e1, Option.bind_some, h2, Option.bind_some, e, show ux .Mult (.int i) (.int j) = some (.int (i * j)) from congrArg (Option.map PyData.int) (if_pos hm)]; rfl
theorem eIteB {t b o : IE} {B : Bool} {d : D} (h : evT g ρ (evI g ρ t) t = some B) (h1 : B = true → evI g ρ b = some d) (h2 : B = false → evI g ρ o = some d) : evI g ρ (.ite t b o) = some d := by
  rw [tc, h, Option.bind_some]
  cases B with
  | true => exact h1 rfl
  | false => exact h2 rfl
end
theorem op_get (i : Nat) (h : i < 4) : ∃ v : Int, (v = 65050 ∨ v = 220 ∨ v = 65041 ∨ v = 42) ∧ [PyData.int 65050, .int 220, .int 65041, .int 42][i]? = some (.int v) :=
  let ⟨v, m, e⟩ := pD PyData.int [65050, 220, 65041, 42] i h
  ⟨v, by simpa using m, e⟩
theorem t7 (a b c : List Cl) (i : Nat) (h : i < 3) : ∃ v : List Cl, (v = a ∨ v = b ∨ v = c) ∧ [PyData.list (a.map aL), .list (b.map aL), .list (c.map aL)][i]? = some (.list (v.map aL)) :=
  let ⟨v, m, e⟩ := pD (fun l : List Cl => PyData.list (l.map aL)) [a, b, c] i h
  ⟨v, by simpa using m, e⟩
structure Ready (w : WS) (ord twn par mv : List Cl) (rs : List Int) (k mm : Int) : Prop where
  c1 : 0 < w.cls.length
  c4 : w.cls.length ≤ 4
  o1 : 0 < w.ops.length
  o2 : w.ops.length ≤ 4000
  fine : Fine w.ops w.cls
  perm : ord.Perm w.cls
  twnF : Fine w.ops twn
  twl : twn.length ≤ 4
  parF : Fine w.ops par
  pal : par.length ≤ 100
  pah : ∀ i, (bI i par).length ≤ 4
  k0 : 0 ≤ k
  k1 : k ≤ w.ops.length
  m1 : 1 ≤ mm
  m2 : mm ≤ 3
  rl : (rs.length : Int) = w.ops.length + mm
  mve : mv = w.cls.map (bH k mm)
  mvf : Fine rs mv
theorem Fine.sorts {code : List Int} {cls : List Cl} (h : Fine code cls) : ∀ c ∈ cls, pV c := fun c m => (h.right c m).sort
noncomputable def Tenv (w : WS) (sc : List Int) (ord twn par mv : List Cl) (rs : List Int) (k mm : Int) (_ : Unit) (r : Row) : Prop := ∃ v op a b c d e f g h, Vok v ∧ r = RL sc (jW v) op w.ops w.cls ord twn par k mm rs mv [a, b, c, d, e, f, g, h]
theorem yV {i k m : Int} {a b : Nat} (h : (a : Int) = b + m) (i0 : 0 ≤ i) (i1 : i < b) (k0 : 0 ≤ k) (k1 : k ≤ b) (m1 : 1 ≤ m) : 0 ≤ aN i k m ∧ aN i k m < a := by
  unfold aN
  by_cases q : i ≥ k
  · rw [if_pos q]; (lia -abstractProof)
  · rw [if_neg q]; (lia -abstractProof)
theorem tz (n : Nat) {w : WS} {sc : List Int} {ord twn par mv : List Cl} {rs : List Int} {k mm t : Int} (R : Ready w ord twn par mv rs k mm) {v : WS} (hv : Vok v) (ht : 0 ≤ t) (op a c d e f z h : Option LV) :
    Run (gN TT (n + 8)) (RL sc (jW v) op w.ops w.cls ord twn par k mm rs mv [a, some (.val (.int t)), c, d, e, f, z, h]) xa (turn (Tenv w sc ord twn par mv rs k mm) ()) := by
  have hc : w.cls.length ≤ 100 := by have := R.c4; exact nle (by assumption) (by decide)
  have ho2 := R.o2
  have ho1 := R.o1
  have hk0 := R.k0
  have hk1 := R.k1
  have hm1 := R.m1
  have hm2 := R.m2
  obtain ⟨a1, v1, n1, V1⟩ := iL (n + 7) v hv
  obtain ⟨x, v2, n2, V2⟩ := iL (n + 7) v1 V1
  obtain ⟨i, ei, i0, i1⟩ := oN (n + 7) a1 w.cls (w.ops.length : Int) (by exact icp (by assumption)) R.c1 hc
  obtain ⟨gl, egl, -, -⟩ := oN (n + 7) x w.cls (w.ops.length : Int) (by exact icp (by assumption)) R.c1 hc
  have hmul : ly ((x.fdiv 11).fmod 2) ((w.ops.length : Int) + 1) = true := by
    unfold ly
    rw [Bool.and_eq_true, decide_eq_true_iff, decide_eq_true_iff]
    rcases qf (x.fdiv 11) with h | h <;> rw [h] <;> (refine ⟨by decide, ?_⟩) <;> lia
  refine nX _ (lO (c6 (xIo rfl rfl n1 rfl rfl) (c6 (xE rfl) (c6 (xE rfl) rG))) ei) rfl (rS rfl rfl n2 rfl rfl rfl ?_)
  refine bC (.int (bif x.fmod 11 != 0 then gl else (x.fdiv 11).fmod 2 * ((w.ops.length : Int) + 1) - 1)) (eIteB (tInt (vIs (bo rfl rfl (by decide)) rfl) rfl) (fun q => by rw [q]; exact ab (aP rfl (aP rfl (aP rfl rfl))) egl) fun q => by rw [q]; exact vIs (kP (isMul (bo (cq rfl rfl (by decide)) rfl (by decide)) (vIs (fz rfl rfl) rfl) hmul) rfl) rfl) rfl ?_
  generalize (bif x.fmod 11 != 0 then gl else (x.fdiv 11).fmod 2 * ((w.ops.length : Int) + 1) - 1) = goal
  clear hmul egl n1 n2 ei
  refine bC (.int (aN goal k mm)) (ab (aP rfl (aP rfl (aP rfl rfl))) (di _ _ _ _)) rfl ?_
  refine kr (β := Unit) (enc := PyData.bool) (fun Z r => ∃ u z, r = RL sc (jW v2) op w.ops w.cls ord twn par k mm rs mv [a, some (.val (.int t)), some (.val (.int i)), some (.val (.int x)), some (.val (.int goal)), some (.val (.int (aN goal k mm))), u, z]) (fun Z Z => ()) [false, true] () rfl (ei2 rfl) (fun b Z Z r hI => ?_) fun r hI => ?_
  · refine cY hI fun u z e_ => ?_; obtain rfl := e_; try clear hI
    have e0 := qr (n + 4) (w.ops.length : Int) w.cls i goal b
    have e1 := cR (n + 5) w.ops w.cls i goal b hc
    have e2 := uU (n + 4) w.ops ord i goal b (by rw [R.perm.length_eq]; exact hc)
    have e3 := cR (n + 5) rs mv (aN i k mm) (aN goal k mm) b (by rw [R.mve, List.length_map]; exact hc)
    have e4 := cR (n + 5) w.ops par i goal b R.pal
    have e5 := qr (n + 4) (w.ops.length : Int) par i goal b
    rw [jI R.fine.sorts] at e1
    rw [jI (fun c m => R.fine.sorts c (R.perm.mem_iff.mp m)), vB R.perm] at e2
    rw [jI R.mvf.sorts, R.rl, R.mve, xq w.cls w.ops.length k mm i goal b (by exact Int.le_of_lt (by assumption)) hk0 hk1, ← R.mve] at e3
    rw [jI R.parF.sorts] at e4
    generalize kn (w.ops.length : Int) w.cls i goal b = W at e0 e1 e2 e3
    generalize kn (w.ops.length : Int) par i goal b = W2 at e4 e5
    exact ⟨_, rfl, bC _ (ab (aP rfl (aP rfl (aP rfl (aP rfl (aP rfl rfl))))) e0) rfl
      (sNe (eR (aP rfl (aP rfl (aP rfl (aP rfl (aP rfl rfl))))) e1) rfl
      (sNe (c5 (oJ rfl rfl (aP rfl (aP rfl (aP rfl (aP rfl rfl)))) e2 rfl) rfl) rfl
      (sNe (eR (aP rfl (aP rfl (aP (aE (ab (aP rfl (aP rfl (aP rfl rfl))) (di _ _ _ _)) rfl) (aP rfl (aP rfl rfl))))) e3) rfl
      (sNe (eR (aP rfl (aP rfl (aP rfl (aP rfl (aP rfl rfl))))) e4) (eR (aP rfl (aP rfl (aP rfl (aP rfl (aP rfl rfl))))) e5) (fin (aO (ei2 rfl)))))))⟩
  refine cY hI fun u z e_ => ?_; obtain rfl := e_; try clear hI
  have q1 : 0 ≤ (x.fdiv 3).fmod 4 := Int.fmod_nonneg_of_pos _ (by decide)
  have q2 : (x.fdiv 3).fmod 4 < 4 := Int.fmod_lt_of_pos _ (by decide)
  obtain ⟨op, hop, eop⟩ := op_get ((x.fdiv 3).fmod 4).toNat (toNat_lt q1 q2)
  have r1 : 0 ≤ t.fmod 3 := Int.fmod_nonneg_of_pos _ (by decide)
  have r2 : t.fmod 3 < 3 := Int.fmod_lt_of_pos _ (by decide)
  obtain ⟨dr, hdr, edr⟩ := t7 par twn w.cls (t.fmod 3).toNat (toNat_lt r1 r2)
  have hd : Fine w.ops dr ∧ dr.length ≤ 100 ∧ (bI i dr).length ≤ 4 := by
    rcases hdr with rfl | rfl | rfl
    · exact ⟨R.parF, R.pal, R.pah i⟩
    · exact ⟨R.twnF, by have := R.twl; exact nle (by assumption) (by decide), Nat.le_trans (gz i _) R.twl⟩
    · exact ⟨R.fine, hc, Nat.le_trans (gz i _) R.c4⟩
  have hml : mv.length ≤ 4 := by rw [R.mve, List.length_map]; exact R.c4
  have hmh : (bI (aN i k mm) mv).length ≤ 4 := Nat.le_trans (gz _ _) hml
  have hrl := R.rl
  have hpi := yV hrl i0 i1 hk0 hk1 hm1
  have p1 := gA (n + 2) w.ops dr i op hd.2.1 (by exact nle (by assumption) (by decide)) i0 i1 (by rw [ie]; exact hd.2.2) (by rw [qZ hd.1]; exact hd.2.2)
  have p2 := gA (n + 2) rs mv (aN i k mm) op (by exact nle (by assumption) (by decide)) (by lia) hpi.1 hpi.2 (by rw [ie]; exact hmh) (by rw [qZ R.mvf]; exact hmh)
  rw [qC hd.1 i op hop] at p1
  rw [qC R.mvf (aN i k mm) op hop] at p2
  refine bC (.int op) (ca (c5 (zP (ds := [.int 65050, .int 220, .int 65041, .int 42]) rfl) rfl) (vIs (bo (cq rfl rfl (by decide)) rfl (by decide)) rfl) ((if_pos ⟨q1, c8 (by exact ilw (by assumption) (by decide))⟩).trans eop)) rfl ?_
  refine bC (.list (dr.map aL)) (ca (c5 (zP (ds := [PyData.list (par.map aL), .list (twn.map aL), .list (w.cls.map aL)]) (bg rfl (bg rfl (bg rfl rfl)))) rfl) (vIs (bo rfl rfl (by decide)) rfl) ((if_pos ⟨r1, c8 (by exact ilw (by assumption) (by decide))⟩).trans edr)) rfl ?_
  exact sIf false (tOr (i4 false false (tNo (dM (aP rfl (aP rfl (aP rfl (aP rfl rfl)))) p1)) fun Z => gH (tNo (dM (aP rfl (aP rfl (aP (aE (ab (aP rfl (aP rfl (aP rfl rfl))) (di _ _ _ _)) rfl) (aP rfl rfl)))) p2)))) (fun q => nomatch q) fun Z => fB (aO ⟨v2, _, _, _, _, _, _, _, _, _, V2, rfl⟩)
end Mine
namespace Mine
open PySem
theorem wR (n : Nat) {w : WS} {sc : List Int} {ord twn par mv : List Cl} {rs : List Int} {k mm : Int} (R : Ready w ord twn par mv rs k mm) (hsc : sc.length ≤ 40) (htold : aD w.ops ord = told ord) {v : WS} (hv : Vok v) :
    Run (gN TT (n + 8)) (RL sc (jW v) none w.ops w.cls ord twn par k mm rs mv (List.replicate 8 none)) sf (ku fun r => r.1 = .bool true) := by
  have hc : w.cls.length ≤ 100 := by have := R.c4; exact nle (by assumption) (by decide)
  have ho2 := R.o2
  have hm2 := R.m2
  have hrl := R.rl
  have hol : ord.length ≤ 100 := by rw [R.perm.length_eq]; exact hc
  have hml : mv.length ≤ 100 := by rw [R.mve, List.length_map]; exact hc
  have nil := fG (xs := []) (lE (k := 0) (ds := []) (fun d m => nomatch m)) rfl
  have fin3 : ∀ a ∈ [w.cls, twn, par], Fine w.ops a ∧ a.length ≤ 100 := fun a ma => by
    simp only [List.mem_cons, List.not_mem_nil, or_false] at ma
    rcases ma with rfl | rfl | rfl
    · exact ⟨R.fine, hc⟩
    · exact ⟨R.twnF, by have := R.twl; exact nle (by assumption) (by decide)⟩
    · exact ⟨R.parF, R.pal⟩
  have mf := kM (n + 3) rs mv (by (lia -abstractProof)) hml
  rw [R.mvf.nil] at mf
  have mo := kM (n + 3) w.ops ord (by exact nle (by assumption) (by decide)) hol
  rw [htold] at mo
  have ct := ut (n + 4) ord hol
  have ne : _ = some false := (mP (told ord) (told ord)).trans (by rw [decide_eq_true rfl]; rfl)
  generalize told ord = to at mo ct ne
  have hf0 : 0 ≤ (sc.length : Int).fdiv 8 := Int.fdiv_nonneg (by exact Int.natCast_nonneg _) (by decide)
  have hf1 : (sc.length : Int).fdiv 8 ≤ 40 := by
    rw [Int.fdiv_eq_ediv_of_nonneg _ (by decide)]; (lia -abstractProof)
  refine kr (β := Unit) (enc := fun c : List Cl => PyData.list (c.map aL)) (fun Z r => ∃ a, r = RL sc (jW v) none w.ops w.cls ord twn par k mm rs mv (a :: List.replicate 7 none)) (fun Z Z => ()) [w.cls, twn, par] () rfl ⟨_, rfl⟩ (fun a ma Z r hI => ?_) fun r hI => ?_
  · obtain ⟨_, rfl⟩ := hI
    have e := ao (n + 4) w.ops a (by exact nle (by assumption) (by decide)) (fin3 a ma).2
    rw [(fin3 a ma).1.nil] at e
    exact ⟨_, rfl, sIf false (ac (eR (aP rfl (aP rfl rfl)) e) rfl nil) (fun q => nomatch q) fun Z => fB (aO ⟨_, rfl⟩)⟩
  obtain ⟨a, rfl⟩ := hI
  refine sIf false (tOr (i4 false false (ac (c5 (oJ rfl rfl (aP rfl rfl) mf rfl) rfl) rfl nil) fun Z => gH (ac (c5 (oJ rfl rfl (aP rfl rfl) mo rfl) rfl) (eR (aP rfl rfl) ct) ne))) (fun q => nomatch q) fun Z => dS ?_
  refine kr (β := Unit) (enc := fun k : Nat => PyData.int (k : Int)) (Tenv w sc ord twn par mv rs k mm) (fun Z Z => ()) (List.range (1 + (sc.length : Int).fdiv 8).toNat) () (fW (bg (vIs (fz rfl (vIs (cq (dj (enc := PyData.int) rfl) rfl (by decide)) rfl)) rfl) rfl) (rZ _ (by (lia -abstractProof)) (by (lia -abstractProof)))) ⟨v, _, _, _, _, _, _, _, _, _, hv, rfl⟩ (fun t Z Z r hI => ?_) fun r hI => ?_
  · refine wB hI fun v op a b c d e f g h hv e11_ => ?_; obtain rfl := e11_; try clear hI
    exact ⟨_, rfl, tz n R hv (Int.natCast_nonneg t) op a c d e f g h⟩
  refine wB hI fun v op a b c d e f g h hv e11_ => ?_; obtain rfl := e11_; try clear hI
  refine bY (iL (n + 7) v hv) fun y1 v1 n1 V1 => ?_
  refine bY (iL (n + 7) v1 V1) fun y2 v2 n2 V2 => ?_
  refine bY (iL (n + 7) v2 V2) fun y3 v3 n3 V3 => ?_
  refine aA (qt (n + 7) w.cls y1 R.c1 hc) fun ts htl et => ?_
  exact sRetX _ (lO (c6 (xE rfl) (c6 (lO (c6 (xE rfl) (c6 (xIo rfl rfl n1 rfl rfl) rG)) et) (c6 (xIo rfl rfl n2 rfl rfl) (c6 (xIo rfl rfl n3 rfl rfl) rG)))) (kD (n + 2) w.ops ts y2 y3 (by exact nle (by assumption) (by decide)) (by have := R.c4; (lia -abstractProof)) (vG w.ops ts) (vF w.ops ts y2) (vE w.ops ts y3))) rfl
theorem r8 {w : WS} (M : Made w) {par : List Cl} (y1 y2 y4 : Int) {m : Nat} (hp : rF w.cls par) (hm1 : 1 ≤ m) (hm2 : m ≤ 3) :
    Ready w (dv w.cls.length w.cls y1) (cw w.cls y2) par (w.cls.map (bH (bS w.cls y4 w.ops.length) m)) (gD w.ops (bS w.cls y4 w.ops.length) m) (bS w.cls y4 w.ops.length) m := by
  obtain ⟨k0, k1⟩ := gL w.cls y4 w.ops.length
  have c4 := M.c4
  exact {
    c1 := M.c1, c4 := M.c4, o1 := M.o1, o2 := M.o2, fine := M.fine, perm := ii _ _ _ rfl
    twnF := M.fine.exch y2
    twl := by rw [qk]; exact M.c4
    parF := M.fine.cut hp
    pal := by
      rcases hp with rfl | ⟨c, hc, a, b, _, _, _, rfl⟩
      · exact nle (by assumption) (by decide)
      · simp only [List.length_append, List.length_take, List.length_drop, List.length_cons, List.length_nil]
        (lia -abstractProof)
    pah := fun i => wg M.fine hp i M.c4
    k0 := k0, k1 := k1, m1 := by exact icp (by assumption), m2 := by exact icl (by assumption) (by decide)
    rl := by rw [mE _ _ _ k0 k1]; (lia -abstractProof)
    mve := rfl
    mvf := M.fine.mov y4 (m := m) (by assumption) }
end Mine
namespace Mine
open PySem
theorem lawRuns : tv := fun xs => bA 8 20 rfl rfl rfl (uX 0 xs fun w M Z => yg 0 w M (xs.take 40) fun par y1 y2 y4 m v hp hm1 hm2 V =>
  wR 0 (r8 M y1 y2 y4 hp hm1 hm2) (by rw [List.length_take]; (lia -abstractProof)) (M.fine.told (ii _ _ _ rfl)) V)
end Mine
theorem PySem.Challenge.cw_xm0262_01_holds : PySem.Challenge.rw_xm0262_01.Holds := by
  exact Mine.law_of Mine.lawRuns
