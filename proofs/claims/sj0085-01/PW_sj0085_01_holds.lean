import PyProof.Rows.All
import Wide.All
import OpenK.AllK
import Wide.FinOn
import PySem.Challenge.RW_sj0085_01
set_option linter.all false
set_option Elab.async false
set_option maxRecDepth 100000
namespace Mj
section
theorem ltB {a b c : Nat} (h : b ≤ c) (h' : a < b) : a < c := Nat.lt_of_lt_of_le h' h
local macro_rules | `(tactic| omega) => `(tactic| first
  | with_reducible assumption
  | with_reducible exact Nat.lt_of_lt_of_le (by with_reducible assumption) (by decide)
  | with_reducible exact Nat.lt_of_le_of_lt (by with_reducible assumption) (by decide)
  | with_reducible exact Nat.le_trans (by with_reducible assumption) (by decide)
  | with_reducible exact ltB (by with_reducible assumption) (by decide)
  | with_reducible exact Int.natCast_nonneg _
  | with_reducible exact Int.ofNat_lt.mpr (by with_reducible assumption)
  | with_reducible exact Int.ofNat_le.mpr (by with_reducible assumption)
  | with_reducible exact Int.ofNat_lt.mp (by with_reducible assumption)
  | with_reducible exact Int.ofNat_le.mp (by with_reducible assumption)
  | with_reducible exact Int.ofNat_inj.mp (by with_reducible assumption)
  | with_reducible exact Int.toNat_natCast _
  | with_reducible decide
  | lia)
theorem ex0an2 {p0 p1 : Prop} {g : Prop} (h : p0 ∧ p1) (k : p0 → p1 → g) : g := k  h.1 h.2
theorem ex0an3 {p0 p1 p2 : Prop} {g : Prop} (h : p0 ∧ p1 ∧ p2) (k : p0 → p1 → p2 → g) : g := k  h.1 h.2.1 h.2.2
theorem ex0an4 {p0 p1 p2 p3 : Prop} {g : Prop} (h : p0 ∧ p1 ∧ p2 ∧ p3) (k : p0 → p1 → p2 → p3 → g) : g := k  h.1 h.2.1 h.2.2.1 h.2.2.2
theorem ex0an5 {p0 p1 p2 p3 p4 : Prop} {g : Prop} (h : p0 ∧ p1 ∧ p2 ∧ p3 ∧ p4) (k : p0 → p1 → p2 → p3 → p4 → g) : g := k  h.1 h.2.1 h.2.2.1 h.2.2.2.1 h.2.2.2.2
theorem ex0an6 {p0 p1 p2 p3 p4 p5 : Prop} {g : Prop} (h : p0 ∧ p1 ∧ p2 ∧ p3 ∧ p4 ∧ p5) (k : p0 → p1 → p2 → p3 → p4 → p5 → g) : g := k  h.1 h.2.1 h.2.2.1 h.2.2.2.1 h.2.2.2.2.1 h.2.2.2.2.2
theorem ex0an7 {p0 p1 p2 p3 p4 p5 p6 : Prop} {g : Prop} (h : p0 ∧ p1 ∧ p2 ∧ p3 ∧ p4 ∧ p5 ∧ p6) (k : p0 → p1 → p2 → p3 → p4 → p5 → p6 → g) : g := k  h.1 h.2.1 h.2.2.1 h.2.2.2.1 h.2.2.2.2.1 h.2.2.2.2.2.1 h.2.2.2.2.2.2
theorem ex0an8 {p0 p1 p2 p3 p4 p5 p6 p7 : Prop} {g : Prop} (h : p0 ∧ p1 ∧ p2 ∧ p3 ∧ p4 ∧ p5 ∧ p6 ∧ p7) (k : p0 → p1 → p2 → p3 → p4 → p5 → p6 → p7 → g) : g := k  h.1 h.2.1 h.2.2.1 h.2.2.2.1 h.2.2.2.2.1 h.2.2.2.2.2.1 h.2.2.2.2.2.2.1 h.2.2.2.2.2.2.2
theorem ex0an9 {p0 p1 p2 p3 p4 p5 p6 p7 p8 : Prop} {g : Prop} (h : p0 ∧ p1 ∧ p2 ∧ p3 ∧ p4 ∧ p5 ∧ p6 ∧ p7 ∧ p8) (k : p0 → p1 → p2 → p3 → p4 → p5 → p6 → p7 → p8 → g) : g := k  h.1 h.2.1 h.2.2.1 h.2.2.2.1 h.2.2.2.2.1 h.2.2.2.2.2.1 h.2.2.2.2.2.2.1 h.2.2.2.2.2.2.2.1 h.2.2.2.2.2.2.2.2
theorem ex0an10 {p0 p1 p2 p3 p4 p5 p6 p7 p8 p9 : Prop} {g : Prop} (h : p0 ∧ p1 ∧ p2 ∧ p3 ∧ p4 ∧ p5 ∧ p6 ∧ p7 ∧ p8 ∧ p9) (k : p0 → p1 → p2 → p3 → p4 → p5 → p6 → p7 → p8 → p9 → g) : g := k  h.1 h.2.1 h.2.2.1 h.2.2.2.1 h.2.2.2.2.1 h.2.2.2.2.2.1 h.2.2.2.2.2.2.1 h.2.2.2.2.2.2.2.1 h.2.2.2.2.2.2.2.2.1 h.2.2.2.2.2.2.2.2.2
theorem ex1an1 {α0 : Sort _} {p0 : α0 → Prop} {g : Prop} (h : ∃ x0, p0 x0) (k : ∀ x0, p0 x0 → g) : g := Exists.elim h fun x0 h0 => k x0 h0
theorem ex1an2 {α0 : Sort _} {p0 p1 : α0 → Prop} {g : Prop} (h : ∃ x0, p0 x0 ∧ p1 x0) (k : ∀ x0, p0 x0 → p1 x0 → g) : g := Exists.elim h fun x0 h0 => k x0 h0.1 h0.2
theorem ex1an3 {α0 : Sort _} {p0 p1 p2 : α0 → Prop} {g : Prop} (h : ∃ x0, p0 x0 ∧ p1 x0 ∧ p2 x0) (k : ∀ x0, p0 x0 → p1 x0 → p2 x0 → g) : g := Exists.elim h fun x0 h0 => k x0 h0.1 h0.2.1 h0.2.2
theorem ex1an4 {α0 : Sort _} {p0 p1 p2 p3 : α0 → Prop} {g : Prop} (h : ∃ x0, p0 x0 ∧ p1 x0 ∧ p2 x0 ∧ p3 x0) (k : ∀ x0, p0 x0 → p1 x0 → p2 x0 → p3 x0 → g) : g := Exists.elim h fun x0 h0 => k x0 h0.1 h0.2.1 h0.2.2.1 h0.2.2.2
theorem ex1an5 {α0 : Sort _} {p0 p1 p2 p3 p4 : α0 → Prop} {g : Prop} (h : ∃ x0, p0 x0 ∧ p1 x0 ∧ p2 x0 ∧ p3 x0 ∧ p4 x0) (k : ∀ x0, p0 x0 → p1 x0 → p2 x0 → p3 x0 → p4 x0 → g) : g := Exists.elim h fun x0 h0 => k x0 h0.1 h0.2.1 h0.2.2.1 h0.2.2.2.1 h0.2.2.2.2
theorem ex1an6 {α0 : Sort _} {p0 p1 p2 p3 p4 p5 : α0 → Prop} {g : Prop} (h : ∃ x0, p0 x0 ∧ p1 x0 ∧ p2 x0 ∧ p3 x0 ∧ p4 x0 ∧ p5 x0) (k : ∀ x0, p0 x0 → p1 x0 → p2 x0 → p3 x0 → p4 x0 → p5 x0 → g) : g := Exists.elim h fun x0 h0 => k x0 h0.1 h0.2.1 h0.2.2.1 h0.2.2.2.1 h0.2.2.2.2.1 h0.2.2.2.2.2
theorem ex1an7 {α0 : Sort _} {p0 p1 p2 p3 p4 p5 p6 : α0 → Prop} {g : Prop} (h : ∃ x0, p0 x0 ∧ p1 x0 ∧ p2 x0 ∧ p3 x0 ∧ p4 x0 ∧ p5 x0 ∧ p6 x0) (k : ∀ x0, p0 x0 → p1 x0 → p2 x0 → p3 x0 → p4 x0 → p5 x0 → p6 x0 → g) : g := Exists.elim h fun x0 h0 => k x0 h0.1 h0.2.1 h0.2.2.1 h0.2.2.2.1 h0.2.2.2.2.1 h0.2.2.2.2.2.1 h0.2.2.2.2.2.2
theorem ex1an8 {α0 : Sort _} {p0 p1 p2 p3 p4 p5 p6 p7 : α0 → Prop} {g : Prop} (h : ∃ x0, p0 x0 ∧ p1 x0 ∧ p2 x0 ∧ p3 x0 ∧ p4 x0 ∧ p5 x0 ∧ p6 x0 ∧ p7 x0) (k : ∀ x0, p0 x0 → p1 x0 → p2 x0 → p3 x0 → p4 x0 → p5 x0 → p6 x0 → p7 x0 → g) : g := Exists.elim h fun x0 h0 => k x0 h0.1 h0.2.1 h0.2.2.1 h0.2.2.2.1 h0.2.2.2.2.1 h0.2.2.2.2.2.1 h0.2.2.2.2.2.2.1 h0.2.2.2.2.2.2.2
theorem ex1an9 {α0 : Sort _} {p0 p1 p2 p3 p4 p5 p6 p7 p8 : α0 → Prop} {g : Prop} (h : ∃ x0, p0 x0 ∧ p1 x0 ∧ p2 x0 ∧ p3 x0 ∧ p4 x0 ∧ p5 x0 ∧ p6 x0 ∧ p7 x0 ∧ p8 x0) (k : ∀ x0, p0 x0 → p1 x0 → p2 x0 → p3 x0 → p4 x0 → p5 x0 → p6 x0 → p7 x0 → p8 x0 → g) : g := Exists.elim h fun x0 h0 => k x0 h0.1 h0.2.1 h0.2.2.1 h0.2.2.2.1 h0.2.2.2.2.1 h0.2.2.2.2.2.1 h0.2.2.2.2.2.2.1 h0.2.2.2.2.2.2.2.1 h0.2.2.2.2.2.2.2.2
theorem ex1an10 {α0 : Sort _} {p0 p1 p2 p3 p4 p5 p6 p7 p8 p9 : α0 → Prop} {g : Prop} (h : ∃ x0, p0 x0 ∧ p1 x0 ∧ p2 x0 ∧ p3 x0 ∧ p4 x0 ∧ p5 x0 ∧ p6 x0 ∧ p7 x0 ∧ p8 x0 ∧ p9 x0) (k : ∀ x0, p0 x0 → p1 x0 → p2 x0 → p3 x0 → p4 x0 → p5 x0 → p6 x0 → p7 x0 → p8 x0 → p9 x0 → g) : g := Exists.elim h fun x0 h0 => k x0 h0.1 h0.2.1 h0.2.2.1 h0.2.2.2.1 h0.2.2.2.2.1 h0.2.2.2.2.2.1 h0.2.2.2.2.2.2.1 h0.2.2.2.2.2.2.2.1 h0.2.2.2.2.2.2.2.2.1 h0.2.2.2.2.2.2.2.2.2
theorem ex2an1 {α0 : Sort _} {α1 : Sort _} {p0 : α0 → α1 → Prop} {g : Prop} (h : ∃ x0 x1, p0 x0 x1) (k : ∀ x0 x1, p0 x0 x1 → g) : g := Exists.elim h fun x0 h0 => Exists.elim h0 fun x1 h1 => k x0 x1 h1
theorem ex2an2 {α0 : Sort _} {α1 : Sort _} {p0 p1 : α0 → α1 → Prop} {g : Prop} (h : ∃ x0 x1, p0 x0 x1 ∧ p1 x0 x1) (k : ∀ x0 x1, p0 x0 x1 → p1 x0 x1 → g) : g := Exists.elim h fun x0 h0 => Exists.elim h0 fun x1 h1 => k x0 x1 h1.1 h1.2
theorem ex2an3 {α0 : Sort _} {α1 : Sort _} {p0 p1 p2 : α0 → α1 → Prop} {g : Prop} (h : ∃ x0 x1, p0 x0 x1 ∧ p1 x0 x1 ∧ p2 x0 x1) (k : ∀ x0 x1, p0 x0 x1 → p1 x0 x1 → p2 x0 x1 → g) : g := Exists.elim h fun x0 h0 => Exists.elim h0 fun x1 h1 => k x0 x1 h1.1 h1.2.1 h1.2.2
theorem ex2an4 {α0 : Sort _} {α1 : Sort _} {p0 p1 p2 p3 : α0 → α1 → Prop} {g : Prop} (h : ∃ x0 x1, p0 x0 x1 ∧ p1 x0 x1 ∧ p2 x0 x1 ∧ p3 x0 x1) (k : ∀ x0 x1, p0 x0 x1 → p1 x0 x1 → p2 x0 x1 → p3 x0 x1 → g) : g := Exists.elim h fun x0 h0 => Exists.elim h0 fun x1 h1 => k x0 x1 h1.1 h1.2.1 h1.2.2.1 h1.2.2.2
theorem ex2an5 {α0 : Sort _} {α1 : Sort _} {p0 p1 p2 p3 p4 : α0 → α1 → Prop} {g : Prop} (h : ∃ x0 x1, p0 x0 x1 ∧ p1 x0 x1 ∧ p2 x0 x1 ∧ p3 x0 x1 ∧ p4 x0 x1) (k : ∀ x0 x1, p0 x0 x1 → p1 x0 x1 → p2 x0 x1 → p3 x0 x1 → p4 x0 x1 → g) : g := Exists.elim h fun x0 h0 => Exists.elim h0 fun x1 h1 => k x0 x1 h1.1 h1.2.1 h1.2.2.1 h1.2.2.2.1 h1.2.2.2.2
theorem ex2an6 {α0 : Sort _} {α1 : Sort _} {p0 p1 p2 p3 p4 p5 : α0 → α1 → Prop} {g : Prop} (h : ∃ x0 x1, p0 x0 x1 ∧ p1 x0 x1 ∧ p2 x0 x1 ∧ p3 x0 x1 ∧ p4 x0 x1 ∧ p5 x0 x1) (k : ∀ x0 x1, p0 x0 x1 → p1 x0 x1 → p2 x0 x1 → p3 x0 x1 → p4 x0 x1 → p5 x0 x1 → g) : g := Exists.elim h fun x0 h0 => Exists.elim h0 fun x1 h1 => k x0 x1 h1.1 h1.2.1 h1.2.2.1 h1.2.2.2.1 h1.2.2.2.2.1 h1.2.2.2.2.2
theorem ex2an7 {α0 : Sort _} {α1 : Sort _} {p0 p1 p2 p3 p4 p5 p6 : α0 → α1 → Prop} {g : Prop} (h : ∃ x0 x1, p0 x0 x1 ∧ p1 x0 x1 ∧ p2 x0 x1 ∧ p3 x0 x1 ∧ p4 x0 x1 ∧ p5 x0 x1 ∧ p6 x0 x1) (k : ∀ x0 x1, p0 x0 x1 → p1 x0 x1 → p2 x0 x1 → p3 x0 x1 → p4 x0 x1 → p5 x0 x1 → p6 x0 x1 → g) : g := Exists.elim h fun x0 h0 => Exists.elim h0 fun x1 h1 => k x0 x1 h1.1 h1.2.1 h1.2.2.1 h1.2.2.2.1 h1.2.2.2.2.1 h1.2.2.2.2.2.1 h1.2.2.2.2.2.2
theorem ex2an8 {α0 : Sort _} {α1 : Sort _} {p0 p1 p2 p3 p4 p5 p6 p7 : α0 → α1 → Prop} {g : Prop} (h : ∃ x0 x1, p0 x0 x1 ∧ p1 x0 x1 ∧ p2 x0 x1 ∧ p3 x0 x1 ∧ p4 x0 x1 ∧ p5 x0 x1 ∧ p6 x0 x1 ∧ p7 x0 x1) (k : ∀ x0 x1, p0 x0 x1 → p1 x0 x1 → p2 x0 x1 → p3 x0 x1 → p4 x0 x1 → p5 x0 x1 → p6 x0 x1 → p7 x0 x1 → g) : g := Exists.elim h fun x0 h0 => Exists.elim h0 fun x1 h1 => k x0 x1 h1.1 h1.2.1 h1.2.2.1 h1.2.2.2.1 h1.2.2.2.2.1 h1.2.2.2.2.2.1 h1.2.2.2.2.2.2.1 h1.2.2.2.2.2.2.2
theorem ex2an9 {α0 : Sort _} {α1 : Sort _} {p0 p1 p2 p3 p4 p5 p6 p7 p8 : α0 → α1 → Prop} {g : Prop} (h : ∃ x0 x1, p0 x0 x1 ∧ p1 x0 x1 ∧ p2 x0 x1 ∧ p3 x0 x1 ∧ p4 x0 x1 ∧ p5 x0 x1 ∧ p6 x0 x1 ∧ p7 x0 x1 ∧ p8 x0 x1) (k : ∀ x0 x1, p0 x0 x1 → p1 x0 x1 → p2 x0 x1 → p3 x0 x1 → p4 x0 x1 → p5 x0 x1 → p6 x0 x1 → p7 x0 x1 → p8 x0 x1 → g) : g := Exists.elim h fun x0 h0 => Exists.elim h0 fun x1 h1 => k x0 x1 h1.1 h1.2.1 h1.2.2.1 h1.2.2.2.1 h1.2.2.2.2.1 h1.2.2.2.2.2.1 h1.2.2.2.2.2.2.1 h1.2.2.2.2.2.2.2.1 h1.2.2.2.2.2.2.2.2
theorem ex3an1 {α0 : Sort _} {α1 : Sort _} {α2 : Sort _} {p0 : α0 → α1 → α2 → Prop} {g : Prop} (h : ∃ x0 x1 x2, p0 x0 x1 x2) (k : ∀ x0 x1 x2, p0 x0 x1 x2 → g) : g := Exists.elim h fun x0 h0 => Exists.elim h0 fun x1 h1 => Exists.elim h1 fun x2 h2 => k x0 x1 x2 h2
theorem ex3an2 {α0 : Sort _} {α1 : Sort _} {α2 : Sort _} {p0 p1 : α0 → α1 → α2 → Prop} {g : Prop} (h : ∃ x0 x1 x2, p0 x0 x1 x2 ∧ p1 x0 x1 x2) (k : ∀ x0 x1 x2, p0 x0 x1 x2 → p1 x0 x1 x2 → g) : g := Exists.elim h fun x0 h0 => Exists.elim h0 fun x1 h1 => Exists.elim h1 fun x2 h2 => k x0 x1 x2 h2.1 h2.2
theorem ex3an3 {α0 : Sort _} {α1 : Sort _} {α2 : Sort _} {p0 p1 p2 : α0 → α1 → α2 → Prop} {g : Prop} (h : ∃ x0 x1 x2, p0 x0 x1 x2 ∧ p1 x0 x1 x2 ∧ p2 x0 x1 x2) (k : ∀ x0 x1 x2, p0 x0 x1 x2 → p1 x0 x1 x2 → p2 x0 x1 x2 → g) : g := Exists.elim h fun x0 h0 => Exists.elim h0 fun x1 h1 => Exists.elim h1 fun x2 h2 => k x0 x1 x2 h2.1 h2.2.1 h2.2.2
theorem ex3an4 {α0 : Sort _} {α1 : Sort _} {α2 : Sort _} {p0 p1 p2 p3 : α0 → α1 → α2 → Prop} {g : Prop} (h : ∃ x0 x1 x2, p0 x0 x1 x2 ∧ p1 x0 x1 x2 ∧ p2 x0 x1 x2 ∧ p3 x0 x1 x2) (k : ∀ x0 x1 x2, p0 x0 x1 x2 → p1 x0 x1 x2 → p2 x0 x1 x2 → p3 x0 x1 x2 → g) : g := Exists.elim h fun x0 h0 => Exists.elim h0 fun x1 h1 => Exists.elim h1 fun x2 h2 => k x0 x1 x2 h2.1 h2.2.1 h2.2.2.1 h2.2.2.2
theorem ex3an5 {α0 : Sort _} {α1 : Sort _} {α2 : Sort _} {p0 p1 p2 p3 p4 : α0 → α1 → α2 → Prop} {g : Prop} (h : ∃ x0 x1 x2, p0 x0 x1 x2 ∧ p1 x0 x1 x2 ∧ p2 x0 x1 x2 ∧ p3 x0 x1 x2 ∧ p4 x0 x1 x2) (k : ∀ x0 x1 x2, p0 x0 x1 x2 → p1 x0 x1 x2 → p2 x0 x1 x2 → p3 x0 x1 x2 → p4 x0 x1 x2 → g) : g := Exists.elim h fun x0 h0 => Exists.elim h0 fun x1 h1 => Exists.elim h1 fun x2 h2 => k x0 x1 x2 h2.1 h2.2.1 h2.2.2.1 h2.2.2.2.1 h2.2.2.2.2
theorem ex3an6 {α0 : Sort _} {α1 : Sort _} {α2 : Sort _} {p0 p1 p2 p3 p4 p5 : α0 → α1 → α2 → Prop} {g : Prop} (h : ∃ x0 x1 x2, p0 x0 x1 x2 ∧ p1 x0 x1 x2 ∧ p2 x0 x1 x2 ∧ p3 x0 x1 x2 ∧ p4 x0 x1 x2 ∧ p5 x0 x1 x2) (k : ∀ x0 x1 x2, p0 x0 x1 x2 → p1 x0 x1 x2 → p2 x0 x1 x2 → p3 x0 x1 x2 → p4 x0 x1 x2 → p5 x0 x1 x2 → g) : g := Exists.elim h fun x0 h0 => Exists.elim h0 fun x1 h1 => Exists.elim h1 fun x2 h2 => k x0 x1 x2 h2.1 h2.2.1 h2.2.2.1 h2.2.2.2.1 h2.2.2.2.2.1 h2.2.2.2.2.2
theorem ex3an7 {α0 : Sort _} {α1 : Sort _} {α2 : Sort _} {p0 p1 p2 p3 p4 p5 p6 : α0 → α1 → α2 → Prop} {g : Prop} (h : ∃ x0 x1 x2, p0 x0 x1 x2 ∧ p1 x0 x1 x2 ∧ p2 x0 x1 x2 ∧ p3 x0 x1 x2 ∧ p4 x0 x1 x2 ∧ p5 x0 x1 x2 ∧ p6 x0 x1 x2) (k : ∀ x0 x1 x2, p0 x0 x1 x2 → p1 x0 x1 x2 → p2 x0 x1 x2 → p3 x0 x1 x2 → p4 x0 x1 x2 → p5 x0 x1 x2 → p6 x0 x1 x2 → g) : g := Exists.elim h fun x0 h0 => Exists.elim h0 fun x1 h1 => Exists.elim h1 fun x2 h2 => k x0 x1 x2 h2.1 h2.2.1 h2.2.2.1 h2.2.2.2.1 h2.2.2.2.2.1 h2.2.2.2.2.2.1 h2.2.2.2.2.2.2
theorem ex3an8 {α0 : Sort _} {α1 : Sort _} {α2 : Sort _} {p0 p1 p2 p3 p4 p5 p6 p7 : α0 → α1 → α2 → Prop} {g : Prop} (h : ∃ x0 x1 x2, p0 x0 x1 x2 ∧ p1 x0 x1 x2 ∧ p2 x0 x1 x2 ∧ p3 x0 x1 x2 ∧ p4 x0 x1 x2 ∧ p5 x0 x1 x2 ∧ p6 x0 x1 x2 ∧ p7 x0 x1 x2) (k : ∀ x0 x1 x2, p0 x0 x1 x2 → p1 x0 x1 x2 → p2 x0 x1 x2 → p3 x0 x1 x2 → p4 x0 x1 x2 → p5 x0 x1 x2 → p6 x0 x1 x2 → p7 x0 x1 x2 → g) : g := Exists.elim h fun x0 h0 => Exists.elim h0 fun x1 h1 => Exists.elim h1 fun x2 h2 => k x0 x1 x2 h2.1 h2.2.1 h2.2.2.1 h2.2.2.2.1 h2.2.2.2.2.1 h2.2.2.2.2.2.1 h2.2.2.2.2.2.2.1 h2.2.2.2.2.2.2.2
theorem ex4an1 {α0 : Sort _} {α1 : Sort _} {α2 : Sort _} {α3 : Sort _} {p0 : α0 → α1 → α2 → α3 → Prop} {g : Prop} (h : ∃ x0 x1 x2 x3, p0 x0 x1 x2 x3) (k : ∀ x0 x1 x2 x3, p0 x0 x1 x2 x3 → g) : g := Exists.elim h fun x0 h0 => Exists.elim h0 fun x1 h1 => Exists.elim h1 fun x2 h2 => Exists.elim h2 fun x3 h3 => k x0 x1 x2 x3 h3
theorem ex4an2 {α0 : Sort _} {α1 : Sort _} {α2 : Sort _} {α3 : Sort _} {p0 p1 : α0 → α1 → α2 → α3 → Prop} {g : Prop} (h : ∃ x0 x1 x2 x3, p0 x0 x1 x2 x3 ∧ p1 x0 x1 x2 x3) (k : ∀ x0 x1 x2 x3, p0 x0 x1 x2 x3 → p1 x0 x1 x2 x3 → g) : g := Exists.elim h fun x0 h0 => Exists.elim h0 fun x1 h1 => Exists.elim h1 fun x2 h2 => Exists.elim h2 fun x3 h3 => k x0 x1 x2 x3 h3.1 h3.2
theorem ex4an3 {α0 : Sort _} {α1 : Sort _} {α2 : Sort _} {α3 : Sort _} {p0 p1 p2 : α0 → α1 → α2 → α3 → Prop} {g : Prop} (h : ∃ x0 x1 x2 x3, p0 x0 x1 x2 x3 ∧ p1 x0 x1 x2 x3 ∧ p2 x0 x1 x2 x3) (k : ∀ x0 x1 x2 x3, p0 x0 x1 x2 x3 → p1 x0 x1 x2 x3 → p2 x0 x1 x2 x3 → g) : g := Exists.elim h fun x0 h0 => Exists.elim h0 fun x1 h1 => Exists.elim h1 fun x2 h2 => Exists.elim h2 fun x3 h3 => k x0 x1 x2 x3 h3.1 h3.2.1 h3.2.2
theorem ex4an4 {α0 : Sort _} {α1 : Sort _} {α2 : Sort _} {α3 : Sort _} {p0 p1 p2 p3 : α0 → α1 → α2 → α3 → Prop} {g : Prop} (h : ∃ x0 x1 x2 x3, p0 x0 x1 x2 x3 ∧ p1 x0 x1 x2 x3 ∧ p2 x0 x1 x2 x3 ∧ p3 x0 x1 x2 x3) (k : ∀ x0 x1 x2 x3, p0 x0 x1 x2 x3 → p1 x0 x1 x2 x3 → p2 x0 x1 x2 x3 → p3 x0 x1 x2 x3 → g) : g := Exists.elim h fun x0 h0 => Exists.elim h0 fun x1 h1 => Exists.elim h1 fun x2 h2 => Exists.elim h2 fun x3 h3 => k x0 x1 x2 x3 h3.1 h3.2.1 h3.2.2.1 h3.2.2.2
theorem ex4an5 {α0 : Sort _} {α1 : Sort _} {α2 : Sort _} {α3 : Sort _} {p0 p1 p2 p3 p4 : α0 → α1 → α2 → α3 → Prop} {g : Prop} (h : ∃ x0 x1 x2 x3, p0 x0 x1 x2 x3 ∧ p1 x0 x1 x2 x3 ∧ p2 x0 x1 x2 x3 ∧ p3 x0 x1 x2 x3 ∧ p4 x0 x1 x2 x3) (k : ∀ x0 x1 x2 x3, p0 x0 x1 x2 x3 → p1 x0 x1 x2 x3 → p2 x0 x1 x2 x3 → p3 x0 x1 x2 x3 → p4 x0 x1 x2 x3 → g) : g := Exists.elim h fun x0 h0 => Exists.elim h0 fun x1 h1 => Exists.elim h1 fun x2 h2 => Exists.elim h2 fun x3 h3 => k x0 x1 x2 x3 h3.1 h3.2.1 h3.2.2.1 h3.2.2.2.1 h3.2.2.2.2
theorem ex4an6 {α0 : Sort _} {α1 : Sort _} {α2 : Sort _} {α3 : Sort _} {p0 p1 p2 p3 p4 p5 : α0 → α1 → α2 → α3 → Prop} {g : Prop} (h : ∃ x0 x1 x2 x3, p0 x0 x1 x2 x3 ∧ p1 x0 x1 x2 x3 ∧ p2 x0 x1 x2 x3 ∧ p3 x0 x1 x2 x3 ∧ p4 x0 x1 x2 x3 ∧ p5 x0 x1 x2 x3) (k : ∀ x0 x1 x2 x3, p0 x0 x1 x2 x3 → p1 x0 x1 x2 x3 → p2 x0 x1 x2 x3 → p3 x0 x1 x2 x3 → p4 x0 x1 x2 x3 → p5 x0 x1 x2 x3 → g) : g := Exists.elim h fun x0 h0 => Exists.elim h0 fun x1 h1 => Exists.elim h1 fun x2 h2 => Exists.elim h2 fun x3 h3 => k x0 x1 x2 x3 h3.1 h3.2.1 h3.2.2.1 h3.2.2.2.1 h3.2.2.2.2.1 h3.2.2.2.2.2
theorem ex4an7 {α0 : Sort _} {α1 : Sort _} {α2 : Sort _} {α3 : Sort _} {p0 p1 p2 p3 p4 p5 p6 : α0 → α1 → α2 → α3 → Prop} {g : Prop} (h : ∃ x0 x1 x2 x3, p0 x0 x1 x2 x3 ∧ p1 x0 x1 x2 x3 ∧ p2 x0 x1 x2 x3 ∧ p3 x0 x1 x2 x3 ∧ p4 x0 x1 x2 x3 ∧ p5 x0 x1 x2 x3 ∧ p6 x0 x1 x2 x3) (k : ∀ x0 x1 x2 x3, p0 x0 x1 x2 x3 → p1 x0 x1 x2 x3 → p2 x0 x1 x2 x3 → p3 x0 x1 x2 x3 → p4 x0 x1 x2 x3 → p5 x0 x1 x2 x3 → p6 x0 x1 x2 x3 → g) : g := Exists.elim h fun x0 h0 => Exists.elim h0 fun x1 h1 => Exists.elim h1 fun x2 h2 => Exists.elim h2 fun x3 h3 => k x0 x1 x2 x3 h3.1 h3.2.1 h3.2.2.1 h3.2.2.2.1 h3.2.2.2.2.1 h3.2.2.2.2.2.1 h3.2.2.2.2.2.2
theorem ex5an1 {α0 : Sort _} {α1 : Sort _} {α2 : Sort _} {α3 : Sort _} {α4 : Sort _} {p0 : α0 → α1 → α2 → α3 → α4 → Prop} {g : Prop} (h : ∃ x0 x1 x2 x3 x4, p0 x0 x1 x2 x3 x4) (k : ∀ x0 x1 x2 x3 x4, p0 x0 x1 x2 x3 x4 → g) : g := Exists.elim h fun x0 h0 => Exists.elim h0 fun x1 h1 => Exists.elim h1 fun x2 h2 => Exists.elim h2 fun x3 h3 => Exists.elim h3 fun x4 h4 => k x0 x1 x2 x3 x4 h4
theorem ex5an2 {α0 : Sort _} {α1 : Sort _} {α2 : Sort _} {α3 : Sort _} {α4 : Sort _} {p0 p1 : α0 → α1 → α2 → α3 → α4 → Prop} {g : Prop} (h : ∃ x0 x1 x2 x3 x4, p0 x0 x1 x2 x3 x4 ∧ p1 x0 x1 x2 x3 x4) (k : ∀ x0 x1 x2 x3 x4, p0 x0 x1 x2 x3 x4 → p1 x0 x1 x2 x3 x4 → g) : g := Exists.elim h fun x0 h0 => Exists.elim h0 fun x1 h1 => Exists.elim h1 fun x2 h2 => Exists.elim h2 fun x3 h3 => Exists.elim h3 fun x4 h4 => k x0 x1 x2 x3 x4 h4.1 h4.2
theorem ex5an3 {α0 : Sort _} {α1 : Sort _} {α2 : Sort _} {α3 : Sort _} {α4 : Sort _} {p0 p1 p2 : α0 → α1 → α2 → α3 → α4 → Prop} {g : Prop} (h : ∃ x0 x1 x2 x3 x4, p0 x0 x1 x2 x3 x4 ∧ p1 x0 x1 x2 x3 x4 ∧ p2 x0 x1 x2 x3 x4) (k : ∀ x0 x1 x2 x3 x4, p0 x0 x1 x2 x3 x4 → p1 x0 x1 x2 x3 x4 → p2 x0 x1 x2 x3 x4 → g) : g := Exists.elim h fun x0 h0 => Exists.elim h0 fun x1 h1 => Exists.elim h1 fun x2 h2 => Exists.elim h2 fun x3 h3 => Exists.elim h3 fun x4 h4 => k x0 x1 x2 x3 x4 h4.1 h4.2.1 h4.2.2
theorem ex5an4 {α0 : Sort _} {α1 : Sort _} {α2 : Sort _} {α3 : Sort _} {α4 : Sort _} {p0 p1 p2 p3 : α0 → α1 → α2 → α3 → α4 → Prop} {g : Prop} (h : ∃ x0 x1 x2 x3 x4, p0 x0 x1 x2 x3 x4 ∧ p1 x0 x1 x2 x3 x4 ∧ p2 x0 x1 x2 x3 x4 ∧ p3 x0 x1 x2 x3 x4) (k : ∀ x0 x1 x2 x3 x4, p0 x0 x1 x2 x3 x4 → p1 x0 x1 x2 x3 x4 → p2 x0 x1 x2 x3 x4 → p3 x0 x1 x2 x3 x4 → g) : g := Exists.elim h fun x0 h0 => Exists.elim h0 fun x1 h1 => Exists.elim h1 fun x2 h2 => Exists.elim h2 fun x3 h3 => Exists.elim h3 fun x4 h4 => k x0 x1 x2 x3 x4 h4.1 h4.2.1 h4.2.2.1 h4.2.2.2
theorem ex5an5 {α0 : Sort _} {α1 : Sort _} {α2 : Sort _} {α3 : Sort _} {α4 : Sort _} {p0 p1 p2 p3 p4 : α0 → α1 → α2 → α3 → α4 → Prop} {g : Prop} (h : ∃ x0 x1 x2 x3 x4, p0 x0 x1 x2 x3 x4 ∧ p1 x0 x1 x2 x3 x4 ∧ p2 x0 x1 x2 x3 x4 ∧ p3 x0 x1 x2 x3 x4 ∧ p4 x0 x1 x2 x3 x4) (k : ∀ x0 x1 x2 x3 x4, p0 x0 x1 x2 x3 x4 → p1 x0 x1 x2 x3 x4 → p2 x0 x1 x2 x3 x4 → p3 x0 x1 x2 x3 x4 → p4 x0 x1 x2 x3 x4 → g) : g := Exists.elim h fun x0 h0 => Exists.elim h0 fun x1 h1 => Exists.elim h1 fun x2 h2 => Exists.elim h2 fun x3 h3 => Exists.elim h3 fun x4 h4 => k x0 x1 x2 x3 x4 h4.1 h4.2.1 h4.2.2.1 h4.2.2.2.1 h4.2.2.2.2
theorem ex5an6 {α0 : Sort _} {α1 : Sort _} {α2 : Sort _} {α3 : Sort _} {α4 : Sort _} {p0 p1 p2 p3 p4 p5 : α0 → α1 → α2 → α3 → α4 → Prop} {g : Prop} (h : ∃ x0 x1 x2 x3 x4, p0 x0 x1 x2 x3 x4 ∧ p1 x0 x1 x2 x3 x4 ∧ p2 x0 x1 x2 x3 x4 ∧ p3 x0 x1 x2 x3 x4 ∧ p4 x0 x1 x2 x3 x4 ∧ p5 x0 x1 x2 x3 x4) (k : ∀ x0 x1 x2 x3 x4, p0 x0 x1 x2 x3 x4 → p1 x0 x1 x2 x3 x4 → p2 x0 x1 x2 x3 x4 → p3 x0 x1 x2 x3 x4 → p4 x0 x1 x2 x3 x4 → p5 x0 x1 x2 x3 x4 → g) : g := Exists.elim h fun x0 h0 => Exists.elim h0 fun x1 h1 => Exists.elim h1 fun x2 h2 => Exists.elim h2 fun x3 h3 => Exists.elim h3 fun x4 h4 => k x0 x1 x2 x3 x4 h4.1 h4.2.1 h4.2.2.1 h4.2.2.2.1 h4.2.2.2.2.1 h4.2.2.2.2.2
theorem ex6an1 {α0 : Sort _} {α1 : Sort _} {α2 : Sort _} {α3 : Sort _} {α4 : Sort _} {α5 : Sort _} {p0 : α0 → α1 → α2 → α3 → α4 → α5 → Prop} {g : Prop} (h : ∃ x0 x1 x2 x3 x4 x5, p0 x0 x1 x2 x3 x4 x5) (k : ∀ x0 x1 x2 x3 x4 x5, p0 x0 x1 x2 x3 x4 x5 → g) : g := Exists.elim h fun x0 h0 => Exists.elim h0 fun x1 h1 => Exists.elim h1 fun x2 h2 => Exists.elim h2 fun x3 h3 => Exists.elim h3 fun x4 h4 => Exists.elim h4 fun x5 h5 => k x0 x1 x2 x3 x4 x5 h5
theorem ex6an2 {α0 : Sort _} {α1 : Sort _} {α2 : Sort _} {α3 : Sort _} {α4 : Sort _} {α5 : Sort _} {p0 p1 : α0 → α1 → α2 → α3 → α4 → α5 → Prop} {g : Prop} (h : ∃ x0 x1 x2 x3 x4 x5, p0 x0 x1 x2 x3 x4 x5 ∧ p1 x0 x1 x2 x3 x4 x5) (k : ∀ x0 x1 x2 x3 x4 x5, p0 x0 x1 x2 x3 x4 x5 → p1 x0 x1 x2 x3 x4 x5 → g) : g := Exists.elim h fun x0 h0 => Exists.elim h0 fun x1 h1 => Exists.elim h1 fun x2 h2 => Exists.elim h2 fun x3 h3 => Exists.elim h3 fun x4 h4 => Exists.elim h4 fun x5 h5 => k x0 x1 x2 x3 x4 x5 h5.1 h5.2
theorem ex6an3 {α0 : Sort _} {α1 : Sort _} {α2 : Sort _} {α3 : Sort _} {α4 : Sort _} {α5 : Sort _} {p0 p1 p2 : α0 → α1 → α2 → α3 → α4 → α5 → Prop} {g : Prop} (h : ∃ x0 x1 x2 x3 x4 x5, p0 x0 x1 x2 x3 x4 x5 ∧ p1 x0 x1 x2 x3 x4 x5 ∧ p2 x0 x1 x2 x3 x4 x5) (k : ∀ x0 x1 x2 x3 x4 x5, p0 x0 x1 x2 x3 x4 x5 → p1 x0 x1 x2 x3 x4 x5 → p2 x0 x1 x2 x3 x4 x5 → g) : g := Exists.elim h fun x0 h0 => Exists.elim h0 fun x1 h1 => Exists.elim h1 fun x2 h2 => Exists.elim h2 fun x3 h3 => Exists.elim h3 fun x4 h4 => Exists.elim h4 fun x5 h5 => k x0 x1 x2 x3 x4 x5 h5.1 h5.2.1 h5.2.2
theorem ex6an4 {α0 : Sort _} {α1 : Sort _} {α2 : Sort _} {α3 : Sort _} {α4 : Sort _} {α5 : Sort _} {p0 p1 p2 p3 : α0 → α1 → α2 → α3 → α4 → α5 → Prop} {g : Prop} (h : ∃ x0 x1 x2 x3 x4 x5, p0 x0 x1 x2 x3 x4 x5 ∧ p1 x0 x1 x2 x3 x4 x5 ∧ p2 x0 x1 x2 x3 x4 x5 ∧ p3 x0 x1 x2 x3 x4 x5) (k : ∀ x0 x1 x2 x3 x4 x5, p0 x0 x1 x2 x3 x4 x5 → p1 x0 x1 x2 x3 x4 x5 → p2 x0 x1 x2 x3 x4 x5 → p3 x0 x1 x2 x3 x4 x5 → g) : g := Exists.elim h fun x0 h0 => Exists.elim h0 fun x1 h1 => Exists.elim h1 fun x2 h2 => Exists.elim h2 fun x3 h3 => Exists.elim h3 fun x4 h4 => Exists.elim h4 fun x5 h5 => k x0 x1 x2 x3 x4 x5 h5.1 h5.2.1 h5.2.2.1 h5.2.2.2
theorem ex6an5 {α0 : Sort _} {α1 : Sort _} {α2 : Sort _} {α3 : Sort _} {α4 : Sort _} {α5 : Sort _} {p0 p1 p2 p3 p4 : α0 → α1 → α2 → α3 → α4 → α5 → Prop} {g : Prop} (h : ∃ x0 x1 x2 x3 x4 x5, p0 x0 x1 x2 x3 x4 x5 ∧ p1 x0 x1 x2 x3 x4 x5 ∧ p2 x0 x1 x2 x3 x4 x5 ∧ p3 x0 x1 x2 x3 x4 x5 ∧ p4 x0 x1 x2 x3 x4 x5) (k : ∀ x0 x1 x2 x3 x4 x5, p0 x0 x1 x2 x3 x4 x5 → p1 x0 x1 x2 x3 x4 x5 → p2 x0 x1 x2 x3 x4 x5 → p3 x0 x1 x2 x3 x4 x5 → p4 x0 x1 x2 x3 x4 x5 → g) : g := Exists.elim h fun x0 h0 => Exists.elim h0 fun x1 h1 => Exists.elim h1 fun x2 h2 => Exists.elim h2 fun x3 h3 => Exists.elim h3 fun x4 h4 => Exists.elim h4 fun x5 h5 => k x0 x1 x2 x3 x4 x5 h5.1 h5.2.1 h5.2.2.1 h5.2.2.2.1 h5.2.2.2.2
theorem ex7an1 {α0 : Sort _} {α1 : Sort _} {α2 : Sort _} {α3 : Sort _} {α4 : Sort _} {α5 : Sort _} {α6 : Sort _} {p0 : α0 → α1 → α2 → α3 → α4 → α5 → α6 → Prop} {g : Prop} (h : ∃ x0 x1 x2 x3 x4 x5 x6, p0 x0 x1 x2 x3 x4 x5 x6) (k : ∀ x0 x1 x2 x3 x4 x5 x6, p0 x0 x1 x2 x3 x4 x5 x6 → g) : g := Exists.elim h fun x0 h0 => Exists.elim h0 fun x1 h1 => Exists.elim h1 fun x2 h2 => Exists.elim h2 fun x3 h3 => Exists.elim h3 fun x4 h4 => Exists.elim h4 fun x5 h5 => Exists.elim h5 fun x6 h6 => k x0 x1 x2 x3 x4 x5 x6 h6
theorem ex7an2 {α0 : Sort _} {α1 : Sort _} {α2 : Sort _} {α3 : Sort _} {α4 : Sort _} {α5 : Sort _} {α6 : Sort _} {p0 p1 : α0 → α1 → α2 → α3 → α4 → α5 → α6 → Prop} {g : Prop} (h : ∃ x0 x1 x2 x3 x4 x5 x6, p0 x0 x1 x2 x3 x4 x5 x6 ∧ p1 x0 x1 x2 x3 x4 x5 x6) (k : ∀ x0 x1 x2 x3 x4 x5 x6, p0 x0 x1 x2 x3 x4 x5 x6 → p1 x0 x1 x2 x3 x4 x5 x6 → g) : g := Exists.elim h fun x0 h0 => Exists.elim h0 fun x1 h1 => Exists.elim h1 fun x2 h2 => Exists.elim h2 fun x3 h3 => Exists.elim h3 fun x4 h4 => Exists.elim h4 fun x5 h5 => Exists.elim h5 fun x6 h6 => k x0 x1 x2 x3 x4 x5 x6 h6.1 h6.2
theorem ex7an3 {α0 : Sort _} {α1 : Sort _} {α2 : Sort _} {α3 : Sort _} {α4 : Sort _} {α5 : Sort _} {α6 : Sort _} {p0 p1 p2 : α0 → α1 → α2 → α3 → α4 → α5 → α6 → Prop} {g : Prop} (h : ∃ x0 x1 x2 x3 x4 x5 x6, p0 x0 x1 x2 x3 x4 x5 x6 ∧ p1 x0 x1 x2 x3 x4 x5 x6 ∧ p2 x0 x1 x2 x3 x4 x5 x6) (k : ∀ x0 x1 x2 x3 x4 x5 x6, p0 x0 x1 x2 x3 x4 x5 x6 → p1 x0 x1 x2 x3 x4 x5 x6 → p2 x0 x1 x2 x3 x4 x5 x6 → g) : g := Exists.elim h fun x0 h0 => Exists.elim h0 fun x1 h1 => Exists.elim h1 fun x2 h2 => Exists.elim h2 fun x3 h3 => Exists.elim h3 fun x4 h4 => Exists.elim h4 fun x5 h5 => Exists.elim h5 fun x6 h6 => k x0 x1 x2 x3 x4 x5 x6 h6.1 h6.2.1 h6.2.2
theorem ex7an4 {α0 : Sort _} {α1 : Sort _} {α2 : Sort _} {α3 : Sort _} {α4 : Sort _} {α5 : Sort _} {α6 : Sort _} {p0 p1 p2 p3 : α0 → α1 → α2 → α3 → α4 → α5 → α6 → Prop} {g : Prop} (h : ∃ x0 x1 x2 x3 x4 x5 x6, p0 x0 x1 x2 x3 x4 x5 x6 ∧ p1 x0 x1 x2 x3 x4 x5 x6 ∧ p2 x0 x1 x2 x3 x4 x5 x6 ∧ p3 x0 x1 x2 x3 x4 x5 x6) (k : ∀ x0 x1 x2 x3 x4 x5 x6, p0 x0 x1 x2 x3 x4 x5 x6 → p1 x0 x1 x2 x3 x4 x5 x6 → p2 x0 x1 x2 x3 x4 x5 x6 → p3 x0 x1 x2 x3 x4 x5 x6 → g) : g := Exists.elim h fun x0 h0 => Exists.elim h0 fun x1 h1 => Exists.elim h1 fun x2 h2 => Exists.elim h2 fun x3 h3 => Exists.elim h3 fun x4 h4 => Exists.elim h4 fun x5 h5 => Exists.elim h5 fun x6 h6 => k x0 x1 x2 x3 x4 x5 x6 h6.1 h6.2.1 h6.2.2.1 h6.2.2.2
theorem ex8an1 {α0 : Sort _} {α1 : Sort _} {α2 : Sort _} {α3 : Sort _} {α4 : Sort _} {α5 : Sort _} {α6 : Sort _} {α7 : Sort _} {p0 : α0 → α1 → α2 → α3 → α4 → α5 → α6 → α7 → Prop} {g : Prop} (h : ∃ x0 x1 x2 x3 x4 x5 x6 x7, p0 x0 x1 x2 x3 x4 x5 x6 x7) (k : ∀ x0 x1 x2 x3 x4 x5 x6 x7, p0 x0 x1 x2 x3 x4 x5 x6 x7 → g) : g := Exists.elim h fun x0 h0 => Exists.elim h0 fun x1 h1 => Exists.elim h1 fun x2 h2 => Exists.elim h2 fun x3 h3 => Exists.elim h3 fun x4 h4 => Exists.elim h4 fun x5 h5 => Exists.elim h5 fun x6 h6 => Exists.elim h6 fun x7 h7 => k x0 x1 x2 x3 x4 x5 x6 x7 h7
theorem ex8an2 {α0 : Sort _} {α1 : Sort _} {α2 : Sort _} {α3 : Sort _} {α4 : Sort _} {α5 : Sort _} {α6 : Sort _} {α7 : Sort _} {p0 p1 : α0 → α1 → α2 → α3 → α4 → α5 → α6 → α7 → Prop} {g : Prop} (h : ∃ x0 x1 x2 x3 x4 x5 x6 x7, p0 x0 x1 x2 x3 x4 x5 x6 x7 ∧ p1 x0 x1 x2 x3 x4 x5 x6 x7) (k : ∀ x0 x1 x2 x3 x4 x5 x6 x7, p0 x0 x1 x2 x3 x4 x5 x6 x7 → p1 x0 x1 x2 x3 x4 x5 x6 x7 → g) : g := Exists.elim h fun x0 h0 => Exists.elim h0 fun x1 h1 => Exists.elim h1 fun x2 h2 => Exists.elim h2 fun x3 h3 => Exists.elim h3 fun x4 h4 => Exists.elim h4 fun x5 h5 => Exists.elim h5 fun x6 h6 => Exists.elim h6 fun x7 h7 => k x0 x1 x2 x3 x4 x5 x6 x7 h7.1 h7.2
theorem ex8an3 {α0 : Sort _} {α1 : Sort _} {α2 : Sort _} {α3 : Sort _} {α4 : Sort _} {α5 : Sort _} {α6 : Sort _} {α7 : Sort _} {p0 p1 p2 : α0 → α1 → α2 → α3 → α4 → α5 → α6 → α7 → Prop} {g : Prop} (h : ∃ x0 x1 x2 x3 x4 x5 x6 x7, p0 x0 x1 x2 x3 x4 x5 x6 x7 ∧ p1 x0 x1 x2 x3 x4 x5 x6 x7 ∧ p2 x0 x1 x2 x3 x4 x5 x6 x7) (k : ∀ x0 x1 x2 x3 x4 x5 x6 x7, p0 x0 x1 x2 x3 x4 x5 x6 x7 → p1 x0 x1 x2 x3 x4 x5 x6 x7 → p2 x0 x1 x2 x3 x4 x5 x6 x7 → g) : g := Exists.elim h fun x0 h0 => Exists.elim h0 fun x1 h1 => Exists.elim h1 fun x2 h2 => Exists.elim h2 fun x3 h3 => Exists.elim h3 fun x4 h4 => Exists.elim h4 fun x5 h5 => Exists.elim h5 fun x6 h6 => Exists.elim h6 fun x7 h7 => k x0 x1 x2 x3 x4 x5 x6 x7 h7.1 h7.2.1 h7.2.2
local macro_rules
  | `(tactic| obtain ⟨$ps,*⟩ := $e:term) => do
    let ps : Array (Lean.TSyntax `Lean.Parser.Tactic.rcasesPatLo) := ps.getElems
    let n := ps.size
    if n < 2 then Lean.Macro.throwUnsupported
    let mut hs := #[]
    let mut ts : Array (Lean.TSyntax `tactic) := #[]
    for p in ps do
      let x := Lean.mkIdent (← Lean.Macro.addMacroScope (Lean.Name.mkSimple s!"e{hs.size}"))
      match p.raw.reprint with
      | some t =>
        if t.trimAscii.toString == "rfl" then
          hs := hs.push (← `(rintroPat| $x:ident))
          ts := ts.push (← `(tactic| rcases $x:ident with $p))
        else if t.trimAscii.toString.startsWith "⟨" then
          hs := hs.push (← `(rintroPat| $x:ident))
          let q : Lean.TSyntax ``Lean.Parser.Tactic.rcasesPatMed := ⟨p.raw[0]⟩
          ts := ts.push (← `(tactic| obtain $q:rcasesPatMed := $x:ident))
        else hs := hs.push (← `(rintroPat| ($p:rcasesPatLo)))
      | none => Lean.Macro.throwUnsupported
    let cl ← if e.raw.isIdent then `(tactic| try clear $(⟨e.raw⟩):ident) else `(tactic| skip)
    let mut alts : Array (Lean.TSyntax ``Lean.Parser.Tactic.tacticSeq) := #[]
    for i in [0:n - 1] do
      let j := n - i
      for k in [0:j] do
        let l := Lean.mkCIdent (Lean.Name.mkStr `Mj s!"ex{k}an{j - k}")
        if i == 0 then
          alts := alts.push (← `(tacticSeq| (refine $l $e ?_; $cl; rintro $hs*)))
        else
          let r := Lean.mkIdent (← Lean.Macro.addMacroScope `r)
          let h1 := hs.extract 0 (j - 1)
          let p2 := ps.extract (j - 1) n
          alts := alts.push (← `(tacticSeq| (refine $l $e ?_; $cl; rintro $h1* $r:ident; obtain ⟨$p2,*⟩ := $r:ident)))
    let mut all ← `(tactic| (first $[| $alts]*))
    for t in ts do all ← `(tactic| ($all <;> $t))
    return all
section
open PySem PySem.Calls
/-! Abstract values, objects, ledgers; the state relation. -/

inductive V where
  | any
  | int (i : Int)
  | val (v : Value)

noncomputable def V.Is : V → Option Value → Prop
  | .any, _ => True
  | .int i, ov => ∃ t, ov = some (.int i t)
  | .val v, ov => ov = some v

noncomputable def AllIs : List V → List Value → Prop
  | [], [] => True
  | v :: vs, x :: xs => v.Is (some x) ∧ AllIs vs xs
  | _, _ => False

theorem lenS {α : Type} {l : List α} {n : Nat} (h : l.length = n + 1) : ∃ a t, l = a :: t ∧ t.length = n := by
  cases l with
  | nil => cases h
  | cons a t => exact ⟨a, t, rfl, Nat.succ.inj h⟩
theorem len1 {α : Type} {l : List α} (h : l.length = 1) : ∃ a, l = [a] := by
  obtain ⟨a, t, rfl, h'⟩ := lenS (n := 0) h
  exact ⟨a, by rw [List.eq_nil_of_length_eq_zero h']⟩
theorem len2 {α : Type} {l : List α} (h : l.length = 2) : ∃ a b, l = [a, b] := by
  obtain ⟨a, t, rfl, h'⟩ := lenS (n := 1) h
  obtain ⟨b, rfl⟩ := len1 h'
  exact ⟨a, b, rfl⟩
theorem len3 {α : Type} {l : List α} (h : l.length = 3) : ∃ a b c, l = [a, b, c] := by
  obtain ⟨a, t, rfl, h'⟩ := lenS (n := 2) h
  obtain ⟨b, c, rfl⟩ := len2 h'
  exact ⟨a, b, c, rfl⟩
theorem len4 {α : Type} {l : List α} (h : l.length = 4) : ∃ a b c d, l = [a, b, c, d] := by
  obtain ⟨a, t, rfl, h'⟩ := lenS (n := 3) h
  obtain ⟨b, c, d, rfl⟩ := len3 h'
  exact ⟨a, b, c, d, rfl⟩
theorem len5 {α : Type} {l : List α} (h : l.length = 5) : ∃ a b c d e, l = [a, b, c, d, e] := by
  obtain ⟨a, t, rfl, h'⟩ := lenS (n := 4) h
  obtain ⟨b, c, d, e, rfl⟩ := len4 h'
  exact ⟨a, b, c, d, e, rfl⟩
theorem len6 {α : Type} {l : List α} (h : l.length = 6) : ∃ a b c d e f, l = [a, b, c, d, e, f] := by
  obtain ⟨a, t, rfl, h'⟩ := lenS (n := 5) h
  obtain ⟨b, c, d, e, f, rfl⟩ := len5 h'
  exact ⟨a, b, c, d, e, f, rfl⟩
theorem len7 {α : Type} {l : List α} (h : l.length = 7) : ∃ a b c d e f g, l = [a, b, c, d, e, f, g] := by
  obtain ⟨a, t, rfl, h'⟩ := lenS (n := 6) h
  obtain ⟨b, c, d, e, f, g, rfl⟩ := len6 h'
  exact ⟨a, b, c, d, e, f, g, rfl⟩
theorem AllIs.cons' {v : V} {vs : List V} {xs : List Value} (h : AllIs (v :: vs) xs) : ∃ x t, xs = x :: t ∧ v.Is (some x) ∧ AllIs vs t := by
  cases xs with
  | nil => cases h
  | cons x t => exact ⟨x, t, rfl, h⟩
theorem AllIs.l1 {v : V} {xs : List Value} (h : AllIs [v] xs) : ∃ x, xs = [x] ∧ v.Is (some x) := by
  obtain ⟨x, t, rfl, h1, h2⟩ := h.cons'
  cases t with
  | nil => exact ⟨x, rfl, h1⟩
  | cons => cases h2
theorem AllIs.l2 {v u : V} {xs : List Value} (h : AllIs [v, u] xs) : ∃ x y, xs = [x, y] ∧ v.Is (some x) ∧ u.Is (some y) := by
  obtain ⟨x, t, rfl, h1, h2⟩ := h.cons'
  obtain ⟨y, rfl, h3⟩ := h2.l1
  exact ⟨x, y, rfl, h1, h3⟩
theorem AllIs.l3 {v u r : V} {xs : List Value} (h : AllIs [v, u, r] xs) : ∃ x y z, xs = [x, y, z] ∧ v.Is (some x) ∧ u.Is (some y) ∧ r.Is (some z) := by
  obtain ⟨x, t, rfl, h1, h2⟩ := h.cons'
  obtain ⟨y, z, rfl, h3, h4⟩ := h2.l2
  exact ⟨x, y, z, rfl, h1, h3, h4⟩
theorem AllIs.l4 {v u r f : V} {xs : List Value} (h : AllIs [v, u, r, f] xs) : ∃ x y z o, xs = [x, y, z, o] ∧ v.Is (some x) ∧ u.Is (some y) ∧ r.Is (some z) ∧ f.Is (some o) := by
  obtain ⟨x, t, rfl, h1, h2⟩ := h.cons'
  obtain ⟨y, z, o, rfl, h3, h4, h5⟩ := h2.l3
  exact ⟨x, y, z, o, rfl, h1, h3, h4, h5⟩
theorem AllIs.i1 {a : Int} {xs : List Value} (h : AllIs [.int a] xs) : ∃ t, xs = [.int a t] := by
  obtain ⟨x, rfl, t, e⟩ := h.l1
  cases e
  exact ⟨t, rfl⟩
theorem AllIs.i2 {a b : Int} {xs : List Value} (h : AllIs [.int a, .int b] xs) : ∃ t u, xs = [.int a t, .int b u] := by
  obtain ⟨x, y, rfl, ⟨t, e⟩, u, e'⟩ := h.l2
  cases e
  cases e'
  exact ⟨t, u, rfl⟩
theorem AllIs.i3 {a b d : Int} {xs : List Value} (h : AllIs [.int a, .int b, .int d] xs) : ∃ t u r, xs = [.int a t, .int b u, .int d r] := by
  obtain ⟨x, y, z, rfl, ⟨t, e⟩, ⟨u, e'⟩, r, e''⟩ := h.l3
  cases e
  cases e'
  cases e''
  exact ⟨t, u, r, rfl⟩

noncomputable abbrev Loc := List (Str × V)

noncomputable def MIs (m : Loc) (mm : Str → Option Value) : Prop := (m.map (·.1)).Nodup ∧ ∀ p ∈ m, p.2.Is (mm p.1)

inductive O where
  | list (vs : List V)
  | tup (vs : List V)
  | cell (v : V)
  | obj (o : Obj)
  | pred (P : Obj → Prop)

noncomputable def bigN : Nat := 100000

noncomputable def O.Is : O → Obj → Prop
  | .list vs, o => vs.length ≤ bigN ∧ ∃ xs n, o = { cls := .type "list", data := .seq (List.toArray xs) n } ∧ AllIs vs xs
  | .tup vs, o => vs.length ≤ bigN ∧ ∃ xs n, o = { cls := .type "tuple", data := .seq (List.toArray xs) n } ∧ AllIs vs xs
  | .cell v, o => ∃ ov, o.data = .cell ov ∧ v.Is ov
  | .obj o', o => o = o'
  | .pred P, o => P o

noncomputable abbrev Led := List (Addr × O)

noncomputable def il (ns : List Int) : O := .list (ns.map V.int)

structure LS (g : Shared) (B : Heap) (H : Led) (s : Shared) : Prop where
  same : s.gens = g.gens ∧ s.drawn = g.drawn ∧ s.os = g.os
  base : ∀ b o, B.get? b = some o → s.heap.get? b = some o
  led : ∀ p ∈ H, (∃ o, s.heap.get? p.1 = some o ∧ p.2.Is o) ∧ B.get? p.1 = none
  nd : (H.map (·.1)).Nodup
  size : B.objs.size ≤ s.heap.objs.size

structure Cx where
  env : Env
  gs : List Str
  cs : List (Str × Addr)

noncomputable abbrev Cx.L (c : Cx) : Addr := c.env.locals

/-- what holds of a block's names while it runs -/
structure Kx (c : Cx) (ks : List Str) : Prop where
  glo : c.env.globals = mainGlobals
  bui : c.env.builtins = builtinsNs
  kind : c.env.scope.kind = .function
  gl : ∀ x ∈ c.gs, c.env.kindOf x = some .globalImplicit ∧ (x == ("__debug__" : Str)) = false
  lo : ∀ x ∈ ks, c.env.kindOf x = some .local ∧ (x == ("__debug__" : Str)) = false
  cl : ∀ p ∈ c.cs, (c.env.kindOf p.1 = some .cell ∨ c.env.kindOf p.1 = some .free) ∧ c.env.cells.lookup p.1 = some p.2 ∧ (p.1 == ("__debug__" : Str)) = false ∧ (p.1 == ("__classdict__" : Str)) = false

structure St (g : Shared) (B : Heap) (c : Cx) (m : Loc) (H : Led) (s : Shared) : Prop where
  same : s.gens = g.gens ∧ s.drawn = g.drawn ∧ s.os = g.os
  fr : ∃ mm, PyProof.Rows.Fr B c.L s.heap mm ∧ MIs m mm
  led : ∀ p ∈ H, (∃ o, s.heap.get? p.1 = some o ∧ p.2.Is o) ∧ p.1 ≠ c.L ∧ B.get? p.1 = none
  nd : (H.map (·.1)).Nodup
  kx : Kx c (m.map (·.1))

theorem St.toks {g : Shared} {B : Heap} {c : Cx} {m : Loc} {H : Led} {s : Shared} (S : St g B c m H s) (tk : Nat) : St g B c m H { s with toks := tk } :=
  ⟨S.same, S.fr, S.led, S.nd, S.kx⟩

theorem St.base {g : Shared} {B : Heap} {c : Cx} {m : Loc} {H : Led} {s : Shared} (S : St g B c m H s) : ∀ b o, B.get? b = some o → s.heap.get? b = some o := by
  obtain ⟨mm, F, _⟩ := S.fr
  exact F.keep

theorem St.lt {g : Shared} {B : Heap} {c : Cx} {m : Loc} {H : Led} {s : Shared} (S : St g B c m H s) : c.L < s.heap.objs.size := by
  obtain ⟨mm, F, _⟩ := S.fr
  exact F.ns.lt

theorem St.ls {g : Shared} {B : Heap} {c : Cx} {m : Loc} {H : Led} {s : Shared} (S : St g B c m H s) : LS g B H s := by
  obtain ⟨mm, F, _⟩ := S.fr
  exact ⟨S.same, F.keep, fun p hp => ⟨(S.led p hp).1, (S.led p hp).2.2⟩, S.nd, Nat.le_of_lt (Nat.lt_of_le_of_lt F.above F.ns.lt)⟩

theorem St.get {g : Shared} {B : Heap} {c : Cx} {m : Loc} {H : Led} {s : Shared} (S : St g B c m H s) {a : Addr} {o : O} (hm : (a, o) ∈ H) : ∃ ob, s.heap.get? a = some ob ∧ o.Is ob :=
  (S.led _ hm).1
theorem LS.get {g : Shared} {B : Heap} {H : Led} {s : Shared} (S : LS g B H s) {a : Addr} {o : O} (hm : (a, o) ∈ H) : ∃ ob, s.heap.get? a = some ob ∧ o.Is ob :=
  (S.led _ hm).1

/-- the heap with the ledger's addresses hidden -/
theorem hide_get {h : Heap} {as : List Addr} {b : Addr} {o : Obj} (e : h.get? b = some o) (n : b ∉ as) : (PySem.W.hideAll h as).get? b = some o := PySem.W.hideAll_get as e n

section
variable {prog : Program} {w : World} {g s : Shared} {B : Heap} {c : Cx} {m : Loc} {H : Led} {A : Around} {E : Value → Shared → Prop}

/-- THE FRAME RULE: a tree that is told over the bare ledger, run inside a frame. -/
theorem call_frame {t : Sem Value} {Post : Value → Led → Prop} {Q : Value → Shared → Prop} (S : St g B c m H s)
    (C : ∀ B', (∀ b o, B.get? b = some o → B'.get? b = some o) → LS g B' H s → wpAny (model prog w) A t (fun v s' => ∃ H', LS g B' H' s' ∧ Post v H') (fun _ _ => False) s)
    (k : ∀ v s' H', St g B c m H' s' → Post v H' → Q v s') : wpAny (model prog w) A t Q E s := by
  obtain ⟨mm, F, hm⟩ := S.fr
  obtain ⟨oL, es, ep, hL, hLd, hLk, hLf⟩ := id F.ns
  have nB : ∀ b o, B.get? b = some o → b ∉ H.map (·.1) := fun b o e q => by
    obtain ⟨p, hp, rfl⟩ := List.mem_map.mp q
    have := (S.led p hp).2.2
    rw [this] at e; cases e
  have nL : c.L ∉ H.map (·.1) := fun q => by
    obtain ⟨p, hp, e⟩ := List.mem_map.mp q
    exact (S.led p hp).2.1 e
  have up : ∀ b o, B.get? b = some o → (PySem.W.hideAll s.heap (H.map (·.1))).get? b = some o := fun b o e => PySem.W.hideAll_get _ (F.keep b o e) (nB b o e)
  have hL' := PySem.W.hideAll_get (H.map (·.1)) hL nL
  have Q1 := C (PySem.W.hideAll s.heap (H.map (·.1))) up ⟨S.same, fun b o e => PySem.W.of_hideAll _ e,
    fun p hp => ⟨(S.led p hp).1, PySem.W.hideAll_none _ (List.mem_map_of_mem hp)⟩, S.nd, Nat.le_of_eq (PySem.W.hideAll_size _ _)⟩
  refine wpAny_mono Q1 (fun v s' h => ?_) (fun _ _ h => h.elim)
  obtain ⟨H', S', P⟩ := h
  refine k v s' H' ⟨S'.same, ⟨mm, ⟨⟨oL, es, ep, S'.base _ _ hL', hLd, hLk, hLf⟩, fun b o e => S'.base b o (up b o e), F.above⟩, hm⟩, fun p hp => ⟨(S'.led p hp).1, fun q => ?_, ?_⟩, S'.nd, S.kx⟩ P
  · have := (S'.led p hp).2; rw [q, hL'] at this; cases this
  · cases q : B.get? p.1 with
    | none => rfl
    | some o => have := (S'.led p hp).2; rw [up _ _ q] at this; cases this

theorem St.mono {H' : Led} (S : St g B c m H s) (hs : ∀ p ∈ H', p ∈ H) (hn : (H'.map (·.1)).Nodup) : St g B c m H' s :=
  ⟨S.same, S.fr, fun p hp => S.led p (hs p hp), hn, S.kx⟩
theorem LS.mono {H' : Led} (S : LS g B H s) (hs : ∀ p ∈ H', p ∈ H) (hn : (H'.map (·.1)).Nodup) : LS g B H' s :=
  ⟨S.same, S.base, fun p hp => S.led p (hs p hp), hn, S.size⟩
theorem St.tail {p : Addr × O} (S : St g B c m (p :: H) s) : St g B c m H s :=
  S.mono (fun q hq => List.mem_cons_of_mem _ hq) (by have := S.nd; rw [List.map_cons, List.nodup_cons] at this; exact this.2)
theorem LS.tail {p : Addr × O} (S : LS g B (p :: H) s) : LS g B H s :=
  S.mono (fun q hq => List.mem_cons_of_mem _ hq) (by have := S.nd; rw [List.map_cons, List.nodup_cons] at this; exact this.2)
theorem LS.perm {H' : Led} (S : LS g B H s) (hp : H.Perm H') : LS g B H' s :=
  S.mono (fun _ hq => hp.mem_iff.mpr hq) ((hp.map _).nodup_iff.mp S.nd)
theorem St.perm {H' : Led} (S : St g B c m H s) (hp : H.Perm H') : St g B c m H' s :=
  S.mono (fun _ hq => hp.mem_iff.mpr hq) ((hp.map _).nodup_iff.mp S.nd)

/-- a new object on the heap -/
theorem St.push {o : Obj} {o' : O} (S : St g B c m H s) (ho : o'.Is o) (hf : o.isFreed = false := by rfl) : St g B c m ((s.heap.objs.size, o') :: H) { s with heap := s.heap.push o } := by
  obtain ⟨mm, F, hm⟩ := S.fr
  refine ⟨S.same, ⟨mm, F.push _, hm⟩, fun p hp => ?_, ?_, S.kx⟩
  · rcases List.mem_cons.mp hp with rfl | hp
    · refine ⟨⟨o, Heap.get?_push_size _ hf, ho⟩, Nat.ne_of_gt F.ns.lt, ?_⟩
      cases q : B.get? s.heap.objs.size with
      | none => rfl
      | some o' => exact absurd (Heap.lt_size (F.keep _ _ q)) (Nat.lt_irrefl _)
    · obtain ⟨⟨ob, h1, h2⟩, h3⟩ := S.led p hp
      exact ⟨⟨ob, Heap.get?_push_of_some _ h1, h2⟩, h3⟩
  · rw [List.map_cons, List.nodup_cons]
    refine ⟨fun q => ?_, S.nd⟩
    obtain ⟨p, hp, e⟩ := List.mem_map.mp q
    obtain ⟨⟨ob, h1, _⟩, _⟩ := S.led p hp
    have := Heap.lt_size h1
    have e' : p.1 = s.heap.objs.size := e
    rw [e'] at this
    exact Nat.lt_irrefl _ this
/-- a new object that is not written down -/
theorem St.push' (o : Obj) (S : St g B c m H s) : St g B c m H { s with heap := s.heap.push o } := by
  obtain ⟨mm, F, hm⟩ := S.fr
  refine ⟨S.same, ⟨mm, F.push _, hm⟩, fun p hp => ?_, S.nd, S.kx⟩
  obtain ⟨⟨ob, h1, h2⟩, h3⟩ := S.led p hp
  exact ⟨⟨ob, Heap.get?_push_of_some _ h1, h2⟩, h3⟩

/-- only things outside base, frame and ledger turn -/
theorem St.others {h' : Heap} {tk : Nat} (S : St g B c m H s) (hk : ∀ b o, s.heap.get? b = some o → (B.get? b).isSome ∨ b = c.L ∨ b ∈ H.map (·.1) → h'.get? b = some o) : St g B c m H { s with heap := h', toks := tk } := by
  obtain ⟨mm, F, hm⟩ := S.fr
  refine ⟨S.same, ⟨mm, ⟨?_, fun b o e => hk b o (F.keep b o e) (.inl (by rw [e]; rfl)), F.above⟩, hm⟩, fun p hp => ?_, S.nd, S.kx⟩
  · obtain ⟨oL, es, ep, hL, r⟩ := F.ns
    exact ⟨oL, es, ep, hk _ _ hL (.inr (.inl rfl)), r⟩
  · obtain ⟨⟨ob, h1, h2⟩, h3⟩ := S.led p hp
    exact ⟨⟨ob, hk _ _ h1 (.inr (.inr (List.mem_map_of_mem hp))), h2⟩, h3⟩
theorem St.keeps {h' : Heap} {tk : Nat} (S : St g B c m H s) (hk : ∀ b o, s.heap.get? b = some o → h'.get? b = some o) : St g B c m H { s with heap := h', toks := tk } :=
  S.others fun b o e _ => hk b o e

inductive Put {α β : Type} : List (α × β) → α → β → List (α × β) → Prop
  | head {a b b' r} : Put ((a, b) :: r) a b' ((a, b') :: r)
  | tail {p r a b' r'} : Put r a b' r' → Put (p :: r) a b' (p :: r')
theorem Put.spec {α β : Type} {a : α} {b' : β} : ∀ {l l' : List (α × β)}, Put l a b' l' → l'.map (·.1) = l.map (·.1) ∧ (∃ b, (a, b) ∈ l) ∧ ((l.map (·.1)).Nodup → ∀ p ∈ l', p = (a, b') ∨ (p ∈ l ∧ p.1 ≠ a))
  | _, _, .head (b := b) (r := r) => by
    refine ⟨rfl, ⟨b, .head _⟩, fun nd p hp => ?_⟩
    rcases List.mem_cons.mp hp with rfl | hp
    · exact .inl rfl
    · refine .inr ⟨.tail _ hp, fun e => ?_⟩
      rw [List.map_cons, List.nodup_cons] at nd
      exact nd.1 (e ▸ List.mem_map_of_mem (f := (·.1)) hp)
  | _, _, .tail (p := q) P => by
    obtain ⟨h1, ⟨b, h2⟩, h3⟩ := P.spec
    refine ⟨by rw [List.map_cons, List.map_cons, h1], ⟨b, .tail _ h2⟩, fun nd p hp => ?_⟩
    rw [List.map_cons, List.nodup_cons] at nd
    rcases List.mem_cons.mp hp with rfl | hp
    · exact .inr ⟨.head _, fun e => nd.1 (e ▸ List.mem_map_of_mem (f := (·.1)) h2)⟩
    · rcases h3 nd.2 p hp with e | ⟨e, n⟩
      · exact .inl e
      · exact .inr ⟨.tail _ e, n⟩

/-- one object of the ledger turns -/
theorem St.turn {h' : Heap} {tk : Nat} {a : Addr} {o' : O} {H' : Led} {ob : Obj} (S : St g B c m H s) (hp : Put H a o' H') (hs : Heap.SameBut a s.heap h') (ho : h'.get? a = some ob) (hb : o'.Is ob) :
    St g B c m H' { s with heap := h', toks := tk } := by
  obtain ⟨mm, F, hm⟩ := S.fr
  obtain ⟨hk, ⟨o, hmem⟩, hall⟩ := hp.spec
  obtain ⟨⟨ob0, h1, _⟩, hL, hB⟩ := S.led _ hmem
  refine ⟨S.same, ⟨mm, ⟨F.ns.sameBut hs (Ne.symm hL), fun b x e => (hs.2 b ?_).trans (F.keep b x e), F.above⟩, hm⟩, fun p hp => ?_, hk ▸ S.nd, S.kx⟩
  · rintro rfl
    have hB' : B.get? b = none := hB
    rw [hB'] at e; cases e
  · rcases hall S.nd p hp with rfl | ⟨hp, hne⟩
    · exact ⟨⟨ob, ho, hb⟩, hL, hB⟩
    · obtain ⟨⟨ob1, g1, g2⟩, g3⟩ := S.led p hp
      exact ⟨⟨ob1, (hs.2 _ hne).trans g1, g2⟩, g3⟩

/-- a local is stored -/
theorem MIs.set {mm : Str → Option Value} {x : Str} {v : V} {m' : Loc} {val : Value} (M : MIs m mm) (hp : Put m x v m') (hv : v.Is (some val)) :
    MIs m' (fun y => if y = x then some val else mm y) := by
  obtain ⟨nd, h⟩ := M
  obtain ⟨hk, _, hall⟩ := hp.spec
  refine ⟨hk ▸ nd, fun p hp => ?_⟩
  rcases hall nd p hp with rfl | ⟨hp, hne⟩
  · simpa using hv
  · have := h p hp
    simpa [hne] using this

theorem St.store {h' : Heap} {tk : Nat} {x : Str} {v : V} {m' : Loc} {val : Value} (S : St g B c m H s) (hp : Put m x v m') (hv : v.Is (some val))
    {mm : Str → Option Value} (M : MIs m mm) (hn : h'.Ns c.L (fun y => if y = x then some val else mm y)) (hs : Heap.SameBut c.L s.heap h') :
    St g B c m' H { s with heap := h', toks := tk } := by
  obtain ⟨_, F, _⟩ := S.fr
  refine ⟨S.same, ⟨_, F.set hn hs, M.set hp hv⟩, fun p hp => ?_, S.nd, hp.spec.1 ▸ S.kx⟩
  obtain ⟨⟨ob, h1, h2⟩, h3, h4⟩ := S.led p hp
  exact ⟨⟨ob, (hs.2 _ h3).trans h1, h2⟩, h3, h4⟩

/-- what is known of a local may be forgotten -/
theorem St.weak {m' : Loc} (S : St g B c m H s) (hk : m'.map (·.1) = m.map (·.1)) (hw : ∀ p ∈ m', p.2 = .any ∨ p ∈ m) : St g B c m' H s := by
  obtain ⟨mm, F, nd, h⟩ := S.fr
  refine ⟨S.same, ⟨mm, F, hk ▸ nd, fun p hp => ?_⟩, S.led, S.nd, hk ▸ S.kx⟩
  rcases hw p hp with e | e
  · rw [e]; trivial
  · exact h p e
end
end

section
open PySem PySem.Calls PySem.W
open PyProof.Rows (IntsAre bitAnd_m1)
/-- the builtin names that the texts ask -/
noncomputable def usedBuiltins : List Str := ["len", "range", "enumerate", "min", "zip", "sum", "abs", "int"]

/-- a plain def of the top, at its address -/
noncomputable def IsFn (B : Heap) (f : Addr) (d : DefRec) : Prop := ∃ o pm code doc, B.get? f = some o ∧ o.data = .func (docDef d.name d.params d.body d.scope pm code doc) ∧ B.CodeRec code d.name
theorem IsFn.keeps {B B' : Heap} {f : Addr} {d : DefRec} (h : IsFn B f d) (hk : ∀ b o, B.get? b = some o → B'.get? b = some o) : IsFn B' f d := by
  obtain ⟨o, pm, code, doc, h1, h2, h3⟩ := h
  exact ⟨o, pm, code, doc, hk _ _ h1, h2, h3.keeps hk⟩

structure Gl where
  mg : Str → Option Value
  mb : Str → Option Value
  fa : Nat → Addr
  D : Nat → DefRec
  ix : List Nat
  K : Frag
  C : Addr
  fI : Addr

structure GW (γ : Gl) (B : Heap) : Prop where
  g : B.Ns mainGlobals γ.mg
  b : B.Ns builtinsNs γ.mb
  nolimit : B.NoLimit
  bi : ∀ x : Str, x ≠ "__name__" → γ.mb x = bootBuiltins x
  nob : ∀ x ∈ usedBuiltins, γ.mg x = none
  fn : ∀ i ∈ γ.ix, γ.mg (γ.D i).name = some (.ref (γ.fa i)) ∧ IsFn B (γ.fa i) (γ.D i)
  X : γ.K.In B
  bm : ∃ bm ob, γ.mg "__builtins__" = some (.ref bm) ∧ bm ≠ builtinsNs ∧ B.get? bm = some ob ∧ ob.cls = .type "module" ∧ ob.dict = some builtinsNs ∧ ob.data = .plain

theorem GW.keeps {γ : Gl} {B B' : Heap} (G : GW γ B) (hk : ∀ b o, B.get? b = some o → B'.get? b = some o) : GW γ B' :=
  ⟨G.g.keeps hk, G.b.keeps hk, G.nolimit.keeps hk, G.bi, G.nob, fun i hi => ⟨(G.fn i hi).1, (G.fn i hi).2.keeps hk⟩, G.X.keeps hk, let ⟨bm, ob, a, b, c, r⟩ := G.bm; ⟨bm, ob, a, b, hk _ _ c, r⟩⟩

theorem boot_enumerate : bootBuiltins "enumerate" = some (.type "enumerate") := by decide +kernel
theorem boot_range' : bootBuiltins "range" = some (.type "range") := by decide +kernel
theorem boot_zip : bootBuiltins "zip" = some (.type "zip") := by decide +kernel
theorem boot_min : bootBuiltins "min" = some (.builtin "min") := by decide +kernel
theorem boot_sum : bootBuiltins "sum" = some (.builtin "sum") := by decide +kernel
theorem boot_abs : bootBuiltins "abs" = some (.builtin "abs") := by decide +kernel
theorem boot_int' : bootBuiltins "int" = some (.type "int") := by decide +kernel

/-! integer operators -/

inductive BinI : Operator → Int → Int → Int → Prop
  | add (a b) : BinI .Add a b (a + b)
  | sub (a b) : BinI .Sub a b (a - b)
  | mul {a b : Int} (h : a.natAbs < 2 ^ 64) : BinI .Mult a b (a * b)
  | mulr {a b : Int} (h : b.natAbs < 2 ^ 64) : BinI .Mult a b (a * b)
  | fdiv {a b : Int} (h : 0 < b) (h' : b.natAbs < 1073741824) : BinI .FloorDiv a b (a / b)
  | mod {a b : Int} (h : 0 < b) : BinI .Mod a b (a % b)
  | shl {a b : Int} (n : Nat) (h : b = n) (hn : n ≤ 1000000) (ha : a.natAbs < 2 ^ 64) : BinI .LShift a b (a * 2 ^ n)
  | shr {a b : Int} (n : Nat) (h : b = n) : BinI .RShift a b (a / 2 ^ n)
  | mask {a b : Int} (n : Nat) (h : b = 2 ^ n - 1) : BinI .BitAnd a b (a % 2 ^ n)
  | and1 {a : Int} : BinI .BitAnd a 1 (a % 2)
  | or {a b c : Int} (h : Builtin.bitOr a b = c) : BinI .BitOr a b c
  | pow {a b : Int} (n : Nat) (h : b = n) (hn : n ≤ 1000000) (ha : a.natAbs < 2 ^ 64) : BinI .Pow a b (a ^ n)

theorem mulOk_left {a b : Int} (h : a.natAbs < 2 ^ 64) : IntMulOk a b := IntMulOk.of_left (intBits_le_iff.mpr h)
theorem mulOk_right {a b : Int} (h : b.natAbs < 2 ^ 64) : IntMulOk a b := IntMulOk.of_right (intBits_le_iff.mpr h)

section
variable {prog : Program} {w : World} {s : Shared} {A : Around} {E : Value → Shared → Prop}

theorem binop_int {op : Operator} {a b c : Int} {t u : Tok} {Q : Value → Shared → Prop} (h : BinI op a b c) (k : ∀ t tk, Q (.int c t) { s with toks := tk }) :
    wpAny (model prog w) A (binaryOp op (.int a t) (.int b u)) Q E s := by
  cases h with
  | add => exact PyProof.Rows.add_int (k _ _)
  | sub => exact PyProof.Rows.sub_int (k _ _)
  | mul h => exact PyProof.Rows.mul_int (k _ _) (mulOk_left h)
  | mulr h => exact PyProof.Rows.mul_int (k _ _) (mulOk_right h)
  | fdiv h h' => have hp := PyProof.noPylong_small (x := a) h'; refine PyProof.Rows.floordiv_int (by omega) ?_ (.inl hp); rw [Int.fdiv_eq_ediv_of_nonneg _ (Int.le_of_lt h)]; exact k _ _
  | mod h => refine PyProof.Rows.mod_int (by omega) ?_; rw [Int.fmod_eq_emod_of_nonneg _ (Int.le_of_lt h)]; exact k _ _
  | shl n h hn ha => subst h; exact PyProof.Rows.lshift_int_small (by omega) (by omega) ha (k _ _)
  | shr n h =>
    subst h
    refine PyProof.Rows.rshift_int (by omega) ?_
    rw [Int.fdiv_eq_ediv_of_nonneg _ (Int.le_of_lt (PySem.W.kbt_pos _))]; exact k _ _
  | mask n h => subst h; refine PyProof.Rows.and_int ?_; rw [PySem.W.kbt_mask]; exact k _ _
  | and1 => refine PyProof.Rows.and_int ?_; rw [bitAnd_m1]; exact k _ _
  | or h => subst h; exact PyProof.Rows.or_int (k _ _)
  | pow n h hn ha => subst h; exact PyProof.Rows.pow_int_small (by omega) (by omega) ha (k _ _)

theorem inplace_int {op : Operator} {a b c : Int} {t u : Tok} {Q : Value → Shared → Prop} (h : BinI op a b c) (k : ∀ t tk, Q (.int c t) { s with toks := tk }) :
    wpAny (model prog w) A (inplaceOp op (.int a t) (.int b u)) Q E s := by
  cases h with
  | add => exact PyProof.Rows.iadd_int (k _ _)
  | sub => exact PyProof.Rows.isub_int (k _ _)
  | mul h => exact PyProof.Rows.imul_int (k _ _) (mulOk_left h)
  | mulr h => exact PyProof.Rows.imul_int (k _ _) (mulOk_right h)
  | fdiv h h' => have hp := PyProof.noPylong_small (x := a) h'; refine PyProof.Rows.ifloordiv_int (by omega) ?_ (.inl hp); rw [Int.fdiv_eq_ediv_of_nonneg _ (Int.le_of_lt h)]; exact k _ _
  | mod h => refine PyProof.Rows.imod_int (by omega) ?_; rw [Int.fmod_eq_emod_of_nonneg _ (Int.le_of_lt h)]; exact k _ _
  | shl n h hn ha => subst h; exact PyProof.Rows.ilshift_int_small (by omega) (by omega) ha (k _ _)
  | shr n h =>
    subst h
    refine PyProof.Rows.irshift_int (by omega) ?_
    rw [Int.fdiv_eq_ediv_of_nonneg _ (Int.le_of_lt (PySem.W.kbt_pos _))]; exact k _ _
  | mask n h => subst h; refine PyProof.Rows.iand_int ?_; rw [PySem.W.kbt_mask]; exact k _ _
  | and1 => refine PyProof.Rows.iand_int ?_; rw [bitAnd_m1]; exact k _ _
  | or h => subst h; exact PyProof.Rows.ior_int (k _ _)
  | pow n h hn ha => subst h; exact PyProof.Rows.ipow_int_small (by omega) (by omega) ha (k _ _)

inductive CmpI : CmpOp → Int → Int → Bool → Prop
  | eq (a b) : CmpI .Eq a b (decide (a = b))
  | ne (a b) : CmpI .NotEq a b (decide (a ≠ b))
  | lt (a b) : CmpI .Lt a b (decide (a < b))
  | le (a b) : CmpI .LtE a b (decide (a ≤ b))
  | gt (a b) : CmpI .Gt a b (decide (b < a))
  | ge (a b) : CmpI .GtE a b (decide (b ≤ a))

theorem cmp_int {op : CmpOp} {a b : Int} {c : Bool} {t u : Tok} {Q : Value → Shared → Prop} (h : CmpI op a b c) (k : Q (.bool c) s) :
    wpAny (model prog w) A (compareOp op (.int a t) (.int b u)) Q E s := by
  cases h with
  | eq => refine PyProof.Rows.eq_int ?_; rw [show (a == b) = decide (a = b) from rfl]; exact k
  | ne =>
    refine PyProof.Rows.ne_int ?_
    have e : (a != b) = decide (a ≠ b) := by
      by_cases h : a = b
      · subst h; simp
      · simp [h]
    rw [e]; exact k
  | lt => exact PyProof.Rows.lt_int k
  | le => exact PyProof.Rows.le_int k
  | gt => exact PyProof.Rows.gt_int k
  | ge => exact PyProof.Rows.ge_int k
end

/-! lists of values -/

theorem AllIs.length : ∀ {vs : List V} {xs : List Value}, AllIs vs xs → xs.length = vs.length
  | [], [], _ => rfl
  | _ :: _, _ :: _, h => by simp [AllIs.length h.2]
  | [], _ :: _, h => h.elim
  | _ :: _, [], h => h.elim
theorem AllIs.get : ∀ {vs : List V} {xs : List Value}, AllIs vs xs → ∀ {i : Nat} {v : V}, vs[i]? = some v → ∃ x, xs[i]? = some x ∧ v.Is (some x)
  | v :: _, x :: _, h, 0, _, e => by cases e; exact ⟨x, rfl, h.1⟩
  | _ :: _, _ :: _, h, i + 1, v, e => by simpa using AllIs.get h.2 (i := i) (v := v) (by simpa using e)
  | [], _, _, _, _, e => by simp at e
  | _ :: _, [], h, _, _, _ => h.elim
theorem AllIs.append : ∀ {vs : List V} {xs : List Value} {us : List V} {ys : List Value}, AllIs vs xs → AllIs us ys → AllIs (vs ++ us) (xs ++ ys)
  | [], [], _, _, _, h => h
  | _ :: _, _ :: _, _, _, h, k => ⟨h.1, AllIs.append h.2 k⟩
  | [], _ :: _, _, _, h, _ => h.elim
  | _ :: _, [], _, _, h, _ => h.elim
theorem AllIs.set : ∀ {vs : List V} {xs : List Value}, AllIs vs xs → ∀ (i : Nat) {v : V} {x : Value}, v.Is (some x) → AllIs (vs.set i v) (xs.set i x)
  | [], [], _, _, _, _, _ => trivial
  | _ :: _, _ :: _, h, 0, _, _, k => ⟨k, h.2⟩
  | _ :: _, _ :: _, h, i + 1, _, _, k => ⟨h.1, AllIs.set h.2 i k⟩
  | [], _ :: _, h, _, _, _, _ => h.elim
  | _ :: _, [], h, _, _, _, _ => h.elim
theorem AllIs.take : ∀ {vs : List V} {xs : List Value}, AllIs vs xs → ∀ i, AllIs (vs.take i) (xs.take i)
  | _, _, _, 0 => trivial
  | [], [], _, _ + 1 => trivial
  | _ :: _, _ :: _, h, i + 1 => ⟨h.1, AllIs.take h.2 i⟩
  | [], _ :: _, h, _ + 1 => h.elim
  | _ :: _, [], h, _ + 1 => h.elim
theorem AllIs.drop : ∀ {vs : List V} {xs : List Value}, AllIs vs xs → ∀ i, AllIs (vs.drop i) (xs.drop i)
  | _, _, h, 0 => h
  | [], [], _, _ + 1 => trivial
  | _ :: _, _ :: _, h, i + 1 => AllIs.drop (vs := _) h.2 i
  | [], _ :: _, h, _ + 1 => h.elim
  | _ :: _, [], h, _ + 1 => h.elim
theorem AllIs.intsAre : ∀ {ns : List Int} {xs : List Value}, AllIs (ns.map V.int) xs → IntsAre xs ns
  | [], [], _ => .nil
  | n :: _, _ :: _, h => by
    obtain ⟨⟨t, e⟩, r⟩ := h
    cases e
    exact .cons n t (AllIs.intsAre r)
  | [], _ :: _, h => h.elim
  | _ :: _, [], h => h.elim
theorem AllIs.of_ints : ∀ {ns : List Int} {xs : List Value}, IntsAre xs ns → AllIs (ns.map V.int) xs
  | _, _, .nil => trivial
  | _, _, .cons n t r => ⟨⟨t, rfl⟩, AllIs.of_ints r⟩
theorem AllIs.replicate {v : V} {x : Value} (h : v.Is (some x)) : ∀ n, AllIs (List.replicate n v) (List.replicate n x)
  | 0 => trivial
  | n + 1 => ⟨h, AllIs.replicate h n⟩

theorem getI {ns : List Int} {k : Nat} {d : Int} (h : k < ns.length) : (ns.map V.int)[k]? = some (V.int (ns.getD k d)) := by
  rw [List.getElem?_map, List.getElem?_eq_getElem h, List.getD_eq_getElem?_getD, List.getElem?_eq_getElem h]; rfl

section
variable {g s : Shared} {B : Heap} {c : Cx} {m : Loc} {H : Led}
theorem St.isList (S : St g B c m H s) {a : Addr} {vs : List V} (hm : (a, O.list vs) ∈ H) : ∃ xs n, s.heap.get? a = some { cls := .type "list", data := .seq (List.toArray xs) n } ∧ s.heap.IsList a xs.toArray ∧ AllIs vs xs ∧ vs.length ≤ bigN ∧ xs.length = vs.length := by
  obtain ⟨o, ho, hb, xs, n, e, hx⟩ := S.get hm
  subst e
  exact ⟨xs, n, ho, ⟨_, ho, rfl, n, rfl⟩, hx, hb, hx.length⟩
theorem St.isTup (S : St g B c m H s) {a : Addr} {vs : List V} (hm : (a, O.tup vs) ∈ H) : ∃ xs n, s.heap.get? a = some { cls := .type "tuple", data := .seq (List.toArray xs) n } ∧ PyProof.Rows.IsTup s.heap a xs.toArray ∧ AllIs vs xs ∧ vs.length ≤ bigN ∧ xs.length = vs.length := by
  obtain ⟨o, ho, hb, xs, n, e, hx⟩ := S.get hm
  subst e
  exact ⟨xs, n, ho, ⟨_, ho, rfl, n, rfl⟩, hx, hb, hx.length⟩
end

/-! the pure part of the language -/

inductive PX (X : Cx) (m : Loc) (H : Led) : Bool → Expr → V → Prop
  | nameI {x p i} : (x, V.int i) ∈ m → PX X m H false (.Name x p) (.int i)
  | nameV {x p u} : (x, V.val u) ∈ m → PX X m H false (.Name x p) (.val u)
  | nameCI {x p a i} : (x, a) ∈ X.cs → (a, O.cell (V.int i)) ∈ H → PX X m H false (.Name x p) (.int i)
  | nameCV {x p a u} : (x, a) ∈ X.cs → (a, O.cell (V.val u)) ∈ H → PX X m H false (.Name x p) (.val u)
  | int {i k p} : PX X m H false (.Constant (.int i) k p) (.int i)
  | none {k p} : PX X m H false (.Constant .none k p) (.val .none)
  | bin {op l r p a b c} : PX X m H false l (.int a) → PX X m H false r (.int b) → BinI op a b c → PX X m H false (.BinOp l op r p) (.int c)
  | neg {e p a} : PX X m H false e (.int a) → PX X m H false (.UnaryOp .USub e p) (.int (-a))
  | item {o i p a k vs v} : PX X m H false o (.val (.ref a)) → PX X m H false i (.int k) → (a, O.list vs) ∈ H → 0 ≤ k → vs[k.toNat]? = some v → (∀ x y, subscripted i false x y = operate [x, y] (getItem x y)) →
      PX X m H false (.Subscript o i p) v
  | itemN {o i p a k vs v} : PX X m H false o (.val (.ref a)) → PX X m H false i (.int k) → (a, O.list vs) ∈ H → k < 0 → -(vs.length : Int) ≤ k → vs[(k + vs.length).toNat]? = some v → (∀ x y, subscripted i false x y = operate [x, y] (getItem x y)) →
      PX X m H false (.Subscript o i p) v
  | itemT {o i p a k vs v} : PX X m H false o (.val (.ref a)) → PX X m H false i (.int k) → (a, O.tup vs) ∈ H → 0 ≤ k → vs[k.toNat]? = some v → (∀ x y, subscripted i false x y = operate [x, y] (getItem x y)) →
      PX X m H false (.Subscript o i p) v
  | len {x p q a vs} : Str.ofString "len" ∈ X.gs → PX X m H false x (.val (.ref a)) → (a, O.list vs) ∈ H →
      starEach [x] = (fun env => [(false, eval x env)]) → PX X m H false (.Call (.Name (Str.ofString "len") p) [x] [] q) (.int vs.length)
  | iteT {t b o p v} : PX X m H true t (.val (.bool true)) → PX X m H false b v → PX X m H false (.IfExp t b o p) v
  | iteF {t b o p v} : PX X m H true t (.val (.bool false)) → PX X m H false o v → PX X m H false (.IfExp t b o p) v
  | ite {t b o p c x y} : PX X m H true t (.val (.bool c)) → (c = true → PX X m H false b (.int x)) → (c = false → PX X m H false o (.int y)) → PX X m H false (.IfExp t b o p) (.int (if c then x else y))
  | cmp {mode op l r p a b c} : PX X m H false l (.int a) → PX X m H false r (.int b) → CmpI op a b c → behindInMarks op r = false → PX X m H mode (.Compare l [op] [r] p) (.val (.bool c))
  | or2v {x y p b c} : PX X m H false x (.val (.bool b)) → (b = false → PX X m H false y (.val (.bool c))) → PX X m H false (.BoolOp .Or [x, y] p) (.val (.bool (b || c)))
  | and2 {x y p b c} : PX X m H true x (.val (.bool b)) → (b = true → PX X m H true y (.val (.bool c))) → PX X m H true (.BoolOp .And [x, y] p) (.val (.bool (b && c)))
  | or2 {x y p b c} : PX X m H true x (.val (.bool b)) → (b = false → PX X m H true y (.val (.bool c))) → PX X m H true (.BoolOp .Or [x, y] p) (.val (.bool (b || c)))
  | not {x p b} : PX X m H true x (.val (.bool b)) → PX X m H true (.UnaryOp .Not x p) (.val (.bool !b))

section
variable {prog : Program} {w : World} {g : Shared} {B : Heap} {c : Cx} {m : Loc} {H : Led} {A : Around} {γ : Gl}

theorem ld_local {s : Shared} {E : Value → Shared → Prop} {x : Str} {v : V} {Q : Value → Shared → Prop} (S : St g B c m H s) (hm : (x, v) ∈ m)
    (hv : ∀ ov, v.Is ov → ∃ val, ov = some val) (k : ∀ val, v.Is (some val) → Q val s) : wpAny (model prog w) A (loadName c.env x) Q E s := by
  obtain ⟨mm, F, hM⟩ := S.fr
  have hi := hM.2 _ hm
  obtain ⟨val, e⟩ := hv _ hi
  refine wpAny_loadName_local (m := mm) S.kx.kind (S.kx.lo _ (List.mem_map_of_mem (f := (·.1)) hm)).1 F.ns e (k val ?_)
  rw [← e]; exact hi
theorem isI {i : Int} : ∀ ov, (V.int i).Is ov → ∃ val, ov = some val := fun ov h => let ⟨t, e⟩ := h; ⟨_, e⟩
theorem isV {u : Value} : ∀ ov, (V.val u).Is ov → ∃ val, ov = some val := fun ov h => ⟨_, h⟩

theorem ld_cell {s : Shared} {E : Value → Shared → Prop} {x : Str} {p : Pos} {a : Addr} {v : V} {Q : Value → Shared → Prop} (S : St g B c m H s) (hc : (x, a) ∈ c.cs) (hm : (a, O.cell v) ∈ H)
    (hv : ∀ ov, v.Is ov → ∃ val, ov = some val) (k : ∀ val, v.Is (some val) → Q val s) : wpAny (model prog w) A (eval (.Name x p) c.env) Q E s := by
  obtain ⟨o, ho, ov, hd, hi⟩ := S.get hm
  obtain ⟨val, e⟩ := hv _ hi
  subst e
  obtain ⟨hk, hl, hd1, hd2⟩ := S.kx.cl _ hc
  refine wpAny_Name ?_ hd1
  rcases hk with hk | hk
  · exact wpAny_loadName_cell S.kx.kind hk hl ⟨o, ho, hd⟩ (k val hi)
  · exact wpAny_loadName_free S.kx.kind hk hl ⟨o, ho, hd⟩ (k val hi) hd2

theorem ld_builtin {s : Shared} {E : Value → Shared → Prop} {x : Str} {p : Pos} {v : Value} {Q : Value → Shared → Prop} (G : GW γ B) (S : St g B c m H s) (hl : x ∈ c.gs)
    (hx : x ∈ usedBuiltins) (hb : bootBuiltins x = some v) (hn : x ≠ "__name__") (k : Q v s) : wpAny (model prog w) A (eval (.Name x p) c.env) Q E s := by
  have hk := S.base
  refine Name_function_global S.kx.kind (S.kx.gl x hl).1 ?_ (S.kx.gl x hl).2
  refine loadGlobal_builtin (mg := γ.mg) (mb := γ.mb) (by rw [S.kx.glo]; exact G.g.keeps hk) (G.nob x hx) (by rw [S.kx.bui]; exact G.b.keeps hk) ((G.bi x hn).trans hb) k

noncomputable def PGoal (prog : Program) (w : World) (A : Around) (env : Env) (s : Shared) (E : Value → Shared → Prop) (e : Expr) (v : V) : Bool → Prop
  | false => ∀ Q : Value → Shared → Prop, (∀ val tk, v.Is (some val) → Q val { s with toks := tk }) → wpAny (model prog w) A (eval e env) Q E s
  | true => ∀ Q : Bool → Shared → Prop, (∀ bb tk, v = .val (.bool bb) → Q bb { s with toks := tk }) → wpAny (model prog w) A (isTrue e env (eval e env)) Q E s

theorem PX.sound (G : GW γ B) {mode : Bool} {e : Expr} {v : V} (P : PX c m H mode e v) :
    ∀ (s : Shared) (E : Value → Shared → Prop), St g B c m H s → PGoal prog w A c.env s E e v mode := by
  induction P with
  | nameI hm => exact fun s E S Q k => wpAny_Name (ld_local S hm isI fun val hv => k val s.toks hv) (S.kx.lo _ (List.mem_map_of_mem (f := (·.1)) hm)).2
  | nameV hm => exact fun s E S Q k => wpAny_Name (ld_local S hm isV fun val hv => k val s.toks hv) (S.kx.lo _ (List.mem_map_of_mem (f := (·.1)) hm)).2
  | nameCI hc hm => exact fun s E S Q k => ld_cell S hc hm isI fun val hv => k val s.toks hv
  | nameCV hc hm => exact fun s E S Q k => ld_cell S hc hm isV fun val hv => k val s.toks hv
  | int => exact fun s E S Q k => wpAny_Constant_int (k _ _ ⟨_, rfl⟩)
  | none => exact fun s E S Q k => wpAny_of_eq (a := Value.none) rfl (k _ s.toks rfl)
  | bin _ _ hb ih1 ih2 =>
    intro s E S Q k
    refine wpAny_BinOp (ih1 s E S _ fun va tk1 ha => ih2 _ E (S.toks tk1) _ fun vb tk2 hb' => ?_)
    obtain ⟨t, e⟩ := ha; cases e
    obtain ⟨u, e⟩ := hb'; cases e
    exact binop_int hb fun t tk => k _ tk ⟨t, rfl⟩
  | neg _ ih =>
    intro s E S Q k
    refine wpAny_UnaryOp (ih s E S _ fun va tk1 ha => ?_)
    obtain ⟨t, e⟩ := ha; cases e
    exact PyProof.Rows.neg_int (k _ _ ⟨_, rfl⟩)
  | item _ _ hm h0 hx hs ih1 ih2 =>
    intro s E S Q k
    refine PyProof.Rows.Subscript_ (ih1 s E S _ fun va tk1 ha => ih2 _ E (S.toks tk1) _ fun vb tk2 hb' => ?_)
    cases ha
    obtain ⟨u, e⟩ := hb'; cases e
    obtain ⟨xs, n, hg, hl, ha, hb, hlen⟩ := ((S.toks tk1).toks tk2).isList hm
    obtain ⟨x, hx1, hx2⟩ := ha.get hx
    have hlt : _ < xs.length := (List.getElem?_eq_some_iff.mp hx1).1
    have hbig : bigN = 100000 := rfl
    exact PyProof.Rows.tail_any hl.typeIs slot_list_getitem.lookup (wpAny_getItem_list hl h0 (by omega) (by simpa using hx1) (k x tk2 hx2)) (hs _ _)
  | itemN _ _ hm h0 h1 hx hs ih1 ih2 =>
    intro s E S Q k
    refine PyProof.Rows.Subscript_ (ih1 s E S _ fun va tk1 ha => ih2 _ E (S.toks tk1) _ fun vb tk2 hb' => ?_)
    cases ha
    obtain ⟨u, e⟩ := hb'; cases e
    obtain ⟨xs, n, hg, hl, ha, hb, hlen⟩ := ((S.toks tk1).toks tk2).isList hm
    obtain ⟨x, hx1, hx2⟩ := ha.get hx
    have hbig : bigN = 100000 := rfl
    refine PyProof.Rows.tail_any hl.typeIs slot_list_getitem.lookup (wpAny_getItem_list_neg hl h0 (by simp; omega) (by omega) (by simpa [hlen] using hx1) (k x tk2 hx2)) (hs _ _)
  | @itemT o i p a k' vs v _ _ hm h0 hx hs ih1 ih2 =>
    intro s E S Q k
    refine PyProof.Rows.Subscript_ (ih1 s E S _ fun va tk1 ha => ih2 _ E (S.toks tk1) _ fun vb tk2 hb' => ?_)
    cases ha
    obtain ⟨u, e⟩ := hb'; cases e
    obtain ⟨xs, n, hg, hl, ha, hb, hlen⟩ := ((S.toks tk1).toks tk2).isTup hm
    obtain ⟨x, hx1, hx2⟩ := ha.get hx
    have hlt : _ < xs.length := (List.getElem?_eq_some_iff.mp hx1).1
    have hbig : bigN = 100000 := rfl
    have hj : seqIndex? k' xs.length = some k'.toNat := by
      have h1 : ¬ k' < 0 := by omega
      have h2 : k' < (xs.length : Int) := by omega
      simp [seqIndex?, h1, h0, h2]
    exact PyProof.Rows.tail_any hl.typeIs F.slot_tuple_getitem.lookup (PyProof.Rows.getItem_tuple hl (by omega) (by omega) (by simpa using hj) (by simpa using hx1) (k x tk2 hx2)) (hs _ _)
  | @len x p q a vs hl _ hm hs ih =>
    intro s E S Q k
    refine wpAny_Call_Name_kw (ld_builtin G S hl (by decide) boot_len (by decide) ?_)
    rw [hs]
    refine callWith_builtin rfl (evalArgs_plain (spliced_cons (ih s E S _ fun va tk1 ha => spliced_nil ?_)))
    cases ha
    obtain ⟨xs, n, hg, hl, ha, hb, hlen⟩ := (S.toks tk1).isList hm
    have hbig : bigN = 100000 := rfl
    refine PyProof.Rows.len_list hl (by simp; omega) ?_
    have e : ((xs.toArray.size : Nat) : Int) = (vs.length : Int) := by rw [List.size_toArray, hlen]
    rw [e]
    exact k _ _ ⟨_, rfl⟩
  | iteT _ _ ih1 ih2 =>
    intro s E S Q k
    refine wpAny_IfExp (ih1 s E S _ fun bb tk e => ?_)
    cases e
    exact ih2 _ E (S.toks tk) _ fun val tk' hv => k val tk' hv
  | iteF _ _ ih1 ih2 =>
    intro s E S Q k
    refine wpAny_IfExp (ih1 s E S _ fun bb tk e => ?_)
    cases e
    exact ih2 _ E (S.toks tk) _ fun val tk' hv => k val tk' hv
  | @ite t b o p c x y _ _ _ ih1 ih2 ih3 =>
    intro s E S Q k
    refine wpAny_IfExp (ih1 s E S _ fun bb tk e => ?_)
    cases e
    cases c with
    | true => exact ih2 rfl _ E (S.toks tk) _ fun val tk' hv => k val tk' hv
    | false => exact ih3 rfl _ E (S.toks tk) _ fun val tk' hv => k val tk' hv
  | @cmp mode op l r p a b c _ _ hc hm ih1 ih2 =>
    intro s E S
    cases mode with
    | false =>
      intro Q k
      refine wpAny_Compare1 (ih1 s E S _ fun va tk1 ha => ih2 _ E (S.toks tk1) _ fun vb tk2 hb' => ?_) hm
      obtain ⟨t, e⟩ := ha; cases e
      obtain ⟨u, e⟩ := hb'; cases e
      exact cmp_int hc (k _ tk2 rfl)
    | true =>
      intro Q k
      refine wpAny_isTrue_Compare1 (ih1 s E S _ fun va tk1 ha => ih2 _ E (S.toks tk1) _ fun vb tk2 hb' => ?_) hm
      obtain ⟨t, e⟩ := ha; cases e
      obtain ⟨u, e⟩ := hb'; cases e
      exact cmp_int hc (wpAny_truthy_bool (k _ tk2 rfl))
  | @or2v x y p b c _ _ ih1 ih2 =>
    intro s E S Q k
    refine wpAny_Or2 (ih1 s E S _ fun va tk1 ha => ?_)
    cases ha
    refine wpAny_truthy_bool ?_
    cases b with
    | true => exact k _ tk1 rfl
    | false => exact ih2 rfl _ E (S.toks tk1) _ fun val tk' hv => k val tk' hv
  | @and2 x y p b c _ _ ih1 ih2 =>
    intro s E S Q k
    refine PyProof.Rows.isTrue_and (ih1 s E S _ fun bb tk e => ?_)
    cases e
    cases b with
    | false => exact k _ tk rfl
    | true =>
      refine PyProof.Rows.isTrue_and (ih2 rfl _ E (S.toks tk) _ fun bb tk' e => ?_)
      cases e
      cases c with
      | false => exact k _ tk' rfl
      | true => exact PyProof.Rows.isTrue_and_nil (k _ tk' rfl)
  | @or2 x y p b c _ _ ih1 ih2 =>
    intro s E S Q k
    refine PyProof.Rows.isTrue_or (ih1 s E S _ fun bb tk e => ?_)
    cases e
    cases b with
    | true => exact k _ tk rfl
    | false =>
      refine PyProof.Rows.isTrue_or (ih2 rfl _ E (S.toks tk) _ fun bb tk' e => ?_)
      cases e
      cases c with
      | true => exact k _ tk' rfl
      | false => exact PyProof.Rows.isTrue_or_nil (k _ tk' rfl)
  | not _ ih =>
    intro s E S Q k
    exact wpAny_isTrue_Not (ih s E S _ fun bb tk e => by cases e; exact k _ tk rfl)
end
end

section
open PySem PySem.Calls
open PyProof.Rows (IntsAre)
noncomputable abbrev NoE : Value → Shared → Prop := fun _ _ => False

inductive Weak : Loc → Loc → Prop
  | nil : Weak [] []
  | same {p m m'} : Weak m m' → Weak (p :: m) (p :: m')
  | any {x v m m'} : Weak m m' → Weak ((x, v) :: m) ((x, V.any) :: m')
theorem Weak.spec : ∀ {m m' : Loc}, Weak m m' → m'.map (·.1) = m.map (·.1) ∧ ∀ p ∈ m', p.2 = .any ∨ p ∈ m
  | _, _, .nil => ⟨rfl, fun p hp => nomatch hp⟩
  | _, _, .same h => ⟨by rw [List.map_cons, List.map_cons, h.spec.1], fun p hp => by
      rcases List.mem_cons.mp hp with rfl | hp
      · exact .inr (.head _)
      · exact (h.spec.2 p hp).imp id fun e => .tail _ e⟩
  | _, _, .any h => ⟨by rw [List.map_cons, List.map_cons, h.spec.1], fun p hp => by
      rcases List.mem_cons.mp hp with rfl | hp
      · exact .inl rfl
      · exact (h.spec.2 p hp).imp id fun e => .tail _ e⟩

section
variable {prog : Program} {w : World} {g s : Shared} {B : Heap} {c : Cx} {m : Loc} {H : Led} {A : Around} {E : Value → Shared → Prop} {γ : Gl}

theorem St.fit {m' : Loc} {H' : Led} (S : St g B c m H s) (hm : Weak m m') (hs : H'.Sublist H) : St g B c m' H' s := by
  have S1 := S.weak hm.spec.1 hm.spec.2
  exact S1.mono (fun p hp => hs.subset hp) ((hs.map _).nodup S.nd)

/-! expressions -/

theorem px_v {e : Expr} {v : V} {Q : Value → Shared → Prop} (G : GW γ B) (S : St g B c m H s) (P : PX c m H false e v) (k : ∀ val s', v.Is (some val) → St g B c m H s' → Q val s') :
    wpAny (model prog w) A (eval e c.env) Q E s := P.sound G s E S Q fun val tk hv => k val _ hv (S.toks tk)
theorem px_i {e : Expr} {i : Int} {Q : Value → Shared → Prop} (G : GW γ B) (S : St g B c m H s) (P : PX c m H false e (.int i)) (k : ∀ t s', St g B c m H s' → Q (.int i t) s') :
    wpAny (model prog w) A (eval e c.env) Q E s := px_v G S P fun val s' hv S' => by obtain ⟨t, e⟩ := hv; cases e; exact k t s' S'
theorem px_u {e : Expr} {u : Value} {Q : Value → Shared → Prop} (G : GW γ B) (S : St g B c m H s) (P : PX c m H false e (.val u)) (k : ∀ s', St g B c m H s' → Q u s') :
    wpAny (model prog w) A (eval e c.env) Q E s := px_v G S P fun val s' hv S' => by cases hv; exact k s' S'
theorem px_t {e : Expr} {b : Bool} {Q : Bool → Shared → Prop} (G : GW γ B) (S : St g B c m H s) (P : PX c m H true e (.val (.bool b))) (k : ∀ s', St g B c m H s' → Q b s') :
    wpAny (model prog w) A (isTrue e c.env (eval e c.env)) Q E s := P.sound G s E S Q fun bb tk e => by cases e; exact k _ (S.toks tk)

theorem st_loc {x : Str} {v : V} {m' : Loc} {val : Value} {Q : Unit → Shared → Prop} (S : St g B c m H s) (hp : Put m x v m') (hv : v.Is (some val)) (k : ∀ s', St g B c m' H s' → Q () s') :
    wpAny (model prog w) A (storeName c.env x val) Q E s := by
  obtain ⟨mm, F, hM⟩ := id S.fr
  obtain ⟨_, ⟨v0, hmem⟩, _⟩ := hp.spec
  have hl := (S.kx.lo _ (List.mem_map_of_mem (f := (·.1)) hmem)).1
  refine wpAny_storeName_local hl F.ns (fun h' hn hs => k _ (S.store hp hv hM hn hs)) ?_
  rw [S.kx.kind]; rfl

/-! statements, one after the other -/

theorem x_nil {Q : Flow → Shared → Prop} (h : Q .next s) : wpAny (model prog w) A (execs [] c.env) Q E s := wpAny_execs_nil h

theorem x_asgG {x : Str} {p' p : Pos} {e : Expr} {rest : List Stmt} {Q : Flow → Shared → Prop}
    (h : wpAny (model prog w) A (eval e c.env) (fun v s₁ => wpAny (model prog w) A (storeName c.env x v) (fun _ s₂ => wpAny (model prog w) A (execs rest c.env) Q E s₂) E s₁) E s)
    (hs : swapsWith e (some (.Name x p')) p.line c.env = pure false := by rfl) :
    wpAny (model prog w) A (execs (.Assign [.Name x p'] e p :: rest) c.env) Q E s :=
  wpAny_execs_cons (wpAny_Assign_Name h hs)

theorem x_asg {x : Str} {p' p : Pos} {e : Expr} {v : V} {m' : Loc} {rest : List Stmt} {Q : Flow → Shared → Prop} (G : GW γ B) (S : St g B c m H s) (P : PX c m H false e v) (hp : Put m x v m')
    (k : ∀ s', St g B c m' H s' → wpAny (model prog w) A (execs rest c.env) Q E s')
    (hs : swapsWith e (some (.Name x p')) p.line c.env = pure false := by rfl) :
    wpAny (model prog w) A (execs (.Assign [.Name x p'] e p :: rest) c.env) Q E s :=
  x_asgG (px_v G S P fun val s' hv S' => st_loc S' hp hv fun s'' S'' => k s'' S'') hs

theorem x_aug {x : Str} {p' p : Pos} {op : Operator} {e : Expr} {a b r : Int} {m' : Loc} {rest : List Stmt} {Q : Flow → Shared → Prop} (G : GW γ B) (S : St g B c m H s) (hx : (x, V.int a) ∈ m) (P : PX c m H false e (.int b)) (hb : BinI op a b r)
    (hp : Put m x (.int r) m') (k : ∀ s', St g B c m' H s' → wpAny (model prog w) A (execs rest c.env) Q E s') :
    wpAny (model prog w) A (execs (.AugAssign (.Name x p') op e p :: rest) c.env) Q E s := by
  refine wpAny_execs_cons (wpAny_AugAssign_Name (ld_local S hx isI fun val hv => ?_))
  obtain ⟨t, e1⟩ := hv; cases e1
  exact px_i G S P fun u s' S' => inplace_int hb fun t' tk => st_loc (S'.toks tk) hp ⟨t', rfl⟩ k

theorem x_ret {e : Expr} {p : Pos} {v : V} {rest : List Stmt} {Q : Flow → Shared → Prop} (G : GW γ B) (S : St g B c m H s) (P : PX c m H false e v) (k : ∀ val s', v.Is (some val) → St g B c m H s' → Q (.ret val) s') :
    wpAny (model prog w) A (execs (.Return (some e) p :: rest) c.env) Q E s :=
  wpAny_execs_cons (wpAny_Return_some (px_v G S P fun val s' hv S' => k val s' hv S'))

theorem x_retG {e : Expr} {p : Pos} {rest : List Stmt} {Q : Flow → Shared → Prop} (h : wpAny (model prog w) A (eval e c.env) (fun v => Q (.ret v)) E s) :
    wpAny (model prog w) A (execs (.Return (some e) p :: rest) c.env) Q E s :=
  wpAny_execs_cons (wpAny_Return_some h)

theorem x_if {t : Expr} {b o : List Stmt} {p : Pos} {bb : Bool} {rest : List Stmt} {Q : Flow → Shared → Prop} (G : GW γ B) (S : St g B c m H s) (P : PX c m H true t (.val (.bool bb)))
    (h1 : bb = true → ∀ s', St g B c m H s' → wpAny (model prog w) A (execs b c.env) (fun f s' => match f with | .next => wpAny (model prog w) A (execs rest c.env) Q E s' | f => Q f s') E s')
    (h2 : bb = false → ∀ s', St g B c m H s' → wpAny (model prog w) A (execs o c.env) (fun f s' => match f with | .next => wpAny (model prog w) A (execs rest c.env) Q E s' | f => Q f s') E s') :
    wpAny (model prog w) A (execs (.If t b o p :: rest) c.env) Q E s := by
  refine wpAny_execs_cons (wpAny_If (px_t G S P fun s' S' => ?_))
  cases bb with
  | true => exact h1 rfl s' S'
  | false => exact h2 rfl s' S'

theorem x_ifG {t : Expr} {b o : List Stmt} {p : Pos} {rest : List Stmt} {Q : Flow → Shared → Prop}
    (h : wpAny (model prog w) A (isTrue t c.env (eval t c.env)) (fun bb s' => if bb then wpAny (model prog w) A (execs b c.env) (fun f s' => match f with | .next => wpAny (model prog w) A (execs rest c.env) Q E s' | f => Q f s') E s'
      else wpAny (model prog w) A (execs o c.env) (fun f s' => match f with | .next => wpAny (model prog w) A (execs rest c.env) Q E s' | f => Q f s') E s') E s) :
    wpAny (model prog w) A (execs (.If t b o p :: rest) c.env) Q E s := wpAny_execs_cons (wpAny_If h)

theorem il_length {ns : List Int} : (ns.map V.int).length = ns.length := List.length_map ..

/-- found.append(e) -/
theorem x_append {o e : Expr} {p1 p3 p : Pos} {a : Addr} {vs : List V} {v : V} {H' : Led} {rest : List Stmt} {Q : Flow → Shared → Prop} (G : GW γ B) (S : St g B c m H s) (P1 : PX c m H false o (.val (.ref a))) (hm : (a, O.list vs) ∈ H)
    (P : PX c m H false e v) (hsz : vs.length < bigN) (hp : Put H a (.list (vs ++ [v])) H')
    (k : ∀ s', St g B c m H' s' → wpAny (model prog w) A (execs rest c.env) Q E s')
    (hbase : attributeBase o (Str.ofString "append") c.env (eval o c.env) = eval o c.env := by rfl)
    (htrees : backTo p3 (starEach [e] c.env) = [(false, eval e c.env)] := by rfl)
    (hline : (p1.endLine == p3.line) = true := by rfl) (hi : interactive c.env = false := by rfl) (hs : swapsWith (.Call (.Attribute o (Str.ofString "append") p1) [e] [] p3) none p.line c.env = pure false := by rfl) :
    wpAny (model prog w) A (execs (.Expr (.Call (.Attribute o (Str.ofString "append") p1) [e] [] p3) p :: rest) c.env) Q E s := by
  refine wpAny_execs_cons (wpAny_Expr ?_ hi hs)
  refine wpAny_Call_method (T := "list") (id := "list.append") hbase (by rw [htrees]; rfl) hline F.plainAttrs_list F.slot_list_append F.type_list_append (px_u G S P1 fun s1 S1 => ?_)
  obtain ⟨xs, n, hg, hl, ha, hb, hlen⟩ := S1.isList hm
  refine ⟨hl.typeIs, fun b e => by cases e; exact ⟨_, hg, rfl⟩, ?_⟩
  rw [htrees]
  refine callWith_builtin rfl (evalArgs_plain (spliced_cons (px_v G S1 P fun val s2 hv S2 => spliced_nil ?_)))
  obtain ⟨xs, n, hg, hl, ha, hb, hlen⟩ := S2.isList hm
  have hbig : bigN = 100000 := rfl
  show wpAny (model prog w) A (call (.builtin "list.append") [.ref a, val]) _ E s2
  refine wpAny_list_append_plain ⟨n, hg⟩ (fun h' hpl hsb => ?_) (by rw [List.size_toArray, hlen]; have := sizeLine_eq; omega)
  obtain ⟨n', e'⟩ := hpl
  refine k _ (S2.turn hp hsb e' ⟨by rw [List.length_append, List.length_singleton]; omega, xs ++ [val], n', by simp, ha.append ⟨hv, trivial⟩⟩)

/-- xs[i] = e -/
theorem x_setitem {o i e : Expr} {p' p : Pos} {a : Addr} {vs : List V} {kk : Int} {v : V} {H' : Led} {rest : List Stmt} {Q : Flow → Shared → Prop} (G : GW γ B) (S : St g B c m H s) (P : PX c m H false e v) (P1 : PX c m H false o (.val (.ref a)))
    (P2 : PX c m H false i (.int kk)) (hm : (a, O.list vs) ∈ H) (h0 : 0 ≤ kk) (h1 : kk < vs.length) (hp : Put H a (.list (vs.set kk.toNat v)) H')
    (k : ∀ s', St g B c m H' s' → wpAny (model prog w) A (execs rest c.env) Q E s')
    (hs : swapsWith e (some (.Subscript o i p')) p.line c.env = pure false := by rfl) :
    wpAny (model prog w) A (execs (.Assign [.Subscript o i p'] e p :: rest) c.env) Q E s := by
  refine wpAny_execs_cons (wpAny_Assign_Subscript (px_v G S P fun val s1 hv S1 => px_u G S1 P1 fun s2 S2 => px_i G S2 P2 fun t s3 S3 => ?_) hs)
  obtain ⟨xs, n, hg, hl, ha, hb, hlen⟩ := S3.isList hm
  have hbig : bigN = 100000 := rfl
  have hsz : kk < (xs.toArray.size : Nat) := by rw [List.size_toArray, hlen]; exact h1
  refine PySem.W.ki_setAt hg h0 (by omega) hsz (k _ (S3.turn (tk := s3.toks) hp (Heap.SameBut.update ..) (Heap.get?_update_self _ hg rfl) ⟨by rw [List.length_set]; exact hb, xs.set kk.toNat val, n, ?_, ha.set _ hv⟩))
  simp [Obj.mapSeq]

/-! new objects -/

theorem ev_newList {vs : List V} {xs : List Value} {Q : Value → Shared → Prop} (S : St g B c m H s) (ha : AllIs vs xs) (hsz : vs.length ≤ bigN) (k : ∀ r s', St g B c m ((r, O.list vs) :: H) s' → Q (.ref r) s') :
    wpAny (model prog w) A (newList xs) Q E s := by
  have hbig : bigN = 100000 := rfl
  exact wpAny_newObj_type (k _ _ (S.push ⟨hsz, xs, 0, rfl, ha⟩)) (by show xs.toArray.size ≤ sizeLine; rw [List.size_toArray, ha.length]; have := sizeLine_eq; omega)
theorem ev_newTuple {vs : List V} {xs : List Value} {Q : Value → Shared → Prop} (S : St g B c m H s) (ha : AllIs vs xs) (hsz : vs.length ≤ bigN) (k : ∀ r s', St g B c m ((r, O.tup vs) :: H) s' → Q (.ref r) s') :
    wpAny (model prog w) A (newTuple xs) Q E s := by
  have hbig : bigN = 100000 := rfl
  exact wpAny_newObj_type (k _ _ (S.push ⟨hsz, xs, 0, rfl, ha⟩)) (by show xs.toArray.size ≤ sizeLine; rw [List.size_toArray, ha.length]; have := sizeLine_eq; omega)

theorem ev_List {es : List Expr} {p : Pos} {Q : Value → Shared → Prop} (h : wpAny (model prog w) A (spliced (backTo p (starEach es c.env))) (fun vs s₁ => wpAny (model prog w) A (newList vs) Q E s₁) E s) :
    wpAny (model prog w) A (eval (.List es p) c.env) Q E s := PyProof.Rows.List_ h
theorem ev_Tuple {es : List Expr} {n : Nat} {p : Pos} {Q : Value → Shared → Prop} (h : wpAny (model prog w) A (spliced (backTo p (starEach es c.env))) (fun vs s₁ => wpAny (model prog w) A (newTuple vs) Q E s₁) E s) :
    wpAny (model prog w) A (eval (.Tuple es n p) c.env) Q E s := PyProof.Rows.Tuple_ h

theorem sp_nil {Q : List Value → Shared → Prop} (p : Pos) (h : Q [] s) : wpAny (model prog w) A (spliced (backTo p (starEach [] c.env))) Q E s := spliced_nil h
theorem sp_cons {e : Expr} {es : List Expr} {Q : List Value → Shared → Prop} {p : Pos}
    (h : wpAny (model prog w) A (eval e c.env) (fun v s₁ => wpAny (model prog w) A (spliced (backTo p (starEach es c.env))) (fun vs s₂ => Q (v :: vs) s₂) E s₁) E s)
    (hs : starEach (e :: es) c.env = (false, eval e c.env) :: starEach es c.env := by rfl) : wpAny (model prog w) A (spliced (backTo p (starEach (e :: es) c.env))) Q E s := by
  rw [hs]; exact spliced_cons h

/-- lists of pure expressions -/
inductive PXs (X : Cx) (m : Loc) (H : Led) : List Expr → List V → Prop
  | nil : PXs X m H [] []
  | cons {e es v vs} : PX X m H false e v → PXs X m H es vs → (∀ env, starEach (e :: es) env = (false, eval e env) :: starEach es env) → PXs X m H (e :: es) (v :: vs)
theorem pxs {es : List Expr} {vs : List V} {p : Pos} (G : GW γ B) (P : PXs c m H es vs) : ∀ {s : Shared} {Q : List Value → Shared → Prop}, St g B c m H s → (∀ xs s', AllIs vs xs → St g B c m H s' → Q xs s') →
    wpAny (model prog w) A (spliced (backTo p (starEach es c.env))) Q E s := by
  induction P with
  | nil => exact fun S k => sp_nil p (k [] _ trivial S)
  | cons P _ hs ih => exact fun S k => sp_cons (px_v G S P fun val s1 hv S1 => ih S1 fun xs s2 ha S2 => k _ _ ⟨hv, ha⟩ S2) (hs _)

theorem ev_listP {es : List Expr} {vs : List V} {p : Pos} {Q : Value → Shared → Prop} (G : GW γ B) (S : St g B c m H s) (P : PXs c m H es vs) (hsz : vs.length ≤ bigN) (k : ∀ r s', St g B c m ((r, O.list vs) :: H) s' → Q (.ref r) s') :
    wpAny (model prog w) A (eval (.List es p) c.env) Q E s :=
  ev_List (pxs G P S fun xs s1 ha S1 => ev_newList S1 ha hsz k)
theorem ev_tupP {es : List Expr} {vs : List V} {n : Nat} {p : Pos} {Q : Value → Shared → Prop} (G : GW γ B) (S : St g B c m H s) (P : PXs c m H es vs) (hsz : vs.length ≤ bigN) (k : ∀ r s', St g B c m ((r, O.tup vs) :: H) s' → Q (.ref r) s') :
    wpAny (model prog w) A (eval (.Tuple es n p) c.env) Q E s :=
  ev_Tuple (pxs G P S fun xs s1 ha S1 => ev_newTuple S1 ha hsz k)

/-! a slice: its two ends are ints at hand or left out -/

inductive PE (X : Cx) (m : Loc) (H : Led) : Option Expr → Option Int → Prop
  | none : PE X m H none none
  | some {e i} : PX X m H false e (.int i) → PE X m H (some e) (some i)

noncomputable def cutL {α : Type} (vs : List α) : Option Int → Option Int → List α
  | none, none => vs
  | some i, none => vs.drop i.toNat
  | none, some j => vs.take j.toNat
  | some i, some j => (vs.drop i.toNat).take (j.toNat - i.toNat)

theorem cutL_map {α β : Type} (f : α → β) (vs : List α) (lo hi : Option Int) : cutL (vs.map f) lo hi = (cutL vs lo hi).map f := by
  cases lo <;> cases hi <;> simp [cutL, List.map_drop, List.map_take]
theorem cutL_length {α : Type} (vs : List α) (lo hi : Option Int) : (cutL vs lo hi).length ≤ vs.length := by
  cases lo <;> cases hi <;> simp [cutL] <;> omega
theorem AllIs.cut {vs : List V} {xs : List Value} (h : AllIs vs xs) (lo hi : Option Int) : AllIs (cutL vs lo hi) (cutL xs lo hi) := by
  cases lo <;> cases hi
  · exact h
  · exact h.take _
  · exact h.drop _
  · exact (h.drop _).take _

theorem slicePick_cut (xs : List Value) (lo hi : Option Int) (h1 : ∀ i, lo = some i → 0 ≤ i) (h2 : ∀ i, hi = some i → 0 ≤ i) : slicePick xs.toArray lo hi none = (cutL xs lo hi).toArray := by
  rw [slicePick_plain]
  congr 1
  have cl : ∀ i : Int, 0 ≤ i → clipAt xs.toArray.size i = min i.toNat xs.length := fun i h => by
    obtain ⟨n, rfl⟩ := Int.eq_ofNat_of_zero_le h
    rw [clipAt_nat, List.size_toArray]; rfl
  have e1 : ∀ n : Nat, xs.drop (min n xs.length) = xs.drop n := fun n => by
    rcases Nat.le_total n xs.length with h | h
    · rw [Nat.min_eq_left h]
    · rw [Nat.min_eq_right h, List.drop_of_length_le h, List.drop_length]
  cases lo with
  | none =>
    cases hi with
    | none => simp [cutL]
    | some j =>
      have hj := cl j (h2 j rfl)
      simp only [Option.elim, cutL]
      rw [hj, List.drop_zero, Nat.sub_zero]
      rcases Nat.le_total j.toNat xs.length with h | h
      · rw [Nat.min_eq_left h]
      · rw [Nat.min_eq_right h, List.take_of_length_le h, List.take_of_length_le (Nat.le_refl _)]
  | some i =>
    have hi' := cl i (h1 i rfl)
    cases hi with
    | none =>
      simp only [Option.elim, cutL]
      rw [hi', e1]
      refine List.take_of_length_le ?_
      rw [List.length_drop, List.size_toArray]
      omega
    | some j =>
      have hj := cl j (h2 j rfl)
      simp only [Option.elim, cutL]
      rw [hj, hi', e1]
      have key : ∀ (ys : List Value) (p q : Nat), (min p ys.length = min q ys.length) → ys.take p = ys.take q := fun ys p q h => by
        rw [List.take_eq_take_min (l := ys) (i := p), List.take_eq_take_min (l := ys) (i := q), h]
      refine key _ _ _ ?_
      rw [List.length_drop]
      generalize xs.length = L
      generalize i.toNat = a
      generalize j.toNat = d
      rcases Nat.le_total a L with h | h
      · rw [Nat.min_eq_left h]
        rcases Nat.le_total d L with h' | h'
        · rw [Nat.min_eq_left h']
        · rw [Nat.min_eq_right h', Nat.min_self, Nat.min_eq_right (Nat.sub_le_sub_right h' a)]
      · rw [Nat.sub_eq_zero_of_le h, Nat.min_zero, Nat.min_zero]

theorem ev_Slice {lo hi : Option Expr} {l u : Option Int} {p : Pos} {Q : Value → Shared → Prop} (G : GW γ B) (S : St g B c m H s) (P1 : PE c m H lo l) (P2 : PE c m H hi u)
    (k : ∀ vl vu s', IsPart vl l → IsPart vu u → St g B c m H s' → Q (.ref s'.heap.objs.size) { s' with heap := s'.heap.push { cls := .type "slice", data := .fields #[vl, vu, .none] } }) :
    wpAny (model prog w) A (eval (.Slice lo hi none p) c.env) Q E s := by
  rw [arm_eval_Slice]
  have one : ∀ {o : Option Expr} {v : Option Int} {s : Shared} {R : Value → Shared → Prop}, PE c m H o v → St g B c m H s → (∀ val s', IsPart val v → St g B c m H s' → R val s') → wpAny (model prog w) A (valueOrNone (evalOpt o c.env)) R E s := by
    intro o v s R P S k
    cases P with
    | none => exact wpAny_pure (k _ _ .none S)
    | some P => exact px_i G S P fun t s' S' => k _ _ (.int _ t) S'
  refine wpAny_bind (one P1 S fun vl s1 hl S1 => wpAny_bind (wpAny_holding (one P2 S1 fun vu s2 hu S2 => ?_)))
  refine wpAny_bind (wpAny_holding (wpAny_pure ?_))
  exact wpAny_newObj_type (k vl vu s2 hl hu S2) (by size_fits)

theorem tail_slice {value : Expr} {lo hi : Option Expr} {l u : Option Int} {p : Pos} {a : Addr} {vs : List V} {vl vu : Value} {Q : Value → Shared → Prop} (S : St g B c m H s) (hm : (a, O.list vs) ∈ H) (pl : IsPart vl l) (pu : IsPart vu u)
    (h1 : ∀ i, l = some i → 0 ≤ i) (h2 : ∀ i, u = some i → 0 ≤ i) (k : ∀ r s', St g B c m ((r, O.list (cutL vs l u)) :: H) s' → Q (.ref r) s') :
    wpAny (model prog w) A (PyProof.Rows.subscriptTail value (.Slice lo hi none p) (.ref a) (.ref s.heap.objs.size)) Q E { s with heap := s.heap.push { cls := .type "slice", data := .fields #[vl, vu, .none] } } := by
  obtain ⟨xs, n, hg, hl, ha, hb, hlen⟩ := S.isList hm
  have hbig : bigN = 100000 := rfl
  have S1 := S.push' { cls := .type "slice", data := .fields #[vl, vu, .none] }
  refine PyProof.Rows.tail_any (ops := [.ref s.heap.objs.size, .ref a]) (Heap.IsList.typeIs (s := { s with heap := s.heap.push { cls := .type "slice", data := .fields #[vl, vu, .none] } }) (hl.push _)) slot_list_getitem.lookup
    (wpAny_getItem_list_slice (hl.push _) (Heap.IsSliceOf.new ..) pl pu .none (by simp) ?_ (by rw [List.size_toArray, hlen]; have := sizeLine_eq; omega)) rfl
  refine k _ _ (S1.push ⟨Nat.le_trans (cutL_length _ _ _) hb, cutL xs l u, 0, ?_, ha.cut l u⟩)
  rw [slicePick_cut xs l u h1 h2]

theorem ev_slice {o : Expr} {lo hi : Option Expr} {l u : Option Int} {p p' : Pos} {a : Addr} {vs : List V} {Q : Value → Shared → Prop} (G : GW γ B) (S : St g B c m H s) (P : PX c m H false o (.val (.ref a))) (hm : (a, O.list vs) ∈ H) (P1 : PE c m H lo l) (P2 : PE c m H hi u)
    (h1 : ∀ i, l = some i → 0 ≤ i) (h2 : ∀ i, u = some i → 0 ≤ i) (k : ∀ r s', St g B c m ((r, O.list (cutL vs l u)) :: H) s' → Q (.ref r) s') :
    wpAny (model prog w) A (eval (.Subscript o (.Slice lo hi none p) p') c.env) Q E s :=
  PyProof.Rows.Subscript_ (px_u G S P fun s1 S1 => ev_Slice G S1 P1 P2 fun vl vu s2 hl hu S2 => tail_slice S2 hm hl hu h1 h2 k)

/-! + and * of lists -/

theorem bo_concat {a b : Addr} {vs us : List V} {Q : Value → Shared → Prop} (S : St g B c m H s) (h1 : (a, O.list vs) ∈ H) (h2 : (b, O.list us) ∈ H) (hsz : vs.length + us.length ≤ bigN)
    (k : ∀ r s', St g B c m ((r, O.list (vs ++ us)) :: H) s' → Q (.ref r) s') : wpAny (model prog w) A (binaryOp .Add (.ref a) (.ref b)) Q E s := by
  obtain ⟨xs, n, hg, hl, ha, hb, hlen⟩ := S.isList h1
  obtain ⟨ys, n2, hg2, hl2, ha2, hb2, hlen2⟩ := S.isList h2
  have hbig : bigN = 100000 := rfl
  refine concat_meets ⟨_, hg, rfl⟩ ⟨_, hg2, rfl⟩ noFill_list_add seq_list_add F.slot_list_add F.entry_list_add (F.args_list_add_2 _ _) (PyProof.Rows.list_addW a b xs.toArray ys.toArray n n2 none none #[] #[] (by
    rw [List.size_toArray, List.size_toArray, hlen, hlen2]; have := sizeLine_eq; omega)) ⟨hg, hg2, ?_⟩
  exact k _ _ (S.push ⟨by rw [List.length_append]; exact hsz, xs ++ ys, 0, by simp, ha.append ha2⟩)

theorem rep_flat {α : Type} (xs : List α) : ∀ n, (List.foldl (fun (x y : Array α) => x ++ y) #[] (List.replicate n xs.toArray)) = ((List.replicate n xs).flatten).toArray := by
  intro n
  have gen : ∀ (n : Nat) (acc : List α), List.foldl (fun (x y : Array α) => x ++ y) acc.toArray (List.replicate n xs.toArray) = (acc ++ (List.replicate n xs).flatten).toArray := by
    intro n
    induction n with
    | zero => intro acc; simp
    | succ n ih =>
      intro acc
      rw [List.replicate_succ, List.foldl_cons, List.replicate_succ, List.flatten_cons]
      have e : acc.toArray ++ xs.toArray = (acc ++ xs).toArray := by simp
      rw [e, ih, List.append_assoc]
  have := gen n []
  simpa using this

theorem AllIs.rep {vs : List V} {xs : List Value} (h : AllIs vs xs) : ∀ n, AllIs ((List.replicate n vs).flatten) ((List.replicate n xs).flatten)
  | 0 => trivial
  | n + 1 => by rw [List.replicate_succ, List.replicate_succ, List.flatten_cons, List.flatten_cons]; exact h.append (AllIs.rep h n)

/-- the ledger as real objects, for the library's rules over Fr and News -/
theorem St.news (S : St g B c m H s) : ∃ objs : List (Addr × Obj), PyProof.Rows.News B c.L s.heap objs ∧ ∀ p ∈ H, ∃ ob, (p.1, ob) ∈ objs ∧ p.2.Is ob := by
  have gen : ∀ H' : Led, (∀ p ∈ H', p ∈ H) → ∃ objs : List (Addr × Obj), PyProof.Rows.News B c.L s.heap objs ∧ ∀ p ∈ H', ∃ ob, (p.1, ob) ∈ objs ∧ p.2.Is ob := by
    intro H'
    induction H' with
    | nil => exact fun _ => ⟨[], ⟨(fun p hp => by cases hp), fun p hp => by cases hp⟩⟩
    | cons p r ih =>
      intro hs
      obtain ⟨objs, h1, h2⟩ := ih fun q hq => hs q (.tail _ hq)
      obtain ⟨⟨ob, a1, a2⟩, a3, a4⟩ := S.led p (hs p (.head _))
      refine ⟨(p.1, ob) :: objs, fun q hq => ?_, fun q hq => ?_⟩
      · rcases List.mem_cons.mp hq with rfl | hq
        · exact ⟨a1, a3, a4⟩
        · exact h1 q hq
      · rcases List.mem_cons.mp hq with rfl | hq
        · exact ⟨ob, .head _, a2⟩
        · obtain ⟨ob', b1, b2⟩ := h2 q hq
          exact ⟨ob', .tail _ b1, b2⟩
  exact gen H fun _ h => h

theorem St.fresh (S : St g B c m H s) {r : Addr} (hr : s.heap.objs.size ≤ r) : r ∉ H.map (·.1) := fun q => by
  obtain ⟨p, hp, e⟩ := List.mem_map.mp q
  obtain ⟨⟨ob, h1, _⟩, _⟩ := S.led p hp
  have := Heap.lt_size h1
  have e' : p.1 = r := e
  rw [e'] at this
  exact absurd this (Nat.not_lt.mpr hr)

theorem St.close {h' : Heap} {tk : Nat} {mm : Str → Option Value} {objs : List (Addr × Obj)} {r : Addr} {o' : O} {ob : Obj} (S : St g B c m H s) (hM : MIs m mm) (hobj : ∀ p ∈ H, ∃ ob, (p.1, ob) ∈ objs ∧ p.2.Is ob)
    (F : PyProof.Rows.Fr B c.L h' mm) (N : PyProof.Rows.News B c.L h' ((r, ob) :: objs)) (ho : o'.Is ob) (hr : s.heap.objs.size ≤ r) : St g B c m ((r, o') :: H) { s with heap := h', toks := tk } := by
  refine ⟨S.same, ⟨mm, F, hM⟩, fun p hp => ?_, ?_, S.kx⟩
  · rcases List.mem_cons.mp hp with rfl | hp
    · have := N (r, ob) (.head _)
      exact ⟨⟨ob, this.1, ho⟩, this.2⟩
    · obtain ⟨ob', b1, b2⟩ := hobj p hp
      have := N _ (.tail _ b1)
      exact ⟨⟨ob', this.1, b2⟩, this.2⟩
  · rw [List.map_cons, List.nodup_cons]
    exact ⟨S.fresh hr, S.nd⟩
theorem St.close0 {h' : Heap} {tk : Nat} {mm : Str → Option Value} {objs : List (Addr × Obj)} (S : St g B c m H s) (hM : MIs m mm) (hobj : ∀ p ∈ H, ∃ ob, (p.1, ob) ∈ objs ∧ p.2.Is ob)
    (F : PyProof.Rows.Fr B c.L h' mm) (N : PyProof.Rows.News B c.L h' objs) : St g B c m H { s with heap := h', toks := tk } := by
  refine ⟨S.same, ⟨mm, F, hM⟩, fun p hp => ?_, S.nd, S.kx⟩
  obtain ⟨ob', b1, b2⟩ := hobj p hp
  have := N _ b1
  exact ⟨⟨ob', this.1, b2⟩, this.2⟩

theorem bo_rep {a : Addr} {vs : List V} {n : Int} {t : Tok} {Q : Value → Shared → Prop} (S : St g B c m H s) (h1 : (a, O.list vs) ∈ H) (hne : vs ≠ []) (hn : n < 2 ^ 63) (hn0 : -(2 ^ 63) ≤ n) (hsz : vs.length * n.toNat ≤ bigN)
    (k : ∀ r s', St g B c m ((r, O.list ((List.replicate n.toNat vs).flatten)) :: H) s' → Q (.ref r) s') : wpAny (model prog w) A (binaryOp .Mult (.ref a) (.int n t)) Q E s := by
  obtain ⟨xs, q, hg, hl, ha, hb, hlen⟩ := S.isList h1
  have hbig : bigN = 100000 := rfl
  obtain ⟨mm, F, hM⟩ := id S.fr
  obtain ⟨objs, N, hobj⟩ := S.news
  refine PyProof.Rows.mul_list F N hg hn0 hn (by rw [List.size_toArray, hlen]; omega) fun h' F' N' => ?_
  have hne' : (xs.toArray.isEmpty) = false := by
    cases xs with
    | nil => cases vs with
      | nil => exact absurd rfl hne
      | cons => simp at hlen
    | cons => rfl
  rw [hne', if_neg (by simp), rep_flat] at N'
  refine k _ _ (S.close hM hobj F' N' ⟨?_, _, 0, rfl, ha.rep _⟩ (Nat.le_refl _))
  rw [List.length_flatten]
  simp
  rw [Nat.mul_comm]; exact hsz
end
end

section
open PySem PySem.Calls
open PyProof.Rows (IntsAre)
structure AOk (A : Around) (n : Nat) : Prop where
  hd : A.handled = none
  dp : A.depth + n < 1000
  un : A.units + 20 * n + 200 < 9900

theorem AOk.deeper {A : Around} {n : Nat} (h : AOk A (n + 1)) (env : Env) : AOk (A.deeper env) n := by
  obtain ⟨a, b, d⟩ := h
  exact ⟨a, by show A.depth + 1 + n < 1000; omega, by show A.units + 3 + 20 * n + 200 < 9900; omega⟩
theorem AOk.le {A : Around} {n k : Nat} (h : AOk A n) (hk : k ≤ n) : AOk A k := ⟨h.hd, by have := h.dp; omega, by have := h.un; omega⟩

section
variable {prog : Program} {w : World} {g s : Shared} {B : Heap} {c : Cx} {m : Loc} {H : Led} {A : Around} {E : Value → Shared → Prop} {γ : Gl}

/-! a call of a def -/

theorem zip_is {vs : List V} {vals : List Value} : ∀ {ps : List Str}, AllIs vs vals → ps.Nodup → ∀ p ∈ ps.zip vs, p.2.Is ((ps.zip vals).reverse.lookup p.1) := by
  intro ps ha nd p hp
  have key : ∀ {ps : List Str} {vs : List V} {vals : List Value}, AllIs vs vals → ps.Nodup → ∀ p ∈ ps.zip vs, ∃ x, (p.1, x) ∈ ps.zip vals ∧ p.2.Is (some x) := by
    intro ps
    induction ps with
    | nil => intro vs vals _ _ p hp; simp at hp
    | cons y ys ih =>
      intro vs vals ha nd p hp
      match vs, vals, ha with
      | v :: vs, x :: xs, ha =>
        rw [List.zip_cons_cons] at hp
        rcases List.mem_cons.mp hp with rfl | hp
        · exact ⟨x, .head _, ha.1⟩
        · obtain ⟨z, h1, h2⟩ := ih ha.2 (List.nodup_cons.mp nd).2 p hp
          exact ⟨z, .tail _ h1, h2⟩
      | [], _, _ => simp at hp
  obtain ⟨x, h1, h2⟩ := key ha nd p hp
  have lk : ∀ {l : List (Str × Value)}, (l.map (·.1)).Nodup → (p.1, x) ∈ l → l.lookup p.1 = some x := by
    intro l
    induction l with
    | nil => intro _ h; cases h
    | cons q r ih =>
      intro nd h
      obtain ⟨q1, q2⟩ := q
      rw [List.map_cons, List.nodup_cons] at nd
      rw [List.lookup_cons]
      rcases List.mem_cons.mp h with e | h
      · cases e; simp
      · have hne : (p.1 == q1) = false := by
          cases e : p.1 == q1 with
          | false => rfl
          | true =>
            have e' : p.1 = q1 := beq_iff_eq.mp e
            exact absurd (e' ▸ List.mem_map_of_mem (f := (·.1)) h) nd.1
        rw [hne]; exact ih nd.2 h
  have nd2 : ((ps.zip vals).reverse.map (·.1)).Nodup := by
    rw [List.map_reverse]
    have rv : ∀ {l : List Str}, l.Nodup → l.reverse.Nodup := fun h => by simpa [List.Nodup, List.pairwise_reverse, ne_comm] using h
    refine rv ?_
    have sub : ((ps.zip vals).map (·.1)).Sublist ps := by
      have : ∀ (ps : List Str) (vals : List Value), ((ps.zip vals).map (·.1)).Sublist ps := by
        intro ps
        induction ps with
        | nil => intro vals; simp
        | cons y ys ih =>
          intro vals
          cases vals with
          | nil => simp
          | cons x xs => rw [List.zip_cons_cons, List.map_cons]; exact (ih xs).cons₂ _
      exact this ps vals
    exact sub.nodup nd
  rw [lk nd2 (List.mem_reverse.mpr h1)]
  exact h2

theorem enter {f : Addr} {d : DefRec} {vals : List Value} {vs : List V} {n : Nat} {Post : Value → Led → Prop} (G : GW γ B) (hfn : IsFn B f d) (hA : AOk A (n + 1)) (S : LS g B H s) (ps ls gs : List Str) (hv : AllIs vs vals) (hpl : ps.length = vals.length)
    (hbind : ∀ pm code doc, bindArgs (docDef d.name d.params d.body d.scope pm code doc) ⟨vals, []⟩ = pure (ps.zip vals))
    (hcell : (d.scope.names.all fun x => decide (x.2 ≠ .cell)) = true)
    (hgs : (gs.all fun x => decide (d.scope.names.lookup x = some .globalImplicit) && !(x == ("__debug__" : Str))) = true)
    (hls : ((ps ++ ls).all fun x => decide (d.scope.names.lookup x = some .local) && !(x == ("__debug__" : Str))) = true) (hnd : (ps ++ ls).Nodup)
    (hco : d.scope.isCoroutine = false) (hgen : d.scope.isGenerator = false) (hk : d.scope.kind = .function)
    (h : ∀ (c : Cx) (A' : Around) s₁, c.gs = gs → c.cs = [] → c.env.scope = d.scope → AOk A' n → St g B c (ps.zip vs ++ ls.map fun x => (x, V.any)) H s₁ →
      wpAny (model prog w) A' (execs d.body c.env) (fun fl s' => ∃ c' m' H', St g B c' m' H' s' ∧ Post (match fl with | .ret v => v | _ => .none) H') NoE s₁) :
    wpAny (model prog w) A (call (.ref f) vals) (fun v s' => ∃ H', LS g B H' s' ∧ Post v H') E s := by
  obtain ⟨o, pm, code, doc, h1, h2, h3⟩ := hfn
  have lo : ∀ x ∈ ps ++ ls, d.scope.names.lookup x = some .local ∧ (x == ("__debug__" : Str)) = false := fun x hx => by
    have := List.all_eq_true.mp hls x hx
    rw [Bool.and_eq_true] at this
    exact ⟨of_decide_eq_true this.1, by simpa using this.2⟩
  have keys : ((ps.zip vs ++ ls.map fun x => (x, V.any)).map (·.1)) = ps ++ ls := by
    rw [List.map_append, List.map_map]
    congr 1
    · rw [List.map_fst_zip]; rw [hpl, hv.length]; exact Nat.le_refl _
    · have e : ((fun (x : Str × V) => x.1) ∘ fun x => (x, V.any)) = id := rfl
      rw [e, List.map_id]
  refine wpAny_call (codeAny_call_plain (fd := docDef d.name d.params d.body d.scope pm code doc) (body := d.body) (binds := ps.zip vals) (by have := hA.dp; show A.depth < 1000; omega) (S.base _ _ h1) h2 (G.nolimit.keeps S.base) (h3.keeps S.base) rfl (hbind pm code doc)
    (fun x hx => by have := List.all_eq_true.mp hcell x hx; simpa using this) (fun x hx => (lo x.1 (List.mem_append_left _ (List.of_mem_zip hx).1)).1) (fun h₀ hns hk₀ => ?_) hco hgen hk)
  have hlt : ∀ b o, s.heap.get? b = some o → b < s.heap.objs.size := fun b o e => Heap.lt_size e
  have S1 : St g B ⟨callEnv (docDef d.name d.params d.body d.scope pm code doc) s.heap.objs.size f, gs, []⟩ (ps.zip vs ++ ls.map fun x => (x, V.any)) H { s with heap := h₀, toks := s.toks + (ps.zip vals).length } := by
    refine ⟨S.same, ⟨_, ⟨hns, fun b o e => hk₀ _ _ (S.base b o e), S.size⟩, by rw [keys]; exact hnd, fun p hp => ?_⟩, fun p hp => ?_, S.nd, ⟨rfl, rfl, hk, fun x hx => ?_, fun x hx => ?_, fun p hp => nomatch hp⟩⟩
    · rcases List.mem_append.mp hp with hp | hp
      · exact zip_is hv (List.nodup_append.mp hnd).1 p hp
      · obtain ⟨x, _, rfl⟩ := List.mem_map.mp hp
        trivial
    · obtain ⟨⟨ob, a1, a2⟩, a3⟩ := S.led p hp
      exact ⟨⟨ob, hk₀ _ _ a1, a2⟩, Nat.ne_of_lt (hlt _ _ a1), a3⟩
    · have := List.all_eq_true.mp hgs x hx
      rw [Bool.and_eq_true] at this
      exact ⟨of_decide_eq_true this.1, by simpa using this.2⟩
    · rw [keys] at hx; exact lo x hx
  refine wpAny_mono (h ⟨callEnv (docDef d.name d.params d.body d.scope pm code doc) s.heap.objs.size f, gs, []⟩ _ _ rfl rfl rfl (hA.deeper _) S1) (fun fl s' hp => ?_) (fun _ _ e => e.elim)
  obtain ⟨c', m', H', S', P⟩ := hp
  exact ⟨H', S'.ls, P⟩

/-- what a def does, told once for all callers -/
noncomputable def Spec (prog : Program) (w : World) (g : Shared) (γ : Gl) (n : Nat) (f : Value) (vals : List Value) (H : Led) (Post : Value → Led → Prop) : Prop :=
  ∀ (A : Around) (s : Shared) (B : Heap), AOk A n → GW γ B → LS g B H s → wpAny (model prog w) A (call f vals) (fun v s' => ∃ H', LS g B H' s' ∧ Post v H') NoE s

theorem Spec.use {n k : Nat} {f : Value} {vals : List Value} {Post : Value → Led → Prop} {Q : Value → Shared → Prop} (C : Spec prog w g γ n f vals H Post)
    (G : GW γ B) (hA : AOk A k) (hk : n ≤ k) (S : St g B c m H s) (h : ∀ v s' H', St g B c m H' s' → Post v H' → Q v s') : wpAny (model prog w) A (call f vals) Q E s :=
  call_frame S (fun B' hB L' => C A s B' (hA.le hk) (G.keeps hB) L') h

/-- a global def called by its name -/
theorem ev_call {x : Str} {p p' : Pos} (i : Nat) {e : Expr} {es : List Expr} {Q : Value → Shared → Prop} (G : GW γ B) (S : St g B c m H s) (hx : x ∈ c.gs) (hi : i ∈ γ.ix) (hn : (γ.D i).name = x)
    (h : ∀ s', St g B c m H s' → wpAny (model prog w) A (spliced (backTo p' (starEach (e :: es) c.env))) (fun vs s₁ => (∃ c' m' H', St g B c' m' H' s₁) ∧ wpAny (model prog w) A (call (.ref (γ.fa i)) vs) Q E s₁) E s')
    (he : starEach (e :: es) c.env = (false, eval e c.env) :: starEach es c.env := by rfl) :
    wpAny (model prog w) A (eval (.Call (.Name x p) (e :: es) [] p') c.env) Q E s := by
  refine wpAny_Call_Name_kw ?_
  have hk := S.base
  obtain ⟨hg, o, pm, code, doc, h1, h2, h3⟩ := G.fn i hi
  rw [hn] at hg
  refine Name_function_global S.kx.kind (S.kx.gl x hx).1 ?_ (S.kx.gl x hx).2
  refine loadGlobal_global (mg := γ.mg) (by rw [S.kx.glo]; exact G.g.keeps hk) hg ?_
  refine callWith_function (o := o) (fd := docDef (γ.D i).name (γ.D i).params (γ.D i).body (γ.D i).scope pm code doc) ?_
  have := h s S
  rw [he] at this ⊢
  refine evalArgs_plain (wpAny_mono this (fun vs s₁ hq => ?_) fun _ _ e => e)
  obtain ⟨⟨c', m', H', S'⟩, hq⟩ := hq
  exact ⟨⟨S'.base _ _ h1, h2⟩, by simpa using hq⟩
/-- .. with pure arguments -/
theorem ev_callP {x : Str} {p p' : Pos} (i : Nat) {e : Expr} {es : List Expr} {vs : List V} {Q : Value → Shared → Prop} (G : GW γ B) (S : St g B c m H s) (hx : x ∈ c.gs) (hi : i ∈ γ.ix) (hn : (γ.D i).name = x) (P : PXs c m H (e :: es) vs)
    (h : ∀ xs s', AllIs vs xs → St g B c m H s' → wpAny (model prog w) A (call (.ref (γ.fa i)) xs) Q E s')
    (he : starEach (e :: es) c.env = (false, eval e c.env) :: starEach es c.env := by rfl) :
    wpAny (model prog w) A (eval (.Call (.Name x p) (e :: es) [] p') c.env) Q E s :=
  ev_call i G S hx hi hn (fun s' S' => pxs G P S' fun xs s1 ha S1 => ⟨⟨_, _, _, S1⟩, h xs s1 ha S1⟩) he

/-- a def called through a local name -/
theorem ev_callL {x : Str} {p p' : Pos} (i : Nat) {e : Expr} {es : List Expr} {Q : Value → Shared → Prop} (G : GW γ B) (S : St g B c m H s) (hx : PX c m H false (.Name x p) (.val (.ref (γ.fa i)))) (hi : i ∈ γ.ix)
    (h : ∀ s', St g B c m H s' → wpAny (model prog w) A (spliced (backTo p' (starEach (e :: es) c.env))) (fun vs s₁ => (∃ c' m' H', St g B c' m' H' s₁) ∧ wpAny (model prog w) A (call (.ref (γ.fa i)) vs) Q E s₁) E s')
    (he : starEach (e :: es) c.env = (false, eval e c.env) :: starEach es c.env := by rfl) :
    wpAny (model prog w) A (eval (.Call (.Name x p) (e :: es) [] p') c.env) Q E s := by
  refine wpAny_Call_Name_kw (px_u G S hx fun s' S' => ?_)
  obtain ⟨hg, o, pm, code, doc, h1, h2, h3⟩ := G.fn i hi
  refine callWith_function (o := o) (fd := docDef (γ.D i).name (γ.D i).params (γ.D i).body (γ.D i).scope pm code doc) ?_
  have := h s' S'
  rw [he] at this ⊢
  refine evalArgs_plain (wpAny_mono this (fun vs s₁ hq => ?_) fun _ _ e => e)
  obtain ⟨⟨c', m', H', S'⟩, hq⟩ := hq
  exact ⟨⟨S'.base _ _ h1, h2⟩, by simpa using hq⟩
theorem ev_callLP {x : Str} {p p' : Pos} (i : Nat) {e : Expr} {es : List Expr} {vs : List V} {Q : Value → Shared → Prop} (G : GW γ B) (S : St g B c m H s) (hx : PX c m H false (.Name x p) (.val (.ref (γ.fa i)))) (hi : i ∈ γ.ix) (P : PXs c m H (e :: es) vs)
    (h : ∀ xs s', AllIs vs xs → St g B c m H s' → wpAny (model prog w) A (call (.ref (γ.fa i)) xs) Q E s')
    (he : starEach (e :: es) c.env = (false, eval e c.env) :: starEach es c.env := by rfl) :
    wpAny (model prog w) A (eval (.Call (.Name x p) (e :: es) [] p') c.env) Q E s :=
  ev_callL i G S hx hi (fun s' S' => pxs G P S' fun xs s1 ha S1 => ⟨⟨_, _, _, S1⟩, h xs s1 ha S1⟩) he

/-! tuples taken apart -/

theorem unpk {t : Addr} {vs : List V} {n : Nat} {Q : List Value → Shared → Prop} (hA : A.handled = none) (S : St g B c m H s) (hm : (t, O.tup vs) ∈ H) (hn : n = vs.length) (k : ∀ xs s', AllIs vs xs → St g B c m H s' → Q xs s') :
    wpAny (model prog w) A (unpackItems (.ref t) n none) Q E s := by
  obtain ⟨xs, q, hg, hl, ha, hb, hlen⟩ := S.isTup hm
  have e : n = xs.toArray.size := by rw [List.size_toArray, hlen, hn]
  subst e
  refine PyProof.Rows.unpackItems_tuple hA hl fun h' he => ?_
  refine k xs _ ha (S.others (tk := s.toks) fun b o e hb => he b o ?_ e)
  exact Nat.ne_of_lt (Heap.lt_size e)

theorem asg_name {x : Str} {p : Pos} {v : V} {m' : Loc} {val : Value} {Q : Unit → Shared → Prop} (S : St g B c m H s) (hp : Put m x v m') (hv : v.Is (some val)) (k : ∀ s', St g B c m' H s' → Q () s') :
    wpAny (model prog w) A (assign (.Name x p) c.env val) Q E s := wpAny_assign_Name (st_loc S hp hv k)

theorem asg_two {x y : Str} {px py p : Pos} {q : Nat} {t : Addr} {v u : V} {m1 m2 : Loc} {Q : Unit → Shared → Prop} (hA : A.handled = none) (S : St g B c m H s) (hm : (t, O.tup [v, u]) ∈ H) (h1 : Put m x v m1) (h2 : Put m1 y u m2)
    (k : ∀ s', St g B c m2 H s' → Q () s') : wpAny (model prog w) A (assign (.Tuple [.Name x px, .Name y py] q p) c.env (.ref t)) Q E s := by
  show wpAny (model prog w) A (do standAt p; PySem.unpack (.ref t) (assignEach [.Name x px, .Name y py] c.env)) Q E s
  refine wpAny_bind (wpAny_standAt ?_)
  unfold PySem.unpack
  refine wpAny_bind (wpAny_holding ?_)
  show wpAny (model prog w) A (unpackItems (.ref t) 2 none) _ _ _
  refine unpk hA S hm rfl fun xs s' ha S' => ?_
  obtain ⟨a, b, rfl, ha1, ha2⟩ := ha.l2
  ·
    show wpAny (model prog w) A (do holding [b] (assign (.Name x px) c.env a); (do holding [] (assign (.Name y py) c.env b); pure ())) Q E s'
    exact wpAny_bind (wpAny_holding (asg_name S' h1 ha1 fun s2 S2 => wpAny_bind (wpAny_holding (asg_name S2 h2 ha2 fun s3 S3 => wpAny_pure (k s3 S3)))))

/-- x, y = <a tuple that is no display> -/
theorem x_two {x y : Str} {px py tp p : Pos} {q : Nat} {e : Expr} {rest : List Stmt} {Q : Flow → Shared → Prop} (hA : A.handled = none)
    (h : wpAny (model prog w) A (eval e c.env) (fun val s₁ => ∃ t v u H1 m1 m2, val = .ref t ∧ St g B c m H1 s₁ ∧ (t, O.tup [v, u]) ∈ H1 ∧ Put m x v m1 ∧ Put m1 y u m2 ∧ ∀ s', St g B c m2 H1 s' → wpAny (model prog w) A (execs rest c.env) Q E s') E s)
    (hs : swapsWithSole [.Tuple [.Name x px, .Name y py] q tp] e p.line c.env = pure false := by rfl) (hw : swappedStores [.Tuple [.Name x px, .Name y py] q tp] e c.env = pure none := by rfl) :
    wpAny (model prog w) A (execs (.Assign [.Tuple [.Name x px, .Name y py] q tp] e p :: rest) c.env) Q E s := by
  refine wpAny_execs_cons (PyProof.Rows.Assign_Tuple (wpAny_mono h (fun val s₁ hq => ?_) fun _ _ e => e) hs hw)
  obtain ⟨t, v, u, H1, m1, m2, rfl, S1, hm, h1, h2, k⟩ := hq
  exact asg_two hA S1 hm h1 h2 k

noncomputable def isStarX : Expr → Bool
  | .Starred .. => true
  | _ => false

theorem swap2 {x y : Str} {px py tp vp : Pos} {q q' : Nat} {e1 e2 : Expr} (hk : Kx c (m.map (·.1))) (hx : x ∈ m.map (·.1)) (hy : y ∈ m.map (·.1)) (hne : (x == y) = false) (hl : (px.line == py.line) = true)
    (hf : ([e1, e2].all (foldedForSure 8)) = false) (hc : ([e1, e2].all (constantsAlone 8)) = false) (hst : ([e1, e2].any isStarX) = false) :
    swappedStores [.Tuple [.Name x px, .Name y py] q tp] (.Tuple [e1, e2] q' vp) c.env = pure (some [x, y]) := by
  unfold swappedStores
  have hb : (c.env.blockKind != .function) = false := by unfold Env.blockKind; rw [hk.kind]; rfl
  have k1 := (hk.lo x hx).1
  have k2 := (hk.lo y hy).1
  have l2 : (py.line == px.line) = true := by rw [beq_iff_eq] at hl ⊢; exact hl.symm
  have hd : ([x, y] : List Str).eraseDups = [x, y] := by
    have : (y == x) = false := by
      cases e : (y == x) with
      | false => rfl
      | true => rw [beq_iff_eq] at e; rw [e] at hne; simp at hne
    simp [List.eraseDups_cons, this]
  simp only [hb, hf, hc, k1, k2, l2, hd, List.filterMap_cons, List.filterMap_nil, Expr.pos, List.head?_cons, Option.map_some, Option.getD_some, beq_self_eq_true, Bool.and_self, if_true, List.length_cons, List.length_nil, Bool.or_false, Bool.false_or, Bool.or_self, Bool.false_eq_true, if_false, bne_self_eq_false, Nat.reduceAdd, Nat.reduceBEq, Bool.not_true]
  split
  · rename_i hh
    simp only [List.any_cons, List.any_nil, Bool.or_false, Bool.or_eq_true] at hh
    rcases hh with hh | hh <;> (split at hh <;> simp_all [isStarX])
  · rfl

/-- x, y = e1, e2 -/
theorem x_swap2 {x y : Str} {px py tp vp p : Pos} {q q' : Nat} {e1 e2 : Expr} {rest : List Stmt} {Q : Flow → Shared → Prop} (hA : A.handled = none) (S : St g B c m H s)
    (h : wpAny (model prog w) A (spliced (backTo vp (starEach [e1, e2] c.env))) (fun xs s₁ => ∃ H1 v u m1 m2, St g B c m H1 s₁ ∧ AllIs [v, u] xs ∧ Put m y u m1 ∧ Put m1 x v m2 ∧ ∀ s', St g B c m2 H1 s' → wpAny (model prog w) A (execs rest c.env) Q E s') E s)
    (hx : x ∈ m.map (·.1)) (hy : y ∈ m.map (·.1)) (hne : (x == y) = false) (hl : (px.line == py.line) = true)
    (hf : ([e1, e2].all (foldedForSure 8)) = false) (hc : ([e1, e2].all (constantsAlone 8)) = false) (hst : ([e1, e2].any isStarX) = false)
    (hs : swapsWithSole [.Tuple [.Name x px, .Name y py] q tp] (.Tuple [e1, e2] q' vp) p.line c.env = pure false := by rfl) :
    wpAny (model prog w) A (execs (.Assign [.Tuple [.Name x px, .Name y py] q tp] (.Tuple [e1, e2] q' vp) p :: rest) c.env) Q E s := by
  refine wpAny_execs_cons (PyProof.Rows.Assign_Tuple_swapped (names := [x, y]) (ev_Tuple (wpAny_mono h (fun xs s₁ hq => ?_) fun _ _ e => e)) hs (swap2 S.kx hx hy hne hl hf hc hst))
  obtain ⟨H1, v, u, m1, m2, S1, ha, h1, h2, k⟩ := hq
  refine ev_newTuple S1 ha (by simp [bigN]) fun r s2 S2 => ?_
  refine unpk hA S2 (.head _) rfl fun ys s3 hb S3 => ?_
  obtain ⟨a, b, rfl, hb1, hb2⟩ := hb.l2
  ·
    show wpAny (model prog w) A (do holding [a] (bindName c.env y b); (do holding [] (bindName c.env x a); pure ())) _ E s3
    exact wpAny_bind (wpAny_holding (wpAny_bindName (st_loc S3 h1 hb2 fun s4 S4 => wpAny_bind (wpAny_holding (wpAny_bindName (st_loc S4 h2 hb1 fun s5 S5 => wpAny_pure (k s5 S5.tail)))))))

theorem swap3 {x y z : Str} {px py pz tp vp : Pos} {q q' : Nat} {e1 e2 e3 : Expr} (hk : Kx c (m.map (·.1))) (hx : x ∈ m.map (·.1)) (hy : y ∈ m.map (·.1)) (hz : z ∈ m.map (·.1)) (hne : (x == y) = false) (hne2 : (x == z) = false) (hne3 : (y == z) = false) (hl : (px.line == py.line) = true) (hl2 : (px.line == pz.line) = true)
    (hf : ([e1, e2, e3].all (foldedForSure 8)) = false) (hc : ([e1, e2, e3].all (constantsAlone 8)) = false) (hst : ([e1, e2, e3].any isStarX) = false) :
    swappedStores [.Tuple [.Name x px, .Name y py, .Name z pz] q tp] (.Tuple [e1, e2, e3] q' vp) c.env = pure (some [x, y, z]) := by
  unfold swappedStores
  have hb : (c.env.blockKind != .function) = false := by unfold Env.blockKind; rw [hk.kind]; rfl
  have k1 := (hk.lo x hx).1
  have k2 := (hk.lo y hy).1
  have k3 := (hk.lo z hz).1
  have l2 : (py.line == px.line) = true := by rw [beq_iff_eq] at hl ⊢; exact hl.symm
  have l3 : (pz.line == px.line) = true := by rw [beq_iff_eq] at hl2 ⊢; exact hl2.symm
  have sym : ∀ a b : Str, (a == b) = false → (b == a) = false := fun a b h => by
    cases e : (b == a) with
    | false => rfl
    | true => rw [beq_iff_eq] at e; rw [e] at h; simp at h
  have hd : ([x, y, z] : List Str).eraseDups = [x, y, z] := by
    simp [List.eraseDups_cons, sym _ _ hne, sym _ _ hne2, sym _ _ hne3]
  simp only [hb, hf, hc, k1, k2, k3, l2, l3, hd, List.filterMap_cons, List.filterMap_nil, Expr.pos, List.head?_cons, Option.map_some, Option.getD_some, beq_self_eq_true, Bool.and_self, if_true, List.length_cons, List.length_nil, Bool.or_false, Bool.false_or, Bool.or_self, Bool.false_eq_true, if_false, bne_self_eq_false, Nat.reduceAdd, Nat.reduceBEq, Bool.not_true, Bool.or_true]
  split
  · rename_i hh
    simp only [List.any_cons, List.any_nil, Bool.or_false, Bool.or_eq_true] at hh
    rcases hh with hh | hh | hh <;> (split at hh <;> simp_all [isStarX])
  · rfl

/-- x, y, z = e1, e2, e3 -/
theorem x_swap3 {x y z : Str} {px py pz tp vp p : Pos} {q q' : Nat} {e1 e2 e3 : Expr} {rest : List Stmt} {Q : Flow → Shared → Prop} (hA : A.handled = none) (S : St g B c m H s)
    (h : wpAny (model prog w) A (spliced (backTo vp (starEach [e1, e2, e3] c.env))) (fun xs s₁ => ∃ H1 v u t m1 m2 m3, St g B c m H1 s₁ ∧ AllIs [v, u, t] xs ∧ Put m z t m1 ∧ Put m1 y u m2 ∧ Put m2 x v m3 ∧ ∀ s', St g B c m3 H1 s' → wpAny (model prog w) A (execs rest c.env) Q E s') E s)
    (hx : x ∈ m.map (·.1)) (hy : y ∈ m.map (·.1)) (hz : z ∈ m.map (·.1)) (hne : (x == y) = false) (hne2 : (x == z) = false) (hne3 : (y == z) = false) (hl : (px.line == py.line) = true) (hl2 : (px.line == pz.line) = true)
    (hf : ([e1, e2, e3].all (foldedForSure 8)) = false) (hc : ([e1, e2, e3].all (constantsAlone 8)) = false) (hst : ([e1, e2, e3].any isStarX) = false)
    (hs : swapsWithSole [.Tuple [.Name x px, .Name y py, .Name z pz] q tp] (.Tuple [e1, e2, e3] q' vp) p.line c.env = pure false := by rfl) :
    wpAny (model prog w) A (execs (.Assign [.Tuple [.Name x px, .Name y py, .Name z pz] q tp] (.Tuple [e1, e2, e3] q' vp) p :: rest) c.env) Q E s := by
  refine wpAny_execs_cons (PyProof.Rows.Assign_Tuple_swapped (names := [x, y, z]) (ev_Tuple (wpAny_mono h (fun xs s₁ hq => ?_) fun _ _ e => e)) hs (swap3 S.kx hx hy hz hne hne2 hne3 hl hl2 hf hc hst))
  obtain ⟨H1, v, u, t, m1, m2, m3, S1, ha, h1, h2, h3, k⟩ := hq
  refine ev_newTuple S1 ha (by simp [bigN]) fun r s2 S2 => ?_
  refine unpk hA S2 (.head _) rfl fun ys s3 hb S3 => ?_
  obtain ⟨a, b, d, rfl, hb1, hb2, hb3⟩ := hb.l3
  ·
    show wpAny (model prog w) A (do holding [b, a] (bindName c.env z d); (do holding [a] (bindName c.env y b); (do holding [] (bindName c.env x a); pure ()))) _ E s3
    exact wpAny_bind (wpAny_holding (wpAny_bindName (st_loc S3 h1 hb3 fun s4 S4 => wpAny_bind (wpAny_holding (wpAny_bindName (st_loc S4 h2 hb2 fun s5 S5 => wpAny_bind (wpAny_holding (wpAny_bindName (st_loc S5 h3 hb1 fun s6 S6 => wpAny_pure (k s6 S6.tail))))))))))
end
end

section
open PySem PySem.Calls
open PyProof.Rows (IntsAre)
section
variable {prog : Program} {w : World} {g s : Shared} {B : Heap} {c : Cx} {m : Loc} {H : Led} {A : Around} {E : Value → Shared → Prop} {γ : Gl}

/-- an iterator as the loops see it -/
structure Itr (prog : Program) (w : World) (A : Around) (g : Shared) (B : Heap) (c : Cx) (tgt : Expr) (I : Addr) (n : Nat) (its : Nat → Led) (upd : Nat → Loc → Loc → Prop) (cond : Led → Prop) : Prop where
  item : ∀ i m m' H s, i < n → cond H → St g B c m (its i ++ H) s → upd i m m' →
    wpAny (model prog w) A (pyNext (.ref I)) (fun r s₁ => ∃ v, r = some v ∧ wpAny (model prog w) A (letOwnedTupleGo tgt (.ref I) v) (fun _ s₂ => wpAny (model prog w) A (assign tgt c.env v) (fun _ s₃ => St g B c m' (its (i + 1) ++ H) s₃) NoE s₂) NoE s₁) NoE s
  done : ∀ m H s, cond H → St g B c m (its n ++ H) s → wpAny (model prog w) A (pyNext (.ref I)) (fun r s' => r = none ∧ St g B c m H s') NoE s

theorem for_core {σ : Type} {tgt : Expr} {I : Addr} {n : Nat} {its : Nat → Led} {upd : Nat → Loc → Loc → Prop} {cond : Led → Prop} {body : List Stmt} {R : Result → Shared → Prop} (T : Itr prog w A g B c tgt I n its upd cond)
    (M : σ → Loc) (M' : Nat → σ → Loc) (Hf : σ → Led) (P : Nat → σ → Prop) (hc : ∀ i σ, P i σ → cond (Hf σ)) (hu : ∀ i σ, upd i (M σ) (M' i σ)) {σ₀ : σ} (S : St g B c (M σ₀) (its 0 ++ Hf σ₀) s) (h0 : P 0 σ₀)
    (turn : ∀ i σ s, i < n → P i σ → St g B c (M' i σ) (its (i + 1) ++ Hf σ) s → wpAny (model prog w) A (execs body c.env) (fun f s' => match f with
      | .next | .cont => ∃ σ', St g B c (M σ') (its (i + 1) ++ Hf σ') s' ∧ P (i + 1) σ'
      | .brk => R (.ok .next) s'
      | .ret v => R (.ok (.ret v)) s') NoE s)
    (exit : ∀ σ s, P n σ → St g B c (M σ) (Hf σ) s → R (.ok .next) s) : codeAny (model prog w) A (.forLoop tgt (.ref I) body [] c.env) R s := by
  refine codeAny_forLoop_any (fun k s' => ∃ i σ, k = n - i ∧ i ≤ n ∧ P i σ ∧ St g B c (M σ) (its i ++ Hf σ) s') ?_ n ⟨0, σ₀, rfl, Nat.zero_le _, h0, S⟩
  rintro k s' ⟨i, σ, rfl, hi, hP, S'⟩
  by_cases hlt : i < n
  · refine wpAny_mono (T.item i _ _ _ _ hlt (hc i σ hP) S' (hu i σ)) (fun r s₁ hr => ?_) (fun _ _ e => e.elim)
    obtain ⟨v, rfl, hr⟩ := hr
    refine wpAny_mono hr (fun _ s₂ h2 => wpAny_mono h2 (fun _ s₃ S3 => ?_) (fun _ _ e => e.elim)) (fun _ _ e => e.elim)
    refine wpAny_mono (turn i σ s₃ hlt hP S3) (fun f s₄ hf => ?_) (fun _ _ e => e.elim)
    cases f with
    | next => obtain ⟨σ', S4, P4⟩ := hf; exact ⟨n - (i + 1), by omega, i + 1, σ', rfl, hlt, P4, S4⟩
    | cont => obtain ⟨σ', S4, P4⟩ := hf; exact ⟨n - (i + 1), by omega, i + 1, σ', rfl, hlt, P4, S4⟩
    | brk => exact hf
    | ret v => exact hf
  · have e : i = n := by omega
    subst e
    refine wpAny_mono (T.done _ _ _ (hc i σ hP) S') (fun r s₁ hr => ?_) (fun _ _ e => e.elim)
    obtain ⟨rfl, S1⟩ := hr
    exact wpAny_execs_nil (exit σ s₁ hP S1)

/-- a for statement over what iter gives, for the loop rule -/
theorem x_for {tgt iter : Expr} {body : List Stmt} {p : Pos} {rest : List Stmt} {Q : Flow → Shared → Prop}
    (h : wpAny (model prog w) A (eval iter c.env) (fun x s₁ => wpAny (model prog w) A (pyIter x) (fun it s₂ =>
      codeAny (model prog w) A (.forLoop tgt it body [] c.env) (fun r s' => match r with | .ok .next => wpAny (model prog w) A (execs rest c.env) Q E s' | .ok f => Q f s' | .error e => False) s₂) E s₁) E s)
    (hs : ∀ x, foldedSetIterable iter c.env x = pure x := by intro _; rfl) : wpAny (model prog w) A (execs (.For tgt iter body [] p :: rest) c.env) Q E s := by
  refine wpAny_execs_cons (wpAny_For (wpAny_mono h (fun x s₁ h1 => wpAny_mono h1 (fun it s₂ h2 => codeAny_mono h2 (fun r s' hr => ?_)) (fun _ _ e => e)) (fun _ _ e => e)) hs)
  match r, hr with
  | .ok .next, hr => exact hr
  | .ok .brk, hr => exact hr
  | .ok .cont, hr => exact hr
  | .ok (.ret v), hr => exact hr

/-! ranges -/

noncomputable def rangeIt (x left step : Int) : O := .obj { cls := .type "range_iterator", dict := none, data := .fields #[rawInt x, rawInt left, rawInt step], slots := #[] }

theorem itr_range (hA : A.handled = none) (I : Addr) (x : Str) (px : Pos) (a step : Int) (n : Nat) :
    Itr prog w A g B c (.Name x px) I n (fun i => [(I, rangeIt (a + i * step) (n - i) step)]) (fun i m m' => Put m x (.int (a + i * step)) m') (fun _ => True) where
  item := fun i m m' H s hi _ S hu => by
    obtain ⟨ob, h1, h2⟩ := S.get (.head _)
    have h2' : ob = _ := h2
    subst h2'
    refine wpAny_pyNext_range_item h1 (by omega) fun h' hit hs => ⟨_, rfl, ?_⟩
    have S1 := S.turn (tk := s.toks + 1) (H' := (I, rangeIt (a + (i : Int) * step + step) ((n : Int) - (i : Int) - 1) step) :: H) .head hs hit rfl
    refine wpAny_pure ?_
    refine asg_name S1 hu ⟨_, rfl⟩ fun s2 S2 => ?_
    have e1 : a + (i : Int) * step + step = a + ((i + 1 : Nat) : Int) * step := by rw [Int.natCast_add, Int.add_mul]; omega
    have e2 : (n : Int) - (i : Int) - 1 = (n : Int) - ((i + 1 : Nat) : Int) := by omega
    rw [e1, e2] at S2
    exact S2
  done := fun m H s _ S => by
    obtain ⟨ob, h1, h2⟩ := S.get (.head _)
    have h2' : ob = _ := h2
    subst h2'
    refine wpAny_pyNext_range_end hA h1 (by omega) fun h' he => ⟨rfl, ?_⟩
    have nd := S.nd
    have hI := (S.led _ (.head _))
    refine S.tail.others (tk := s.toks) fun b o e hb => he b o (fun q => ?_) e
    subst q
    rcases hb with hb | hb | hb
    · rw [hI.2.2] at hb; cases hb
    · exact hI.2.1 hb
    · simp only [List.cons_append, List.nil_append, List.map_cons, List.nodup_cons] at nd
      exact nd.1 hb

/-- a built-in called by its name with pure arguments -/
theorem ev_args {f : Value} {e : Expr} {es : List Expr} {vs : List V} {p' : Pos} {Q : Args → Shared → Prop} (G : GW γ B) (S : St g B c m H s) (P : PXs c m H (e :: es) vs) (k : ∀ xs s', AllIs vs xs → St g B c m H s' → Q ⟨xs, []⟩ s') :
    wpAny (model prog w) A (evalArgs f true (backTo p' (starEach (e :: es) c.env)) []) Q E s := by
  have h := fun (Q : List Value → Shared → Prop) => pxs (A := A) (E := E) (prog := prog) (w := w) (p := p') (Q := Q) G P S
  cases P with
  | cons P1 P2 hs =>
    rw [hs] at h ⊢
    exact evalArgs_plain (h _ fun xs s' ha S' => k xs s' ha S')

theorem ev_type {x : Str} {T : String} {e : Expr} {es : List Expr} {vs : List V} {p p' : Pos} {Q : Value → Shared → Prop} (G : GW γ B) (S : St g B c m H s) (hx : x ∈ c.gs) (hu : x ∈ usedBuiltins) (hb : bootBuiltins x = some (.type T)) (hn : x ≠ "__name__") (P : PXs c m H (e :: es) vs)
    (k : ∀ xs s', AllIs vs xs → St g B c m H s' → wpAny (model prog w) A (call (.type T) xs) Q E s') : wpAny (model prog w) A (eval (.Call (.Name x p) (e :: es) [] p') c.env) Q E s := by
  refine wpAny_Call_Name_kw (ld_builtin G S hx hu hb hn ?_)
  have hp : (backTo p' (starEach (e :: es) c.env)).any (·.1) = false := by
    have : ∀ {es : List Expr} {vs : List V}, PXs c m H es vs → (backTo p' (starEach es c.env)).any (·.1) = false := by
      intro es vs P
      induction P with
      | nil => rfl
      | cons _ _ hs ih => rw [hs]; simpa [backTo] using ih
    exact this P
  refine callWith_type hp (ev_args G S P fun xs s' ha S' => ?_)
  simpa using k xs s' ha S'

theorem ev_builtin {x : Str} {id : String} {e : Expr} {es : List Expr} {vs : List V} {p p' : Pos} {Q : Value → Shared → Prop} (G : GW γ B) (S : St g B c m H s) (hx : x ∈ c.gs) (hu : x ∈ usedBuiltins) (hb : bootBuiltins x = some (.builtin id)) (hn : x ≠ "__name__") (P : PXs c m H (e :: es) vs)
    (k : ∀ xs s', AllIs vs xs → St g B c m H s' → wpAny (model prog w) A (call (.builtin id) xs) Q E s') : wpAny (model prog w) A (eval (.Call (.Name x p) (e :: es) [] p') c.env) Q E s := by
  refine wpAny_Call_Name_kw (ld_builtin G S hx hu hb hn ?_)
  have hp : (backTo p' (starEach (e :: es) c.env)).any (·.1) = false := by
    have : ∀ {es : List Expr} {vs : List V}, PXs c m H es vs → (backTo p' (starEach es c.env)).any (·.1) = false := by
      intro es vs P
      induction P with
      | nil => rfl
      | cons _ _ hs ih => rw [hs]; simpa [backTo] using ih
    exact this P
  refine callWith_builtin hp (ev_args G S P fun xs s' ha S' => ?_)
  simpa using k xs s' ha S'

/-- the iterator of a range, from its ends and its step -/
theorem ev_range1 {e1 : Expr} {p p' : Pos} {b : Int} {Q : Value → Shared → Prop} (G : GW γ B) (S : St g B c m H s) (hr : Str.ofString "range" ∈ c.gs) (P : PXs c m H [e1] [.int b]) (hb : b.natAbs < 2 ^ 61)
    (k : ∀ I s', St g B c m ((I, rangeIt 0 (b.toNat : Nat) 1) :: H) s' → Q (.ref I) s') :
    wpAny (model prog w) A (eval (.Call (.Name (Str.ofString "range") p) [e1] [] p') c.env) (fun x s₁ => wpAny (model prog w) A (pyIter x) Q E s₁) E s := by
  refine ev_type G S hr (by decide) boot_range' (by decide) P fun xs s1 ha S1 => ?_
  obtain ⟨t1, rfl⟩ := ha.i1
  ·
    refine call_range_1 ?_
    have S2 := (S1.push' { cls := .type "range", data := .fields #[.int 0 s1.toks, .int b t1, .int 1 (s1.toks + 1)] }).toks (s1.toks + 1 + 1)
    refine wpAny_pyIter_range (IsRange.new ..) (small_one (by omega) (by omega) (by omega) (by omega)) ?_
    refine k _ _ (S2.push ?_)
    rw [rangeSize_one, show (if (0 : Int) < b then b - 0 else 0) = ((b.toNat : Nat) : Int) from by split <;> omega]
    rfl
theorem ev_range2 {e1 e2 : Expr} {p p' : Pos} {a b : Int} {Q : Value → Shared → Prop} (G : GW γ B) (S : St g B c m H s) (hr : Str.ofString "range" ∈ c.gs) (P : PXs c m H [e1, e2] [.int a, .int b]) (ha : a.natAbs < 2 ^ 61) (hb : b.natAbs < 2 ^ 61)
    (k : ∀ I s', St g B c m ((I, rangeIt a ((b - a).toNat : Nat) 1) :: H) s' → Q (.ref I) s') :
    wpAny (model prog w) A (eval (.Call (.Name (Str.ofString "range") p) [e1, e2] [] p') c.env) (fun x s₁ => wpAny (model prog w) A (pyIter x) Q E s₁) E s := by
  refine ev_type G S hr (by decide) boot_range' (by decide) P fun xs s1 hx S1 => ?_
  obtain ⟨t1, t2, rfl⟩ := hx.i2
  ·
    refine call_range_2 ?_
    have S2 := (S1.push' { cls := .type "range", data := .fields #[.int a t1, .int b t2, .int 1 s1.toks] }).toks (s1.toks + 1)
    refine wpAny_pyIter_range (IsRange.new ..) (small_one (by omega) (by omega) (by omega) (by omega)) ?_
    refine k _ _ (S2.push ?_)
    rw [rangeSize_one, show (if a < b then b - a else 0) = (((b - a).toNat : Nat) : Int) from by split <;> omega]
    rfl
theorem ev_range3 {e1 e2 e3 : Expr} {p p' : Pos} {a b : Int} {Q : Value → Shared → Prop} (G : GW γ B) (S : St g B c m H s) (hr : Str.ofString "range" ∈ c.gs) (P : PXs c m H [e1, e2, e3] [.int a, .int b, .int (-1)]) (ha : a.natAbs < 2 ^ 61) (hb : b.natAbs < 2 ^ 61)
    (k : ∀ I s', St g B c m ((I, rangeIt a ((a - b).toNat : Nat) (-1)) :: H) s' → Q (.ref I) s') :
    wpAny (model prog w) A (eval (.Call (.Name (Str.ofString "range") p) [e1, e2, e3] [] p') c.env) (fun x s₁ => wpAny (model prog w) A (pyIter x) Q E s₁) E s := by
  refine ev_type G S hr (by decide) boot_range' (by decide) P fun xs s1 hx S1 => ?_
  obtain ⟨t1, t2, t3, rfl⟩ := hx.i3
  ·
    refine call_range_3 (by decide) ?_ (.inl (PyProof.noPylong_small (by decide)))
    have S2 := (S1.push' { cls := .type "range", data := .fields #[.int a t1, .int b t2, .int (-1) t3] }).toks s1.toks
    refine wpAny_pyIter_range (IsRange.new ..) (PySem.W.small_down (by omega) (by omega) (by omega) (by omega)) ?_
    refine k _ _ (S2.push ?_)
    rw [PySem.W.rangeSize_downNat]
    rfl

/-! lists -/

noncomputable def listIt (l : Addr) (i : Nat) : O := .pred fun o => o.cls = .type "list_iterator" ∧ o.data = .fields #[.ref l, .int i 0]

theorem itr_list (hA : A.handled = none) (I l : Addr) (vs : List V) (x : Str) (px : Pos) :
    Itr prog w A g B c (.Name x px) I vs.length (fun i => [(I, listIt l i)]) (fun i m m' => ∀ v, vs[i]? = some v → Put m x v m') (fun H => (l, O.list vs) ∈ H) where
  item := fun i m m' H s hi hc S hu => by
    obtain ⟨ob, h1, h2, h3⟩ := S.get (.head _)
    have S0 := S
    obtain ⟨xs, n, hg, hl, ha, hb, hlen⟩ := S.isList (.tail _ hc)
    have hx : vs[i]? = some vs[i] := List.getElem?_eq_getElem hi
    obtain ⟨y, hy1, hy2⟩ := ha.get hx
    refine wpAny_pyNext_list_item (x := y) ⟨ob, h1, h2, h3⟩ hl (by simpa using hy1) fun h' hit hs => ⟨y, rfl, ?_⟩
    obtain ⟨ob', g1, g2, g3⟩ := hit
    have S1 := S.turn (tk := s.toks) (H' := (I, listIt l (i + 1)) :: H) .head hs g1 ⟨g2, g3⟩
    refine wpAny_pure ?_
    exact asg_name S1 (hu _ hx) hy2 fun s2 S2 => S2
  done := fun m H s hc S => by
    obtain ⟨ob, h1, h2, h3⟩ := S.get (.head _)
    obtain ⟨xs, n, hg, hl, ha, hb, hlen⟩ := S.isList (.tail _ hc)
    refine wpAny_pyNext_list_end hA ⟨ob, h1, h2, h3⟩ hl (by simp [hlen]) fun h' he => ⟨rfl, ?_⟩
    have nd := S.nd
    have hI := (S.led _ (.head _))
    refine S.tail.others (tk := s.toks) fun b o e hb => he b o (fun q => ?_) e
    subst q
    rcases hb with hb | hb | hb
    · rw [hI.2.2] at hb; cases hb
    · exact hI.2.1 hb
    · simp only [List.cons_append, List.nil_append, List.map_cons, List.nodup_cons] at nd
      exact nd.1 hb

theorem iter_list {l : Addr} {vs : List V} {Q : Value → Shared → Prop} (S : St g B c m H s) (hm : (l, O.list vs) ∈ H) (k : ∀ I s', St g B c m ((I, listIt l 0) :: H) s' → Q (.ref I) s') :
    wpAny (model prog w) A (pyIter (.ref l)) Q E s := by
  obtain ⟨xs, n, hg, hl, ha, hb, hlen⟩ := S.isList hm
  exact wpAny_pyIter_list hl (k _ _ (S.push ⟨rfl, rfl⟩))

/-! enumerate -/

noncomputable def enumIt (e it : Addr) (i : Nat) : O := .pred fun o => ∃ old, o = { cls := .type "enumerate", dict := none, data := .fields #[.none, .bool false, .ref it, rawInt i, .none, old], slots := #[] }

theorem itr_enum (hA : A.handled = none) (e it l : Addr) (vs : List V) (x y : Str) (px py p : Pos) (q : Nat) :
    Itr prog w A g B c (.Tuple [.Name x px, .Name y py] q p) e vs.length (fun i => [(e, enumIt e it i), (it, listIt l i)]) (fun i m m' => ∀ v, vs[i]? = some v → ∃ m1, Put m x (.int i) m1 ∧ Put m1 y v m') (fun H => (l, O.list vs) ∈ H) where
  item := fun i m m' H s hi hc S hu => by
    obtain ⟨ob, h1, old, h2⟩ := S.get (.head _)
    subst h2
    obtain ⟨ob2, k1, k2, k3⟩ := S.get (.tail _ (.head _))
    obtain ⟨xs, n, hg, hl, ha, hb, hlen⟩ := S.isList (.tail _ (.tail _ hc))
    have hx : vs[i]? = some vs[i] := List.getElem?_eq_getElem hi
    obtain ⟨m1, hu1, hu2⟩ := hu _ hx
    obtain ⟨z, hy1, hy2⟩ := ha.get hx
    have nd := S.nd
    simp only [List.cons_append, List.nil_append, List.map_cons, List.nodup_cons, List.mem_cons, not_or] at nd
    have hne : e ≠ it := nd.1.1
    refine wpAny_pyNext_enum_item (x := z) h1 ⟨ob2, k1, k2, k3⟩ hl (by simpa using hy1) hne fun h' he hit hT hsz hk => ⟨_, rfl, ?_⟩
    refine wpAny_letOwnedTupleGo_enum he fun h'' he2 hs2 => ?_
    obtain ⟨ob', g1, g2, g3⟩ := hit
    have hI := S.led _ (.head _)
    have hJ := S.led _ (.tail _ (.head _))
    have hlt1 := Heap.lt_size h1
    -- the state with the two iterators and the new tuple
    have S1 : St g B c m ((s.heap.objs.size, O.tup [.int i, vs[i]]) :: (e, enumIt e it (i + 1)) :: (it, listIt l (i + 1)) :: H) { s with heap := h'', toks := s.toks + 1 } := by
      have Sb := S.tail.tail
      have up : ∀ b o, s.heap.get? b = some o → b ≠ e → b ≠ it → h''.get? b = some o := fun b o e1 n1 n2 => (hs2.2 b n1).trans (hk b o n1 n2 e1)
      have notI : ∀ b, ((B.get? b).isSome ∨ b = c.L ∨ b ∈ H.map (·.1)) → b ≠ e ∧ b ≠ it := fun b hb => by
        refine ⟨?_, ?_⟩
        · rintro rfl
          rcases hb with hb | hb | hb
          · rw [hI.2.2] at hb; cases hb
          · exact hI.2.1 hb
          · exact nd.1.2 hb
        · rintro rfl
          rcases hb with hb | hb | hb
          · rw [hJ.2.2] at hb; cases hb
          · exact hJ.2.1 hb
          · exact nd.2.1 hb
      have S2 := Sb.others (h' := h'') (tk := s.toks + 1) fun b o e1 hb => up b o e1 (notI b hb).1 (notI b hb).2
      have hTn : s.heap.objs.size ≠ e := Nat.ne_of_gt hlt1
      refine ⟨S2.same, S2.fr, fun p hp => ?_, ?_, S2.kx⟩
      · rcases List.mem_cons.mp hp with rfl | hp
        · refine ⟨⟨_, (hs2.2 _ hTn).trans hT, ⟨by simp [bigN], [_, z], 0, rfl, ⟨_, rfl⟩, hy2, trivial⟩⟩, Nat.ne_of_gt S.lt, ?_⟩
          cases qq : B.get? s.heap.objs.size with
          | none => rfl
          | some o' => exact absurd (Heap.lt_size (S.base _ _ qq)) (Nat.lt_irrefl _)
        rcases List.mem_cons.mp hp with rfl | hp
        · exact ⟨⟨_, he2, z, rfl⟩, hI.2⟩
        rcases List.mem_cons.mp hp with rfl | hp
        · exact ⟨⟨ob', (hs2.2 _ (Ne.symm hne)).trans g1, g2, g3⟩, hJ.2⟩
        · exact S2.led p hp
      · have nd0 := S.nd
        simp only [List.cons_append, List.nil_append, List.map_cons] at nd0
        rw [List.map_cons, List.nodup_cons]
        refine ⟨?_, nd0⟩
        have := S.fresh (Nat.le_refl s.heap.objs.size)
        simpa only [List.cons_append, List.nil_append, List.map_cons] using this
    refine asg_two hA S1 (.head _) hu1 hu2 fun s3 S3 => S3.tail
  done := fun m H s hc S => by
    obtain ⟨ob, h1, old, h2⟩ := S.get (.head _)
    subst h2
    obtain ⟨ob2, k1, k2, k3⟩ := S.get (.tail _ (.head _))
    obtain ⟨xs, n, hg, hl, ha, hb, hlen⟩ := S.isList (.tail _ (.tail _ hc))
    have nd := S.nd
    simp only [List.cons_append, List.nil_append, List.map_cons, List.nodup_cons, List.mem_cons, not_or] at nd
    have hJ := S.led _ (.tail _ (.head _))
    refine wpAny_pyNext_enum_end hA h1 ⟨ob2, k1, k2, k3⟩ hl (by simp [hlen]) fun h' he => ⟨rfl, ?_⟩
    refine S.tail.tail.others (tk := s.toks) fun b o e1 hb => he b o ?_ e1
    rintro rfl
    rcases hb with hb | hb | hb
    · rw [hJ.2.2] at hb; cases hb
    · exact hJ.2.1 hb
    · exact nd.2.1 hb

theorem ev_enum {e1 : Expr} {p p' : Pos} {l : Addr} {vs : List V} {Q : Value → Shared → Prop} (G : GW γ B) (S : St g B c m H s) (hr : Str.ofString "enumerate" ∈ c.gs) (P : PXs c m H [e1] [.val (.ref l)]) (hm : (l, O.list vs) ∈ H)
    (k : ∀ e it s', St g B c m ((e, enumIt e it 0) :: (it, listIt l 0) :: H) s' → Q (.ref e) s') :
    wpAny (model prog w) A (eval (.Call (.Name (Str.ofString "enumerate") p) [e1] [] p') c.env) (fun x s₁ => wpAny (model prog w) A (pyIter x) Q E s₁) E s := by
  refine ev_type G S hr (by decide) boot_enumerate (by decide) P fun xs s1 hx S1 => ?_
  obtain ⟨x1, rfl, h1⟩ := hx.l1
  ·
    cases h1
    obtain ⟨xs, n, hg, hl, ha, hb, hlen⟩ := S1.isList hm
    refine call_enumerate_1 hg fun h' he hit hsz hk => ?_
    refine wpAny_pyIter_enum he ?_
    obtain ⟨ob', g1, g2, g3⟩ := hit
    have S2 := S1.keeps (h' := h') (tk := s1.toks) hk
    refine k _ s1.heap.objs.size _ ⟨S2.same, S2.fr, fun p hp => ?_, ?_, S2.kx⟩
    · have off : ∀ a, s1.heap.objs.size ≤ a → a ≠ c.L ∧ B.get? a = none := fun a hle => by
        refine ⟨Nat.ne_of_gt (Nat.lt_of_lt_of_le S1.lt hle), ?_⟩
        cases qq : B.get? a with
        | none => rfl
        | some o' => exact absurd (Heap.lt_size (S1.base _ _ qq)) (Nat.not_lt.mpr hle)
      rcases List.mem_cons.mp hp with rfl | hp
      · exact ⟨⟨_, he, _, rfl⟩, off _ (Nat.le_succ _)⟩
      rcases List.mem_cons.mp hp with rfl | hp
      · exact ⟨⟨ob', g1, g2, g3⟩, off _ (Nat.le_refl _)⟩
      · exact S2.led p hp
    · rw [List.map_cons, List.nodup_cons, List.map_cons, List.nodup_cons, List.mem_cons, not_or]
      exact ⟨⟨Nat.succ_ne_self _, S1.fresh (Nat.le_succ _)⟩, S1.fresh (Nat.le_refl _), S1.nd⟩

/-! while -/

theorem while_core {σ : Type} {t : Expr} {body : List Stmt} {R : Result → Shared → Prop} (M : σ → Loc) (Hf : σ → Led) (P : σ → Prop) (μ : σ → Nat) {σ₀ : σ} (S : St g B c (M σ₀) (Hf σ₀) s) (h0 : P σ₀)
    (turn : ∀ σ s, P σ → St g B c (M σ) (Hf σ) s → wpAny (model prog w) A (isTrue t c.env (eval t c.env)) (fun b s₂ => if b then wpAny (model prog w) A (execs body c.env) (fun f s' => match f with
      | .next | .cont => ∃ σ', St g B c (M σ') (Hf σ') s' ∧ P σ' ∧ μ σ' < μ σ
      | .brk => R (.ok .next) s'
      | .ret v => R (.ok (.ret v)) s') NoE s₂ else R (.ok .next) s₂) NoE s) : codeAny (model prog w) A (.whileLoop t body [] c.env) R s := by
  refine codeAny_whileLoop (fun k s' => ∃ σ, k = μ σ ∧ P σ ∧ St g B c (M σ) (Hf σ) s') ?_ (μ σ₀) ⟨σ₀, rfl, h0, S⟩
  rintro k s' ⟨σ, rfl, hP, S'⟩
  refine wpAny_mono (turn σ s' hP S') (fun b s₂ h2 => ?_) (fun _ _ e => e.elim)
  cases b with
  | false => exact wpAny_execs_nil h2
  | true =>
    refine wpAny_mono h2 (fun f s₃ hf => ?_) (fun _ _ e => e.elim)
    cases f with
    | next => obtain ⟨σ', S4, P4, hm⟩ := hf; exact ⟨_, hm, σ', rfl, P4, S4⟩
    | cont => obtain ⟨σ', S4, P4, hm⟩ := hf; exact ⟨_, hm, σ', rfl, P4, S4⟩
    | brk => exact hf
    | ret v => exact hf

theorem x_while {t : Expr} {body : List Stmt} {p : Pos} {rest : List Stmt} {Q : Flow → Shared → Prop}
    (h : codeAny (model prog w) A (.whileLoop t body [] c.env) (fun r s' => match r with | .ok .next => wpAny (model prog w) A (execs rest c.env) Q E s' | .ok f => Q f s' | .error e => False) s) :
    wpAny (model prog w) A (execs (.While t body [] p :: rest) c.env) Q E s := by
  refine wpAny_execs_cons (wpAny_While (codeAny_mono h (fun r s' hr => ?_)))
  match r, hr with
  | .ok .next, hr => exact hr
  | .ok .brk, hr => exact hr
  | .ok .cont, hr => exact hr
  | .ok (.ret v), hr => exact hr
end
end

section
open PySem PySem.Calls
open PyProof.Rows (IntsAre)
section
variable {prog : Program} {w : World} {g s : Shared} {B : Heap} {c : Cx} {m : Loc} {H : Led} {A : Around} {E : Value → Shared → Prop} {γ : Gl}

theorem PX.itemI {o i : Expr} {p : Pos} {a : Addr} {k : Int} {ns : List Int} (P1 : PX c m H false o (.val (.ref a))) (P2 : PX c m H false i (.int k)) (hm : (a, il ns) ∈ H) (h0 : 0 ≤ k) (h1 : k < ns.length)
    (hs : ∀ x y, subscripted i false x y = operate [x, y] (getItem x y)) : PX c m H false (.Subscript o i p) (.int (ns.getD k.toNat 0)) :=
  PX.item (vs := ns.map V.int) P1 P2 hm h0 (getI (by omega)) hs
theorem PX.itemNI {o i : Expr} {p : Pos} {a : Addr} {k : Int} {ns : List Int} (P1 : PX c m H false o (.val (.ref a))) (P2 : PX c m H false i (.int k)) (hm : (a, il ns) ∈ H) (h0 : k < 0) (h1 : -(ns.length : Int) ≤ k)
    (hs : ∀ x y, subscripted i false x y = operate [x, y] (getItem x y)) : PX c m H false (.Subscript o i p) (.int (ns.getD (k + ns.length).toNat 0)) :=
  PX.itemN (vs := ns.map V.int) P1 P2 hm h0 (by rw [il_length]; exact h1) (by rw [il_length]; exact getI (by omega)) hs
theorem PX.lenI {x : Expr} {p q : Pos} {a : Addr} {ns : List Int} (hg : Str.ofString "len" ∈ c.gs) (P : PX c m H false x (.val (.ref a))) (hm : (a, il ns) ∈ H) (hs : starEach [x] = (fun env => [(false, eval x env)])) :
    PX c m H false (.Call (.Name (Str.ofString "len") p) [x] [] q) (.int ns.length) := by
  have := PX.len (p := p) (q := q) hg P hm hs
  rwa [il_length] at this

theorem x_appendI {o e : Expr} {p1 p3 p : Pos} {a : Addr} {ns : List Int} {i : Int} {H' : Led} {rest : List Stmt} {Q : Flow → Shared → Prop} (G : GW γ B) (S : St g B c m H s) (P1 : PX c m H false o (.val (.ref a))) (hm : (a, il ns) ∈ H)
    (P : PX c m H false e (.int i)) (hsz : ns.length < bigN) (hp : Put H a (il (ns ++ [i])) H')
    (k : ∀ s', St g B c m H' s' → wpAny (model prog w) A (execs rest c.env) Q E s')
    (hbase : attributeBase o (Str.ofString "append") c.env (eval o c.env) = eval o c.env := by rfl)
    (htrees : backTo p3 (starEach [e] c.env) = [(false, eval e c.env)] := by rfl)
    (hline : (p1.endLine == p3.line) = true := by rfl) (hs : swapsWith (.Call (.Attribute o (Str.ofString "append") p1) [e] [] p3) none p.line c.env = pure false := by rfl) :
    wpAny (model prog w) A (execs (.Expr (.Call (.Attribute o (Str.ofString "append") p1) [e] [] p3) p :: rest) c.env) Q E s := by
  refine x_append (vs := ns.map V.int) G S P1 hm P (by rw [il_length]; exact hsz) ?_ k hbase htrees hline (by unfold interactive; rw [S.kx.kind]; rfl) hs
  have e : O.list (ns.map V.int ++ [V.int i]) = il (ns ++ [i]) := by simp [il]
  rw [e]; exact hp

theorem x_setI {o i e : Expr} {p' p : Pos} {a : Addr} {ns : List Int} {kk x : Int} {H' : Led} {rest : List Stmt} {Q : Flow → Shared → Prop} (G : GW γ B) (S : St g B c m H s) (P : PX c m H false e (.int x)) (P1 : PX c m H false o (.val (.ref a)))
    (P2 : PX c m H false i (.int kk)) (hm : (a, il ns) ∈ H) (h0 : 0 ≤ kk) (h1 : kk < ns.length) (hp : Put H a (il (ns.set kk.toNat x)) H')
    (k : ∀ s', St g B c m H' s' → wpAny (model prog w) A (execs rest c.env) Q E s')
    (hs : swapsWith e (some (.Subscript o i p')) p.line c.env = pure false := by rfl) :
    wpAny (model prog w) A (execs (.Assign [.Subscript o i p'] e p :: rest) c.env) Q E s := by
  refine x_setitem (vs := ns.map V.int) G S P P1 P2 hm h0 (by rw [il_length]; exact h1) ?_ k hs
  have e : O.list ((ns.map V.int).set kk.toNat (V.int x)) = il (ns.set kk.toNat x) := by simp [il, List.map_set]
  rw [e]; exact hp

theorem ev_sliceI {o : Expr} {lo hi : Option Expr} {l u : Option Int} {p p' : Pos} {a : Addr} {ns : List Int} {Q : Value → Shared → Prop} (G : GW γ B) (S : St g B c m H s) (P : PX c m H false o (.val (.ref a))) (hm : (a, il ns) ∈ H) (P1 : PE c m H lo l) (P2 : PE c m H hi u)
    (h1 : ∀ i, l = some i → 0 ≤ i) (h2 : ∀ i, u = some i → 0 ≤ i) (k : ∀ r s', St g B c m ((r, il (cutL ns l u)) :: H) s' → Q (.ref r) s') :
    wpAny (model prog w) A (eval (.Subscript o (.Slice lo hi none p) p') c.env) Q E s :=
  ev_slice (vs := ns.map V.int) G S P hm P1 P2 h1 h2 fun r s' S' => by
    rw [cutL_map] at S'; exact k r s' S'

/-- a slice of what an expression gives -/
theorem ev_sliceG {o : Expr} {lo hi : Option Expr} {p p' : Pos} {Q : Value → Shared → Prop}
    (h : wpAny (model prog w) A (eval o c.env) (fun v s₁ => ∃ a ns H1 l u, v = .ref a ∧ St g B c m H1 s₁ ∧ GW γ B ∧ (a, il ns) ∈ H1 ∧ PE c m H1 lo l ∧ PE c m H1 hi u ∧ (∀ i, l = some i → 0 ≤ i) ∧ (∀ i, u = some i → 0 ≤ i) ∧
      ∀ r s', St g B c m ((r, il (cutL ns l u)) :: H1) s' → Q (.ref r) s') E s) :
    wpAny (model prog w) A (eval (.Subscript o (.Slice lo hi none p) p') c.env) Q E s := by
  refine PyProof.Rows.Subscript_ (wpAny_mono h (fun v s₁ hq => ?_) fun _ _ e => e)
  obtain ⟨a, ns, H1, l, u, rfl, S1, G, hm, P1, P2, h1, h2, k⟩ := hq
  refine ev_Slice G S1 P1 P2 fun vl vu s2 hl hu S2 => tail_slice (vs := ns.map V.int) S2 hm hl hu h1 h2 fun r s' S' => ?_
  rw [cutL_map] at S'; exact k r s' S'

theorem bo_concatI {a b : Addr} {ns ms : List Int} {Q : Value → Shared → Prop} (S : St g B c m H s) (h1 : (a, il ns) ∈ H) (h2 : (b, il ms) ∈ H) (hsz : ns.length + ms.length ≤ bigN)
    (k : ∀ r s', St g B c m ((r, il (ns ++ ms)) :: H) s' → Q (.ref r) s') : wpAny (model prog w) A (binaryOp .Add (.ref a) (.ref b)) Q E s :=
  bo_concat (vs := ns.map V.int) (us := ms.map V.int) S h1 h2 (by rw [il_length, il_length]; exact hsz) fun r s' S' => by
    rw [← List.map_append] at S'; exact k r s' S'

theorem rep_one {α : Type} (v : α) : ∀ n, (List.replicate n [v]).flatten = List.replicate n v
  | 0 => rfl
  | n + 1 => by rw [List.replicate_succ, List.flatten_cons, rep_one v n]; rfl

theorem bo_rep1 {a : Addr} {x : Int} {n : Nat} {t : Tok} {Q : Value → Shared → Prop} (S : St g B c m H s) (h1 : (a, il [x]) ∈ H) (hsz : n ≤ bigN)
    (k : ∀ r s', St g B c m ((r, il (List.replicate n x)) :: H) s' → Q (.ref r) s') : wpAny (model prog w) A (binaryOp .Mult (.ref a) (.int (n : Int) t)) Q E s := by
  have hbig : bigN = 100000 := rfl
  refine bo_rep (vs := [V.int x]) S h1 (by simp) (by omega) (by omega) (by simp; omega) fun r s' S' => ?_
  rw [Int.toNat_natCast, rep_one, ← List.map_replicate (f := V.int)] at S'
  exact k r s' S'

theorem ev_listI {es : List Expr} {ns : List Int} {p : Pos} {Q : Value → Shared → Prop} (G : GW γ B) (S : St g B c m H s) (P : PXs c m H es (ns.map V.int)) (hsz : ns.length ≤ bigN) (k : ∀ r s', St g B c m ((r, il ns) :: H) s' → Q (.ref r) s') :
    wpAny (model prog w) A (eval (.List es p) c.env) Q E s := ev_listP G S P (by rw [il_length]; exact hsz) k

theorem PX.more {mode : Bool} {e : Expr} {v : V} {H' : Led} (P : PX c m H mode e v) (hs : ∀ p ∈ H, p ∈ H') : PX c m H' mode e v := by
  induction P with
  | nameI h => exact .nameI h
  | nameV h => exact .nameV h
  | nameCI h1 h2 => exact .nameCI h1 (hs _ h2)
  | nameCV h1 h2 => exact .nameCV h1 (hs _ h2)
  | int => exact .int
  | none => exact .none
  | bin _ _ h a b => exact .bin a b h
  | neg _ a => exact .neg a
  | item _ _ h1 h2 h3 h4 a b => exact .item a b (hs _ h1) h2 h3 h4
  | itemN _ _ h1 h2 h3 h4 h5 a b => exact .itemN a b (hs _ h1) h2 h3 h4 h5
  | itemT _ _ h1 h2 h3 h4 a b => exact .itemT a b (hs _ h1) h2 h3 h4
  | len h1 _ h2 h3 a => exact .len h1 a (hs _ h2) h3
  | iteT _ _ a b => exact .iteT a b
  | iteF _ _ a b => exact .iteF a b
  | ite _ _ _ a b c => exact .ite a b c
  | cmp _ _ h1 h2 a b => exact .cmp a b h1 h2
  | or2v _ _ a b => exact .or2v a b
  | and2 _ _ a b => exact .and2 a b
  | or2 _ _ a b => exact .or2 a b
  | not _ a => exact .not a
theorem PXs.more {es : List Expr} {vs : List V} {H' : Led} (P : PXs c m H es vs) (hs : ∀ p ∈ H, p ∈ H') : PXs c m H' es vs := by
  induction P with
  | nil => exact .nil
  | cons P _ h ih => exact .cons (P.more hs) ih h
/-- [x] * n -/
theorem ev_rep {x e : Expr} {i : Int} {n : Nat} {p p' : Pos} {Q : Value → Shared → Prop} (G : GW γ B) (S : St g B c m H s) (P1 : PX c m H false x (.int i)) (P2 : PX c m H false e (.int (n : Int))) (hsz : n ≤ bigN) (hs : ∀ env, starEach [x] env = [(false, eval x env)])
    (k : ∀ r s', St g B c m ((r, il (List.replicate n i)) :: H) s' → Q (.ref r) s') :
    wpAny (model prog w) A (eval (.BinOp (.List [x] p) .Mult e p') c.env) Q E s := by
  refine wpAny_BinOp (ev_listI (ns := [i]) G S (.cons P1 .nil hs) (by simp [bigN]) fun r s1 S1 => px_i G S1 (P2.more fun q hq => .tail _ hq) fun t s2 S2 => bo_rep1 S2 (.head _) hsz fun r' s3 S3 => ?_)
  refine k r' s3 (S3.mono (fun p hp => ?_) ?_)
  · rcases List.mem_cons.mp hp with rfl | hp
    · exact .head _
    · exact .tail _ (.tail _ hp)
  · have nd := S3.nd
    simp only [List.map_cons, List.nodup_cons, List.mem_cons, not_or] at nd
    rw [List.map_cons, List.nodup_cons]
    exact ⟨nd.1.2, nd.2.2⟩

/-- while, its test pure -/
theorem x_whileP {σ : Type} {t : Expr} {body : List Stmt} {p : Pos} {rest : List Stmt} {Q : Flow → Shared → Prop} (M : σ → Loc) (Hf : σ → Led) (P : σ → Prop) (μ : σ → Nat) {bb : σ → Bool} {σ₀ : σ} (G : GW γ B) (S : St g B c (M σ₀) (Hf σ₀) s) (h0 : P σ₀)
    (test : ∀ σ, P σ → PX c (M σ) (Hf σ) true t (.val (.bool (bb σ))))
    (turn : ∀ σ s, P σ → bb σ = true → St g B c (M σ) (Hf σ) s → wpAny (model prog w) A (execs body c.env) (fun f s' => match f with
      | .next | .cont => ∃ σ', St g B c (M σ') (Hf σ') s' ∧ P σ' ∧ μ σ' < μ σ
      | .brk => wpAny (model prog w) A (execs rest c.env) Q NoE s'
      | .ret v => Q (.ret v) s') NoE s)
    (exit : ∀ σ s, P σ → bb σ = false → St g B c (M σ) (Hf σ) s → wpAny (model prog w) A (execs rest c.env) Q NoE s) :
    wpAny (model prog w) A (execs (.While t body [] p :: rest) c.env) Q NoE s := by
  refine x_while (while_core M Hf P μ S h0 fun σ s1 hP S1 => px_t G S1 (test σ hP) fun s2 S2 => ?_)
  cases hb : bb σ with
  | true =>
    simp only [if_true]
    refine wpAny_mono (turn σ s2 hP hb S2) (fun f s' hf => ?_) fun _ _ e => e
    cases f <;> exact hf
  | false => exact exit σ s2 hP hb S2
theorem ite_b {b : Bool} {P Q : Prop} (h1 : b = true → P) (h2 : b = false → Q) : if b = true then P else Q := by cases b with | true => exact h1 rfl | false => exact h2 rfl

/-- while, its test any -/
theorem x_whileG {σ : Type} {t : Expr} {body : List Stmt} {p : Pos} {rest : List Stmt} {Q : Flow → Shared → Prop} (M : σ → Loc) (Hf : σ → Led) (P : σ → Prop) (μ : σ → Nat) {σ₀ : σ} (S : St g B c (M σ₀) (Hf σ₀) s) (h0 : P σ₀)
    (turn : ∀ σ s, P σ → St g B c (M σ) (Hf σ) s → wpAny (model prog w) A (isTrue t c.env (eval t c.env)) (fun b s₂ => if b then wpAny (model prog w) A (execs body c.env) (fun f s' => match f with
      | .next | .cont => ∃ σ', St g B c (M σ') (Hf σ') s' ∧ P σ' ∧ μ σ' < μ σ
      | .brk => wpAny (model prog w) A (execs rest c.env) Q NoE s'
      | .ret v => Q (.ret v) s') NoE s₂ else wpAny (model prog w) A (execs rest c.env) Q NoE s₂) NoE s) :
    wpAny (model prog w) A (execs (.While t body [] p :: rest) c.env) Q NoE s := by
  refine x_while (while_core M Hf P μ S h0 fun σ s1 hP S1 => wpAny_mono (turn σ s1 hP S1) (fun b s2 h2 => ?_) fun _ _ e => e)
  cases b with
  | false => exact h2
  | true =>
    simp only [if_true] at h2 ⊢
    refine wpAny_mono h2 (fun f s' hf => ?_) fun _ _ e => e
    cases f <;> exact hf

/-- for over a range upwards -/
theorem x_forUp {σ : Type} {x : Str} {px p p1 p2 : Pos} {e1 e2 : Expr} {body rest : List Stmt} {Q : Flow → Shared → Prop} (M : σ → V → Loc) (Hf : σ → Led) (P : Nat → σ → Prop) {a b : Int} (n : Nat) {σ₀ : σ} (G : GW γ B) (hA : A.handled = none)
    (hr : Str.ofString "range" ∈ c.gs) (S : St g B c (M σ₀ .any) (Hf σ₀) s) (h0 : P 0 σ₀) (PP : PXs c (M σ₀ .any) (Hf σ₀) [e1, e2] [.int a, .int b]) (ha : a.natAbs < 2 ^ 61) (hb : b.natAbs < 2 ^ 61) (hn : n = (b - a).toNat)
    (hu : ∀ σ v, Put (M σ .any) x v (M σ v))
    (turn : ∀ (i : Nat) σ s (I : Addr) (it : O), i < n → P i σ → St g B c (M σ (.int (a + i))) ((I, it) :: Hf σ) s → wpAny (model prog w) A (execs body c.env) (fun f s' => match f with
      | .next | .cont => ∃ σ', St g B c (M σ' .any) ((I, it) :: Hf σ') s' ∧ P (i + 1) σ'
      | .brk => wpAny (model prog w) A (execs rest c.env) Q NoE s'
      | .ret v => Q (.ret v) s') NoE s)
    (exit : ∀ σ s, P n σ → St g B c (M σ .any) (Hf σ) s → wpAny (model prog w) A (execs rest c.env) Q NoE s) :
    wpAny (model prog w) A (execs (.For (.Name x px) (.Call (.Name (Str.ofString "range") p1) [e1, e2] [] p2) body [] p :: rest) c.env) Q NoE s := by
  refine x_for (ev_range2 G S hr PP ha hb fun I s1 S1 => ?_)
  rw [← hn] at S1
  refine for_core (itr_range hA I x px a 1 n) (fun σ => M σ .any) (fun i σ => M σ (.int (a + i * 1))) Hf P (fun _ _ _ => trivial) (fun i σ => hu σ _) (σ₀ := σ₀) (by simpa using S1) h0 (fun i σ s2 hi hP S2 => ?_) (fun σ s2 hP S2 => exit σ s2 hP S2)
  rw [Int.mul_one] at S2
  refine wpAny_mono (turn i σ s2 I _ hi hP S2) (fun f s' hf => ?_) fun _ _ e => e
  cases f <;> exact hf

theorem x_forN {σ : Type} {x : Str} {px p p1 p2 : Pos} {e1 : Expr} {body rest : List Stmt} {Q : Flow → Shared → Prop} (M : σ → V → Loc) (Hf : σ → Led) (P : Nat → σ → Prop) {b : Int} (n : Nat) {σ₀ : σ} (G : GW γ B) (hA : A.handled = none)
    (hr : Str.ofString "range" ∈ c.gs) (S : St g B c (M σ₀ .any) (Hf σ₀) s) (h0 : P 0 σ₀) (PP : PXs c (M σ₀ .any) (Hf σ₀) [e1] [.int b]) (hb : b.natAbs < 2 ^ 61) (hn : n = b.toNat)
    (hu : ∀ σ v, Put (M σ .any) x v (M σ v))
    (turn : ∀ (i : Nat) σ s (I : Addr) (it : O), i < n → P i σ → St g B c (M σ (.int i)) ((I, it) :: Hf σ) s → wpAny (model prog w) A (execs body c.env) (fun f s' => match f with
      | .next | .cont => ∃ σ', St g B c (M σ' .any) ((I, it) :: Hf σ') s' ∧ P (i + 1) σ'
      | .brk => wpAny (model prog w) A (execs rest c.env) Q NoE s'
      | .ret v => Q (.ret v) s') NoE s)
    (exit : ∀ σ s, P n σ → St g B c (M σ .any) (Hf σ) s → wpAny (model prog w) A (execs rest c.env) Q NoE s) :
    wpAny (model prog w) A (execs (.For (.Name x px) (.Call (.Name (Str.ofString "range") p1) [e1] [] p2) body [] p :: rest) c.env) Q NoE s := by
  refine x_for (ev_range1 G S hr PP hb fun I s1 S1 => ?_)
  rw [← hn] at S1
  refine for_core (itr_range hA I x px 0 1 n) (fun σ => M σ .any) (fun i σ => M σ (.int (0 + i * 1))) Hf P (fun _ _ _ => trivial) (fun i σ => hu σ _) (σ₀ := σ₀) (by simpa using S1) h0 (fun i σ s2 hi hP S2 => ?_) (fun σ s2 hP S2 => exit σ s2 hP S2)
  rw [Int.mul_one, Int.zero_add] at S2
  refine wpAny_mono (turn i σ s2 I _ hi hP S2) (fun f s' hf => ?_) fun _ _ e => e
  cases f <;> exact hf

/-- for over a range downwards -/
theorem x_forDown {σ : Type} {x : Str} {px p p1 p2 : Pos} {e1 e2 e3 : Expr} {body rest : List Stmt} {Q : Flow → Shared → Prop} (M : σ → V → Loc) (Hf : σ → Led) (P : Nat → σ → Prop) {a b : Int} (n : Nat) {σ₀ : σ} (G : GW γ B) (hA : A.handled = none)
    (hr : Str.ofString "range" ∈ c.gs) (S : St g B c (M σ₀ .any) (Hf σ₀) s) (h0 : P 0 σ₀) (PP : PXs c (M σ₀ .any) (Hf σ₀) [e1, e2, e3] [.int a, .int b, .int (-1)]) (ha : a.natAbs < 2 ^ 61) (hb : b.natAbs < 2 ^ 61) (hn : n = (a - b).toNat)
    (hu : ∀ σ v, Put (M σ .any) x v (M σ v))
    (turn : ∀ (i : Nat) σ s (I : Addr) (it : O), i < n → P i σ → St g B c (M σ (.int (a - i))) ((I, it) :: Hf σ) s → wpAny (model prog w) A (execs body c.env) (fun f s' => match f with
      | .next | .cont => ∃ σ', St g B c (M σ' .any) ((I, it) :: Hf σ') s' ∧ P (i + 1) σ'
      | .brk => wpAny (model prog w) A (execs rest c.env) Q NoE s'
      | .ret v => Q (.ret v) s') NoE s)
    (exit : ∀ σ s, P n σ → St g B c (M σ .any) (Hf σ) s → wpAny (model prog w) A (execs rest c.env) Q NoE s) :
    wpAny (model prog w) A (execs (.For (.Name x px) (.Call (.Name (Str.ofString "range") p1) [e1, e2, e3] [] p2) body [] p :: rest) c.env) Q NoE s := by
  refine x_for (ev_range3 G S hr PP ha hb fun I s1 S1 => ?_)
  rw [← hn] at S1
  refine for_core (itr_range hA I x px a (-1) n) (fun σ => M σ .any) (fun i σ => M σ (.int (a + i * (-1)))) Hf P (fun _ _ _ => trivial) (fun i σ => hu σ _) (σ₀ := σ₀) (by simpa using S1) h0 (fun i σ s2 hi hP S2 => ?_) (fun σ s2 hP S2 => exit σ s2 hP S2)
  rw [show a + (i : Int) * (-1) = a - i by omega] at S2
  refine wpAny_mono (turn i σ s2 I _ hi hP S2) (fun f s' hf => ?_) fun _ _ e => e
  cases f <;> exact hf

/-- for over a list of ints -/
theorem x_forList {σ : Type} {x : Str} {px p : Pos} {e1 : Expr} {l : Addr} {ns : List Int} {body rest : List Stmt} {Q : Flow → Shared → Prop} (M : σ → V → Loc) (Hf : σ → Led) (P : Nat → σ → Prop) {σ₀ : σ} (G : GW γ B) (hA : A.handled = none)
    (S : St g B c (M σ₀ .any) (Hf σ₀) s) (h0 : P 0 σ₀) (PP : PX c (M σ₀ .any) (Hf σ₀) false e1 (.val (.ref l))) (hm : ∀ i σ, P i σ → (l, il ns) ∈ Hf σ)
    (hu : ∀ σ v, Put (M σ .any) x v (M σ v))
    (turn : ∀ (i : Nat) σ s (I : Addr) (it : O), i < ns.length → P i σ → St g B c (M σ (.int (ns.getD i 0))) ((I, it) :: Hf σ) s → wpAny (model prog w) A (execs body c.env) (fun f s' => match f with
      | .next | .cont => ∃ σ', St g B c (M σ' .any) ((I, it) :: Hf σ') s' ∧ P (i + 1) σ'
      | .brk => wpAny (model prog w) A (execs rest c.env) Q NoE s'
      | .ret v => Q (.ret v) s') NoE s)
    (exit : ∀ σ s, P ns.length σ → St g B c (M σ .any) (Hf σ) s → wpAny (model prog w) A (execs rest c.env) Q NoE s) (hs : ∀ x, foldedSetIterable e1 c.env x = pure x := by intro _; rfl) :
    wpAny (model prog w) A (execs (.For (.Name x px) e1 body [] p :: rest) c.env) Q NoE s := by
  refine x_for (px_u G S PP fun s0 S0 => iter_list (vs := ns.map V.int) S0 (hm 0 σ₀ h0) fun I s1 S1 => ?_) hs
  have T := itr_list (prog := prog) (w := w) (g := g) (B := B) (c := c) hA I l (ns.map V.int) x px
  rw [il_length] at T
  refine for_core T (fun σ => M σ .any) (fun i σ => M σ (.int (ns.getD i 0))) Hf (fun i σ => P i σ) hm (fun i σ v hv => ?_) (σ₀ := σ₀) S1 h0 (fun i σ s2 hi hP S2 => ?_) (fun σ s2 hP S2 => exit σ s2 hP S2)
  · have hi : i < ns.length := by
      rcases Nat.lt_or_ge i ns.length with h | h
      · exact h
      · rw [List.getElem?_eq_none (by rw [il_length]; exact h)] at hv; cases hv
    rw [getI (d := 0) hi] at hv
    cases hv
    exact hu σ _
  · refine wpAny_mono (turn i σ s2 I _ hi hP S2) (fun f s' hf => ?_) fun _ _ e => e
    cases f <;> exact hf

/-- for i, x in enumerate(list of ints) -/
theorem x_forEnum {σ : Type} {x y : Str} {px py tp p p1 p2 : Pos} {q : Nat} {e1 : Expr} {l : Addr} {ns : List Int} {body rest : List Stmt} {Q : Flow → Shared → Prop} (M : σ → V → V → Loc) (Hf : σ → Led) (P : Nat → σ → Prop) {σ₀ : σ} (G : GW γ B) (hA : A.handled = none)
    (hr : Str.ofString "enumerate" ∈ c.gs) (S : St g B c (M σ₀ .any .any) (Hf σ₀) s) (h0 : P 0 σ₀) (PP : PXs c (M σ₀ .any .any) (Hf σ₀) [e1] [.val (.ref l)]) (hm : ∀ i σ, P i σ → (l, il ns) ∈ Hf σ)
    (hu : ∀ σ v u, Put (M σ .any .any) x v (M σ v .any) ∧ Put (M σ v .any) y u (M σ v u))
    (turn : ∀ (i : Nat) σ s (I I' : Addr) (it it' : O), i < ns.length → P i σ → St g B c (M σ (.int i) (.int (ns.getD i 0))) ((I, it) :: (I', it') :: Hf σ) s → wpAny (model prog w) A (execs body c.env) (fun f s' => match f with
      | .next | .cont => ∃ σ', St g B c (M σ' .any .any) ((I, it) :: (I', it') :: Hf σ') s' ∧ P (i + 1) σ'
      | .brk => wpAny (model prog w) A (execs rest c.env) Q NoE s'
      | .ret v => Q (.ret v) s') NoE s)
    (exit : ∀ σ s, P ns.length σ → St g B c (M σ .any .any) (Hf σ) s → wpAny (model prog w) A (execs rest c.env) Q NoE s) :
    wpAny (model prog w) A (execs (.For (.Tuple [.Name x px, .Name y py] q tp) (.Call (.Name (Str.ofString "enumerate") p1) [e1] [] p2) body [] p :: rest) c.env) Q NoE s := by
  refine x_for (ev_enum (vs := ns.map V.int) G S hr PP (hm 0 σ₀ h0) fun e it s1 S1 => ?_)
  have T := itr_enum (prog := prog) (w := w) (g := g) (B := B) (c := c) hA e it l (ns.map V.int) x y px py tp q
  rw [il_length] at T
  refine for_core T (fun σ => M σ .any .any) (fun i σ => M σ (.int i) (.int (ns.getD i 0))) Hf (fun i σ => P i σ) hm (fun i σ v hv => ?_) (σ₀ := σ₀) S1 h0 (fun i σ s2 hi hP S2 => ?_) (fun σ s2 hP S2 => exit σ s2 hP S2)
  · have hi : i < ns.length := by
      rcases Nat.lt_or_ge i ns.length with h | h
      · exact h
      · rw [List.getElem?_eq_none (by rw [il_length]; exact h)] at hv; cases hv
    rw [getI (d := 0) hi] at hv
    cases hv
    exact ⟨_, (hu σ _ .any).1, (hu σ _ _).2⟩
  · refine wpAny_mono (turn i σ s2 _ _ _ _ hi hP S2) (fun f s' hf => ?_) fun _ _ e => e
    cases f <;> exact hf
end
end

section
open PySem PySem.Calls
/-- the i-th statement of the text, a def -/
noncomputable def dr (i : Nat) : DefRec := match PySem.Challenge.pw_sj0085_01.main.body[i]? with
  | some (.FunctionDef name a b _ _ _ sc _ _ pos) => ⟨name, a, b, sc, pos⟩
  | _ => ⟨Str.empty, ⟨[], [], none, [], [], none, []⟩, [], { kind := .function, names := [], isGenerator := false, isCoroutine := false }, default⟩

noncomputable def theIx : List Nat := [5, 6, 7, 8, 9, 10, 11, 12, 13, 14, 15, 16, 18, 20, 21, 22, 23, 25, 26, 27, 28, 29, 30, 31, 32, 34, 35, 36, 37, 38, 39, 40, 42, 43, 44, 45, 46, 47, 48, 49]

/-- our top: the defs stand where dr finds them -/
structure Top (γ : Gl) : Prop where
  D : γ.D = dr
  ix : γ.ix = theIx

noncomputable def chk (d : DefRec) (m : List Str) (gs : List Str) : Bool :=
  (d.scope.names.all fun x => decide (x.2 ≠ .cell)) &&
  (gs.all fun x => decide (d.scope.names.lookup x = some .globalImplicit) && !(x == ("__debug__" : Str))) &&
  (m.all fun x => decide (d.scope.names.lookup x = some .local) && !(x == ("__debug__" : Str))) &&
  decide (m.Nodup) && !d.scope.isCoroutine && !d.scope.isGenerator && decide (d.scope.kind = .function)

noncomputable def retOf : Flow → Value
  | .ret v => v
  | _ => .none
/-- how a body ends -/
noncomputable abbrev Ends (g : Shared) (B : Heap) (Post : Value → Led → Prop) : Flow → Shared → Prop := fun fl s' => ∃ c' m' H', St g B c' m' H' s' ∧ Post (retOf fl) H'
noncomputable abbrev EndV (g : Shared) (B : Heap) (Post : Value → Led → Prop) : Value → Shared → Prop := fun v s' => ∃ c' m' H', St g B c' m' H' s' ∧ Post v H'

section
variable {prog : Program} {w : World} {g s : Shared} {B : Heap} {c : Cx} {m : Loc} {H : Led} {A : Around} {E : Value → Shared → Prop} {γ : Gl}

/-- what the i-th def does -/
noncomputable def SpecV (prog : Program) (w : World) (g : Shared) (γ : Gl) (n i : Nat) (vs : List V) (H : Led) (Post : Value → Led → Prop) : Prop :=
  ∀ vals, AllIs vs vals → Spec prog w g γ n (.ref (γ.fa i)) vals H Post

theorem def_spec (T : Top γ) (i n : Nat) (m0 : Loc) (k : Nat) (keys gs : List Str) {vs : List V} {Post : Value → Led → Prop} {st : Stmt} {sts : List Stmt} (hbody : (dr i).body = st :: sts)
    (h : ∀ (c : Cx) (A : Around) (B : Heap) s, AOk A n → GW γ B → c.gs = gs → St g B c m0 H s →
      wpAny (model prog w) A (execs (st :: sts) c.env) (Ends g B Post) NoE s)
    (hchk : chk (dr i) keys gs = true) (hkeys : m0.map (·.1) = keys) (hvs : vs = (m0.take k).map (·.2)) (hany : (m0.drop k).map (fun p => (p.1, V.any)) = m0.drop k) (hk : k ≤ m0.length)
    (hbind : ∀ vals : List Value, vals.length = k → ∀ pm code doc, bindArgs (docDef (dr i).name (dr i).params (dr i).body (dr i).scope pm code doc) ⟨vals, []⟩ = pure ((m0.map (·.1)).take k |>.zip vals))
    (hi : i ∈ theIx := by decide) : SpecV prog w g γ (n + 1) i vs H Post := by
  intro vals hv A s B hA G S
  have hf := G.fn i (by rw [T.ix]; exact hi)
  rw [T.D] at hf
  have e1 : vals.length = k := by rw [hv.length, hvs, List.length_map, List.length_take]; omega
  simp only [chk, Bool.and_eq_true, decide_eq_true_eq, Bool.not_eq_true'] at hchk
  obtain ⟨⟨⟨⟨⟨⟨h1, h2⟩, h3⟩, h4⟩, h5⟩, h6⟩, h7⟩ := hchk
  have e4 : (m0.map (·.1)).take k ++ (m0.drop k).map (·.1) = m0.map (·.1) := by
    rw [← List.map_take, ← List.map_append, List.take_append_drop]
  have e2 : ((m0.map (·.1)).take k).zip vs ++ ((m0.drop k).map (·.1)).map (fun x => (x, V.any)) = m0 := by
    rw [hvs, ← List.map_take, List.map_map]
    have e3 : ∀ l : Loc, (l.map (·.1)).zip (l.map (·.2)) = l := fun l => by
      induction l with
      | nil => rfl
      | cons p r ih => simp only [List.map_cons, List.zip_cons_cons, ih]
    rw [e3]
    conv => rhs; rw [← List.take_append_drop k m0, ← hany]
    rfl
  rw [← hkeys] at h3 h4
  refine enter G hf.2 hA S ((m0.map (·.1)).take k) ((m0.drop k).map (·.1)) gs (vs := vs) hv (by simp; omega) (fun pm code doc => hbind vals e1 pm code doc) h1 h2 ?_ ?_ h5 h6 h7 ?_
  · rw [e4]; exact h3
  · rw [e4]; exact h4
  · intro c A' s₁ hgs hcs hsc hA' S1
    rw [e2] at S1
    rw [hbody]
    refine wpAny_mono (h c A' B s₁ hA' G hgs S1) (fun fl s' hq => ?_) fun _ _ e => e
    obtain ⟨c', m', H', S', P⟩ := hq
    exact ⟨c', m', H', S', by cases fl <;> exact P⟩

/-- a global def called by its name: the general arguments' case -/
theorem ev_callG {x : Str} {p p' : Pos} (T : Top γ) (i : Nat) {e : Expr} {es : List Expr} {Q : Value → Shared → Prop} (G : GW γ B) (S : St g B c m H s) (hx : x ∈ c.gs)
    (h : ∀ s', St g B c m H s' → wpAny (model prog w) A (spliced (backTo p' (starEach (e :: es) c.env))) (fun vs s₁ => (∃ c' m' H', St g B c' m' H' s₁) ∧ wpAny (model prog w) A (call (.ref (γ.fa i)) vs) Q E s₁) E s')
    (hi : i ∈ theIx := by decide) (hn : (dr i).name = x := by rfl)
    (he : starEach (e :: es) c.env = (false, eval e c.env) :: starEach es c.env := by rfl) :
    wpAny (model prog w) A (eval (.Call (.Name x p) (e :: es) [] p') c.env) Q E s :=
  ev_call i G S hx (by rw [T.ix]; exact hi) (by rw [T.D]; exact hn) h he

/-- .. all its arguments pure -/
theorem ev_callS {x : Str} {p p' : Pos} (T : Top γ) (i n k : Nat) {e : Expr} {es : List Expr} {vs : List V} {Post : Value → Led → Prop} {Q : Value → Shared → Prop} (G : GW γ B) (hA : AOk A k) (S : St g B c m H s) (hx : x ∈ c.gs) (P : PXs c m H (e :: es) vs)
    (C : SpecV prog w g γ n i vs H Post) (h : ∀ v s' H', St g B c m H' s' → Post v H' → Q v s') (hk : n ≤ k := by omega) (hi : i ∈ theIx := by decide) (hn : (dr i).name = x := by rfl)
    (he : starEach (e :: es) c.env = (false, eval e c.env) :: starEach es c.env := by rfl) :
    wpAny (model prog w) A (eval (.Call (.Name x p) (e :: es) [] p') c.env) Q E s :=
  ev_callP i G S hx (by rw [T.ix]; exact hi) (by rw [T.D]; exact hn) P (fun xs s' ha S' => (C xs ha).use G hA hk S' h) he
theorem ev_callLS {x : Str} {p p' : Pos} (T : Top γ) (i n k : Nat) {e : Expr} {es : List Expr} {vs : List V} {Post : Value → Led → Prop} {Q : Value → Shared → Prop} (G : GW γ B) (hA : AOk A k) (S : St g B c m H s) (hx : PX c m H false (.Name x p) (.val (.ref (γ.fa i)))) (P : PXs c m H (e :: es) vs)
    (C : SpecV prog w g γ n i vs H Post) (h : ∀ v s' H', St g B c m H' s' → Post v H' → Q v s') (hk : n ≤ k := by omega) (hi : i ∈ theIx := by decide)
    (he : starEach (e :: es) c.env = (false, eval e c.env) :: starEach es c.env := by rfl) :
    wpAny (model prog w) A (eval (.Call (.Name x p) (e :: es) [] p') c.env) Q E s :=
  ev_callLP i G S hx (by rw [T.ix]; exact hi) P (fun xs s' ha S' => (C xs ha).use G hA hk S' h) he

/-- a row is given back, everything told before stands -/
noncomputable def RetL (ns : List Int) (H : Led) : Value → Led → Prop := fun v H' => ∃ r, v = .ref r ∧ (r, il ns) ∈ H' ∧ ∀ p ∈ H, p ∈ H'
/-- an int is given back, nothing new is told -/
noncomputable def RetI (i : Int) (H : Led) : Value → Led → Prop := fun v H' => (∃ t, v = .int i t) ∧ H' = H

/-- a return statement whose value is a row -/
theorem x_retL {e : Expr} {p : Pos} {rest : List Stmt} {H0 : Led} {ns : List Int} (h : wpAny (model prog w) A (eval e c.env) (fun v s' => ∃ r m' H', v = .ref r ∧ St g B c m' H' s' ∧ (r, il ns) ∈ H' ∧ ∀ p ∈ H0, p ∈ H') NoE s) :
    wpAny (model prog w) A (execs (.Return (some e) p :: rest) c.env) (Ends g B (RetL ns H0)) NoE s :=
  x_retG (wpAny_mono h (fun v s' hq => by obtain ⟨r, m', H', rfl, S', h1, h2⟩ := hq; exact ⟨c, m', H', S', r, rfl, h1, h2⟩) fun _ _ e => e)
end
end

section
open PySem PySem.Calls
/-- the base of the limbs -/
structure Bs (k b : Nat) : Prop where
  e : b = 2 ^ k
  k1 : 4 ≤ k
  k2 : k ≤ 8
theorem Bs.i {k b : Nat} (h : Bs k b) : (2 : Int) ^ k = (b : Int) := by rw [h.e, Int.natCast_pow]; rfl
theorem Bs.lo {k b : Nat} (h : Bs k b) : 16 ≤ b := by rw [h.e]; exact (Nat.pow_le_pow_right (n := 2) (by omega) h.k1 : 2 ^ 4 ≤ 2 ^ k)
theorem Bs.hi {k b : Nat} (h : Bs k b) : b ≤ 256 := by rw [h.e]; exact (Nat.pow_le_pow_right (n := 2) (by omega) h.k2 : 2 ^ k ≤ 2 ^ 8)
theorem Bs.two {k b : Nat} (h : Bs k b) : 2 ≤ b := by have := h.lo; omega
theorem BinI.maskB {k b : Nat} {a : Int} (h : Bs k b) : BinI .BitAnd a ((b : Int) - 1) (a % b) := by have := BinI.mask (a := a) (b := (b : Int) - 1) k (by rw [h.i]); rwa [h.i] at this
theorem BinI.shrB {k b : Nat} {a : Int} (h : Bs k b) : BinI .RShift a (k : Int) (a / b) := by have := BinI.shr (a := a) (b := (k : Int)) k rfl; rwa [h.i] at this
theorem BinI.shlB {k b : Nat} {a : Int} (h : Bs k b) (ha : a.natAbs < 2 ^ 64) : BinI .LShift a (k : Int) (a * b) := by have := BinI.shl (a := a) (b := (k : Int)) k rfl (by have := h.k2; omega) ha; rwa [h.i] at this
theorem BinI.shl1B {k b : Nat} (h : Bs k b) : BinI .LShift 1 (k : Int) (b : Int) := by have := BinI.shlB (a := 1) h (by decide); rwa [Int.one_mul] at this

end
section
open PySem PySem.Calls PySem.W
local macro_rules | `(tactic| walk_at "meml") => `(tactic| first | with_reducible exact List.mem_cons_self | ((with_reducible refine' List.mem_cons_of_mem _ ?a); (case a => walk_at "meml")))
local macro_rules | `(tactic| walk_at "mem") => `(tactic| first | with_reducible exact List.mem_cons_self | with_reducible assumption | ((with_reducible refine' List.mem_cons_of_mem _ ?a); (case a => walk_at "mem")))
local macro_rules | `(tactic| walk_at "put") => `(tactic| first | with_reducible exact Put.head | ((with_reducible refine' Put.tail ?a); (case a => walk_at "put")))
local macro_rules | `(tactic| walk_at "weak") => `(tactic| first | with_reducible exact Weak.nil | ((with_reducible refine' Weak.same ?a); (case a => walk_at "weak")) | ((with_reducible refine' Weak.any ?a); (case a => walk_at "weak")))
local macro_rules | `(tactic| walk_at "sub") => `(tactic| first | with_reducible exact List.Sublist.refl _ | ((with_reducible refine' List.Sublist.cons₂ _ ?a); (case a => walk_at "sub")) | ((with_reducible refine' List.Sublist.cons _ ?a); (case a => walk_at "sub")))
local macro_rules | `(tactic| walk_at "side") => `(tactic| first | rfl | assumption | omega)
local macro_rules | `(tactic| walk_at "bini") => `(tactic| first
  | with_reducible exact BinI.add _ _
  | with_reducible exact BinI.sub _ _
  | with_reducible exact BinI.and1
  | ((with_reducible refine' BinI.maskB ?a); (case a => assumption))
  | ((with_reducible refine' BinI.shrB ?a); (case a => assumption))
  | ((with_reducible refine' BinI.shl1B ?a); (case a => assumption))
  | ((with_reducible refine' BinI.shlB ?a ?b); (case a => assumption); (case b => walk_at "side"))
  | ((with_reducible refine' BinI.mask _ ?a); (case a => walk_at "side"))
  | ((with_reducible refine' BinI.shr _ ?a); (case a => walk_at "side"))
  | ((with_reducible refine' BinI.shl _ ?a ?b ?c); (case a => walk_at "side"); (case b => walk_at "side"); (case c => walk_at "side"))
  | ((with_reducible refine' BinI.mul ?a); (case a => walk_at "side"))
  | ((with_reducible refine' BinI.mulr ?a); (case a => walk_at "side"))
  | ((with_reducible refine' BinI.mod ?a); (case a => walk_at "side"))
  | ((with_reducible refine' BinI.fdiv ?a ?b); (case a => walk_at "side"); (case b => walk_at "side"))
  | ((with_reducible refine' BinI.pow _ ?a ?b ?c); (case a => walk_at "side"); (case b => walk_at "side"); (case c => walk_at "side"))
  | ((with_reducible refine' BinI.or ?a); (case a => assumption)))
local macro_rules | `(tactic| walk_at "cmpi") => `(tactic| first | with_reducible exact CmpI.eq _ _ | with_reducible exact CmpI.ne _ _ | with_reducible exact CmpI.lt _ _ | with_reducible exact CmpI.le _ _ | with_reducible exact CmpI.gt _ _ | with_reducible exact CmpI.ge _ _)
local macro_rules | `(tactic| walk_at "hpx") => `(tactic| (intro hpx; (try simp only [decide_eq_true_eq, decide_eq_false_iff_not, Int.not_lt, Int.not_le, ne_eq, Decidable.not_not] at hpx)))
local macro_rules | `(tactic| walk_at "pxs") => `(tactic| first | with_reducible exact PXs.nil | ((with_reducible refine' PXs.cons ?a ?b ?c); (case a => walk_at "px"); (case b => walk_at "pxs"); (case c => exact fun _ => rfl)))
local macro_rules | `(tactic| walk_at "pe") => `(tactic| first | with_reducible exact PE.none | ((with_reducible refine' PE.some ?a); (case a => walk_at "px")))
local macro_rules | `(tactic| walk_at "bnd") => `(tactic| (intro vals hv pm code doc; first | (obtain ⟨_, e⟩ := len1 hv; subst e; rfl) | (obtain ⟨_, _, e⟩ := len2 hv; subst e; rfl) | (obtain ⟨_, _, _, e⟩ := len3 hv; subst e; rfl) | (obtain ⟨_, _, _, _, e⟩ := len4 hv; subst e; rfl) | (obtain ⟨_, _, _, _, _, e⟩ := len5 hv; subst e; rfl) | (obtain ⟨_, _, _, _, _, _, e⟩ := len6 hv; subst e; rfl)))
local macro_rules | `(tactic| walk_at "hmc1") => `(tactic| first | (intro p hp; cases hp; done) | (refine List.forall_mem_cons.mpr ⟨?a, ?b⟩; (case a => first | exact .inl rfl | (refine .inr ?_; simp only [List.zip_cons_cons, List.zip_nil_right, List.zip_nil_left]; walk_at "mem")); (case b => walk_at "hmc1")))
local macro_rules | `(tactic| walk_at "hmc") => `(tactic| walk_at "hmc1")
section
local macro_rules | `(tactic| walk_at "px") => `(tactic| first
  | with_reducible exact PX.int
  | with_reducible exact PX.none
  | ((with_reducible refine' PX.nameI ?a); (case a => walk_at "meml"))
  | ((with_reducible refine' PX.nameV ?a); (case a => walk_at "meml"))
  | ((with_reducible refine' PX.nameCI ?a ?b); (case a => with_reducible assumption); (case b => walk_at "mem"))
  | ((with_reducible refine' PX.nameCV ?a ?b); (case a => with_reducible assumption); (case b => walk_at "mem"))
  | ((with_reducible refine' PX.bin ?a ?b ?c); (case a => walk_at "px"); (case b => walk_at "px"); (case c => walk_at "bini"))
  | ((with_reducible refine' PX.neg ?a); (case a => walk_at "px"))
  | ((with_reducible refine' PX.lenI ?a ?b ?c ?d); (case a => walk_at "mem"); (case b => walk_at "px"); (case c => walk_at "mem"); (case d => rfl))
  | ((with_reducible refine' PX.itemI ?a ?b ?c ?d ?e ?f); (case a => walk_at "px"); (case b => walk_at "px"); (case c => walk_at "mem"); (case d => walk_at "side"); (case e => walk_at "side"); (case f => exact fun _ _ => rfl))
  | ((with_reducible refine' PX.itemNI ?a ?b ?c ?d ?e ?f); (case a => walk_at "px"); (case b => walk_at "px"); (case c => walk_at "mem"); (case d => walk_at "side"); (case e => walk_at "side"); (case f => exact fun _ _ => rfl))
  | ((with_reducible refine' PX.cmp ?a ?b ?c ?d); (case a => walk_at "px"); (case b => walk_at "px"); (case c => walk_at "cmpi"); (case d => rfl))
  | ((with_reducible refine' PX.and2 ?a ?b); (case a => walk_at "px"); (case b => (walk_at "hpx"; walk_at "px")))
  | ((with_reducible refine' PX.or2 ?a ?b); (case a => walk_at "px"); (case b => (walk_at "hpx"; walk_at "px")))
  | ((with_reducible refine' PX.or2v ?a ?b); (case a => walk_at "px"); (case b => (walk_at "hpx"; walk_at "px")))
  | ((with_reducible refine' PX.ite ?a ?b ?c); (case a => walk_at "px"); (case b => (walk_at "hpx"; walk_at "px")); (case c => (walk_at "hpx"; walk_at "px"))))
section
open PySem PySem.Calls
/-- trailing zeros struck -/
noncomputable def trim : List Int → List Int
  | [] => []
  | x :: r => match trim r with
    | [] => if x = 0 then [] else [x]
    | y :: ys => x :: y :: ys

theorem trim_take {ns : List Int} : ∀ {k : Nat}, k ≤ ns.length → (∀ i, k ≤ i → ns.getD i 0 = 0) → (k = 0 ∨ ns.getD (k - 1) 0 ≠ 0) → ns.take k = trim ns := by
  induction ns with
  | nil => intro k _ _ _; simp [trim]
  | cons x r ih =>
    intro k hk hz hn
    cases k with
    | zero =>
      have := ih (k := 0) (Nat.zero_le _) (fun i _ => hz (i + 1) (Nat.zero_le _)) (.inl rfl)
      have hx : x = 0 := hz 0 (Nat.le_refl _)
      simp only [List.take_zero] at this ⊢
      unfold trim
      rw [← this, hx]
      rfl
    | succ k =>
      have hk' : k ≤ r.length := by simpa using hk
      have hz' : ∀ i, k ≤ i → r.getD i 0 = 0 := fun i hi => hz (i + 1) (by omega)
      rw [List.take_succ_cons]
      rcases Nat.eq_zero_or_pos k with h0 | h0
      · subst h0
        have := ih (k := 0) (Nat.zero_le _) hz' (.inl rfl)
        have hx : x ≠ 0 := by
          rcases hn with h | h
          · omega
          · simpa using h
        simp only [List.take_zero] at this ⊢
        unfold trim
        rw [← this]
        simp [hx]
      · have hn' : r.getD (k - 1) 0 ≠ 0 := by
          rcases hn with h | h
          · omega
          · obtain ⟨j, rfl⟩ : ∃ j, k = j + 1 := ⟨k - 1, by omega⟩
            simpa using h
        have := ih hk' hz' (.inr hn')
        rw [this]
        obtain ⟨j, rfl⟩ : ∃ j, k = j + 1 := ⟨k - 1, by omega⟩
        cases r with
        | nil => simp at hk'
        | cons y ys =>
          rw [List.take_succ_cons] at this
          show _ = (match trim (y :: ys) with
            | [] => if x = 0 then [] else [x]
            | y :: ys => x :: y :: ys)
          rw [← this]

section
variable {prog : Program} {w : World} {g : Shared} {γ : Gl}

theorem normal_spec (T : Top γ) {H : Led} {a : Addr} {ns : List Int} (ha : (a, il ns) ∈ H) (hl : ns.length ≤ 1000) :
    SpecV prog w g γ 1 5 [.val (.ref a)] H (RetL (trim ns) H) := by
  refine def_spec T 5 0 [((Str.ofString "a"), .val (.ref a)), ((Str.ofString "end"), V.any)] 1 [(Str.ofString "a"), (Str.ofString "end")] [(Str.ofString "len")] rfl (fun cx A B s1 hA G hgs S1 => ?_) (by decide +kernel) (by exact rfl) (by exact rfl) (by exact rfl) (by exact Nat.le_of_ble_eq_true rfl) (by walk_at "bnd")
  have hg0 : (Str.ofString "len") ∈ cx.gs := by rw [hgs]; walk_at "mem"
  clear hgs
  refine x_asg G S1 (by walk_at "px") (by walk_at "put") fun s2 S2 => ?_
  refine x_whileG (σ := Nat) (fun k => [((Str.ofString "a"), .val (.ref a)), ((Str.ofString "end"), .int k)]) (fun _ => H) (fun k => k ≤ ns.length ∧ ∀ i, k ≤ i → ns.getD i 0 = 0) (fun k => k) S2
    ⟨Nat.le_refl _, fun i hi => by rw [List.getD_eq_getElem?_getD, List.getElem?_eq_none hi]; rfl⟩
    (fun k s3 ⟨hk1, hk2⟩ S3 => px_t G S3 (by walk_at "px") fun s4 S3 => ite_b (fun hb => ?_) (fun hb => ?_))
  · simp only [Bool.and_eq_true, decide_eq_true_eq] at hb
    refine x_aug G S3 (by walk_at "mem") (by walk_at "px") (by walk_at "bini") (by walk_at "put") fun s4 S4 => ?_
    refine x_nil ⟨k - 1, ?_, ⟨by omega, fun i hi => ?_⟩, by omega⟩
    · rw [show ((k - 1 : Nat) : Int) = (k : Int) - 1 by omega]; exact S4
    · rcases Nat.lt_or_ge i k with h | h
      · have e : i = ((k : Int) - 1).toNat := by omega
        rw [e]; exact hb.2
      · exact hk2 i h
  · have e : cutL ns none (some (k : Int)) = trim ns := by
      refine trim_take hk1 hk2 ?_
      rcases Nat.eq_zero_or_pos k with h | h
      · exact .inl h
      · right
        simp only [Bool.and_eq_false_imp, decide_eq_true_eq, decide_eq_false_iff_not] at hb
        have := hb (by omega)
        rwa [show ((k : Int) - 1).toNat = k - 1 by omega] at this
    refine x_retL (ev_sliceI G S3 (by walk_at "px") (by walk_at "mem") .none (by walk_at "pe") (fun i h => by cases h) (fun i h => by cases h; omega) fun r s4 S4 => ?_)
    exact ⟨r, _, _, rfl, S4, by rw [e]; exact .head _, fun p hp => .tail _ hp⟩
end
end

section

/-! numbers of limbs: plain mathematics -/

/-- the number of a row of limbs to the base b -/
noncomputable def vl (b : Int) : List Int → Int
  | [] => 0
  | x :: r => x + b * vl b r

noncomputable def Lim (b : Int) (ns : List Int) : Prop := ∀ x ∈ ns, 0 ≤ x ∧ x < b

/-- the row of a number -/
noncomputable def lb (b n : Nat) : List Int :=
  if h : n = 0 ∨ b < 2 then [] else ((n % b : Nat) : Int) :: lb b (n / b)
termination_by n
decreasing_by
  have h' : n ≠ 0 ∧ ¬ b < 2 := by omega
  exact Nat.div_lt_self (by omega) (by omega)

theorem lb_zero {b : Nat} : lb b 0 = [] := by rw [lb]; simp
theorem lb_pos {b n : Nat} (hb : 2 ≤ b) (hn : 0 < n) : lb b n = ((n % b : Nat) : Int) :: lb b (n / b) := by
  rw [lb, dif_neg (by omega)]

theorem Lim.nil {b : Int} : Lim b [] := fun _ h => by cases h
theorem Lim.cons {b x : Int} {r : List Int} (h : 0 ≤ x ∧ x < b) (k : Lim b r) : Lim b (x :: r) := fun y hy => by
  rcases List.mem_cons.mp hy with rfl | hy
  · exact h
  · exact k y hy
theorem Lim.head {b x : Int} {r : List Int} (h : Lim b (x :: r)) : 0 ≤ x ∧ x < b := h x (.head _)
theorem Lim.tail {b x : Int} {r : List Int} (h : Lim b (x :: r)) : Lim b r := fun y hy => h y (.tail _ hy)
theorem Lim.append {b : Int} {x y : List Int} (h : Lim b x) (k : Lim b y) : Lim b (x ++ y) := fun z hz => by
  rcases List.mem_append.mp hz with hz | hz
  · exact h z hz
  · exact k z hz
theorem Lim.one {b x : Int} (h : 0 ≤ x ∧ x < b) : Lim b [x] := .cons h .nil
theorem Lim.take {b : Int} {x : List Int} (h : Lim b x) (k : Nat) : Lim b (x.take k) := fun z hz => h z (List.mem_of_mem_take hz)
theorem Lim.drop {b : Int} {x : List Int} (h : Lim b x) (k : Nat) : Lim b (x.drop k) := fun z hz => h z (List.mem_of_mem_drop hz)
theorem Lim.zeros {b : Int} (hb : 0 < b) (n : Nat) : Lim b (List.replicate n 0) := fun z hz => by
  obtain ⟨_, rfl⟩ := List.mem_replicate.mp hz; exact ⟨Int.le_refl _, hb⟩
theorem Lim.set {b y : Int} : ∀ {x : List Int} (h : Lim b x) (k : Nat) (hy : 0 ≤ y ∧ y < b), Lim b (x.set k y) := fun h k hy z hz => by
  rcases List.mem_or_eq_of_mem_set hz with h1 | rfl
  · exact h z h1
  · exact hy
theorem Lim.get {b : Int} (hb : 0 < b) {x : List Int} (h : Lim b x) (k : Nat) : 0 ≤ x.getD k 0 ∧ x.getD k 0 < b := by
  rcases Nat.lt_or_ge k x.length with hk | hk
  · rw [List.getD_eq_getElem?_getD, List.getElem?_eq_getElem hk]; exact h _ (List.getElem_mem hk)
  · rw [List.getD_eq_getElem?_getD, List.getElem?_eq_none hk]; exact ⟨Int.le_refl _, hb⟩

theorem vl_append {b : Int} : ∀ {x y : List Int}, vl b (x ++ y) = vl b x + b ^ x.length * vl b y
  | [], y => by simp [vl]
  | a :: r, y => by
    have := @vl_append b r y
    rw [List.cons_append, vl, vl, this, List.length_cons, Int.pow_succ]
    grind
theorem vl_zeros {b : Int} : ∀ n, vl b (List.replicate n 0) = 0
  | 0 => rfl
  | n + 1 => by rw [List.replicate_succ, vl, vl_zeros n]; simp
theorem vl_nonneg {b : Int} (hb : 0 < b) : ∀ {x : List Int}, Lim b x → 0 ≤ vl b x
  | [], _ => Int.le_refl _
  | a :: r, h => by
    have h1 := vl_nonneg hb h.tail
    have h2 := h.head
    have := Int.mul_nonneg (Int.le_of_lt hb) h1
    rw [vl]; omega
theorem vl_lt {b : Int} (hb : 0 < b) : ∀ {x : List Int}, Lim b x → vl b x < b ^ x.length
  | [], _ => by simp [vl]
  | a :: r, h => by
    have h1 := vl_lt hb h.tail
    have h2 := h.head
    have := Int.mul_le_mul_of_nonneg_left (show vl b r + 1 ≤ b ^ r.length by omega) (Int.le_of_lt hb)
    rw [vl, List.length_cons, Int.pow_succ, Int.mul_comm (b ^ r.length)]
    rw [Int.mul_add] at this
    omega

/-- the row of a number is what stands when its trailing zeros are struck -/
theorem trim_lb {b : Nat} (hb : 2 ≤ b) : ∀ {x : List Int} {n : Nat}, Lim b x → vl b x = n → trim x = lb b n
  | [], n, _, h => by
    have : n = 0 := by simp [vl] at h; omega
    subst this; rw [lb_zero]; rfl
  | a :: r, n, h, e => by
    have hr := vl_nonneg (by omega) h.tail
    have h2 := h.head
    obtain ⟨q, hq⟩ := Int.eq_ofNat_of_zero_le hr
    have ih := @trim_lb b hb r q h.tail hq
    rw [vl, hq] at e
    have hdiv : n / b = q := by
      have : n = a.toNat + b * q := by
        have : ((b * q : Nat) : Int) = (b : Int) * (q : Int) := Int.natCast_mul _ _
        omega
      rw [this, Nat.add_mul_div_left _ _ (by omega), Nat.div_eq_of_lt (by omega)]; omega
    have hmod : ((n % b : Nat) : Int) = a := by
      have : n = a.toNat + b * q := by
        have : ((b * q : Nat) : Int) = (b : Int) * (q : Int) := Int.natCast_mul _ _
        omega
      rw [this, Nat.add_mul_mod_self_left, Nat.mod_eq_of_lt (by omega)]; omega
    unfold trim
    rw [ih]
    rcases Nat.eq_zero_or_pos q with h0 | h0
    · subst h0
      rw [lb_zero]
      by_cases ha : a = 0
      · have hn : n = 0 := by subst ha; simp at e; omega
        simp [ha, hn, lb_zero]
      · have hn : 0 < n := by
          have : (b : Int) * ((0 : Nat) : Int) = 0 := by simp
          omega
        rw [lb_pos hb hn, hdiv, lb_zero, hmod]
        simp [ha]
    · rw [lb_pos hb h0]
      have hn : 0 < n := by
        rcases Nat.eq_zero_or_pos n with h | h
        · subst h; simp at hdiv; omega
        · exact h
      rw [lb_pos hb hn, hdiv, hmod, lb_pos hb h0]

theorem lb_lim {b : Nat} (hb : 2 ≤ b) (n : Nat) : Lim b (lb b n) := by
  induction n using Nat.strongRecOn with
  | ind n ih =>
    rcases Nat.eq_zero_or_pos n with h | h
    · subst h; rw [lb_zero]; exact .nil
    · rw [lb_pos hb h]
      exact .cons ⟨by omega, by have := Nat.mod_lt n (show 0 < b by omega); omega⟩ (ih _ (Nat.div_lt_self h (by omega)))
theorem lb_vl {b : Nat} (hb : 2 ≤ b) (n : Nat) : vl b (lb b n) = n := by
  induction n using Nat.strongRecOn with
  | ind n ih =>
    rcases Nat.eq_zero_or_pos n with h | h
    · subst h; rw [lb_zero]; rfl
    · rw [lb_pos hb h, vl, ih _ (Nat.div_lt_self h (by omega))]
      have := Nat.mod_add_div n b
      have e : ((b * (n / b) : Nat) : Int) = (b : Int) * ((n / b : Nat) : Int) := Int.natCast_mul _ _
      omega
theorem lb_trim {b : Nat} (hb : 2 ≤ b) (n : Nat) : trim (lb b n) = lb b n := trim_lb hb (lb_lim hb n) (lb_vl hb n)
theorem lb_inj {b : Nat} (hb : 2 ≤ b) {m n : Nat} (h : lb b m = lb b n) : m = n := by
  have h1 := lb_vl hb m
  have h2 := lb_vl hb n
  rw [h] at h1; omega

theorem trim_of_last : ∀ {x : List Int} (h : x = [] ∨ x.getD (x.length - 1) 0 ≠ 0), trim x = x
  | [], _ => rfl
  | [a], h => by
    have : a ≠ 0 := by rcases h with h | h <;> simpa using h
    simp [trim, this]
  | a :: c :: r, h => by
    have ih := @trim_of_last (c :: r) (.inr (by rcases h with h | h <;> simpa using h))
    unfold trim
    rw [ih]

/-- a row whose number is as great as its length says is its number's row -/
theorem eq_lb {b : Nat} (hb : 2 ≤ b) {x : List Int} {n : Nat} (h : Lim b x) (e : vl b x = n) (hl : x = [] ∨ (b : Int) ^ (x.length - 1) ≤ n) : x = lb b n := by
  rw [← trim_lb hb h e]
  refine (trim_of_last ?_).symm
  rcases hl with hl | hl
  · exact .inl hl
  · rcases x.eq_nil_or_concat with hx | ⟨y, a, rfl⟩
    · exact .inl hx
    · right
      rw [List.concat_eq_append] at *
      intro h0
      have ha : a = 0 := by simpa using h0
      subst ha
      have h1 := vl_lt (b := b) (by omega) (x := y) (fun z hz => h z (by simp [hz]))
      have h2 : vl b (y ++ [0]) = vl b y := by rw [vl_append]; simp [vl]
      have h3 : (y ++ [(0 : Int)]).length - 1 = y.length := by simp
      rw [h2] at e
      rw [h3] at hl
      omega
theorem lb_len_le {b : Nat} (hb : 2 ≤ b) : ∀ {k n : Nat}, n < b ^ k → (lb b n).length ≤ k
  | 0, n, h => by have : n = 0 := by simpa using h
                  subst this; rw [lb_zero]; simp
  | k + 1, n, h => by
    rcases Nat.eq_zero_or_pos n with h0 | h0
    · subst h0; rw [lb_zero]; simp
    · rw [lb_pos hb h0, List.length_cons]
      have : n / b < b ^ k := by rw [Nat.div_lt_iff_lt_mul (by omega)]; rwa [← Nat.pow_succ]
      have := lb_len_le hb this
      omega
theorem lb_lt {b : Nat} (hb : 2 ≤ b) (n : Nat) : n < b ^ (lb b n).length := by
  have h := vl_lt (b := b) (by omega) (lb_lim hb n)
  rw [lb_vl hb] at h
  have e : ((b ^ (lb b n).length : Nat) : Int) = (b : Int) ^ (lb b n).length := Int.natCast_pow _ _
  omega
theorem lb_ge {b : Nat} (hb : 2 ≤ b) {k n : Nat} (h : k < (lb b n).length) : b ^ k ≤ n := by
  rcases Nat.lt_or_ge n (b ^ k) with h1 | h1
  · have := lb_len_le hb h1; omega
  · exact h1
theorem lb_len_mono {b : Nat} (hb : 2 ≤ b) {m n : Nat} (h : m ≤ n) : (lb b m).length ≤ (lb b n).length :=
  lb_len_le hb (Nat.lt_of_le_of_lt h (lb_lt hb n))
theorem lb_nil {b : Nat} (hb : 2 ≤ b) {n : Nat} : lb b n = [] ↔ n = 0 := by
  constructor
  · intro h; have := lb_vl hb n; rw [h] at this; simp [vl] at this; omega
  · rintro rfl; exact lb_zero
theorem lb_len_pos {b : Nat} (hb : 2 ≤ b) {n : Nat} : 0 < (lb b n).length ↔ 0 < n := by
  constructor
  · intro h
    rcases Nat.eq_zero_or_pos n with h0 | h0
    · subst h0; rw [lb_zero] at h; simp at h
    · exact h0
  · intro h; rw [lb_pos hb h]; simp

theorem lb_drop {b : Nat} (hb : 2 ≤ b) : ∀ (k n : Nat), (lb b n).drop k = lb b (n / b ^ k)
  | 0, n => by simp
  | k + 1, n => by
    rcases Nat.eq_zero_or_pos n with h0 | h0
    · subst h0; simp [lb_zero]
    · rw [lb_pos hb h0, List.drop_succ_cons, lb_drop hb k, Nat.div_div_eq_div_mul, Nat.pow_succ, Nat.mul_comm]
theorem lb_take {b : Nat} (hb : 2 ≤ b) : ∀ (k n : Nat), vl b ((lb b n).take k) = ((n % b ^ k : Nat) : Int)
  | 0, n => by simp [vl, Nat.mod_one]
  | k + 1, n => by
    rcases Nat.eq_zero_or_pos n with h0 | h0
    · subst h0; simp [lb_zero, vl]
    · rw [lb_pos hb h0, List.take_succ_cons, vl, lb_take hb k]
      have e : n % b ^ (k + 1) = n % b + b * (n / b % b ^ k) := by
        rw [Nat.pow_succ, Nat.mul_comm, Nat.mod_mul]
      rw [e]
      simp
theorem lb_get {b : Nat} (hb : 2 ≤ b) : ∀ (k n : Nat), (lb b n).getD k 0 = ((n / b ^ k % b : Nat) : Int)
  | 0, n => by
    rcases Nat.eq_zero_or_pos n with h0 | h0
    · subst h0; simp [lb_zero]
    · rw [lb_pos hb h0]; simp
  | k + 1, n => by
    rcases Nat.eq_zero_or_pos n with h0 | h0
    · subst h0; simp [lb_zero]
    · rw [lb_pos hb h0, List.getD_cons_succ, lb_get hb k, Nat.div_div_eq_div_mul, Nat.pow_succ, Nat.mul_comm b]

/-! steps over rows -/

theorem vl_take_succ {b : Int} : ∀ {x : List Int} {i : Nat}, vl b (x.take (i + 1)) = vl b (x.take i) + b ^ i * x.getD i 0
  | [], i => by simp [vl]
  | a :: r, 0 => by simp [vl]
  | a :: r, i + 1 => by
    rw [List.take_succ_cons, List.take_succ_cons, vl, vl, vl_take_succ, List.getD_cons_succ, Int.pow_succ]
    grind
theorem vl_drop_succ {b : Int} : ∀ {x : List Int} {i : Nat}, vl b (x.drop i) = x.getD i 0 + b * vl b (x.drop (i + 1))
  | [], i => by simp [vl]
  | a :: r, 0 => by simp [vl]
  | a :: r, i + 1 => by
    rw [List.drop_succ_cons, List.drop_succ_cons, List.getD_cons_succ]
    exact vl_drop_succ
theorem vl_split {b : Int} : ∀ (x : List Int) (k : Nat), vl b x = vl b (x.take k) + b ^ k * vl b (x.drop k)
  | [], k => by simp [vl]
  | a :: r, 0 => by simp [vl]
  | a :: r, k + 1 => by
    rw [List.take_succ_cons, List.drop_succ_cons, vl, vl, vl_split r k, Int.pow_succ]
    grind
theorem vl_set {b y : Int} : ∀ {x : List Int} {i : Nat}, i < x.length → vl b (x.set i y) = vl b x + b ^ i * (y - x.getD i 0)
  | [], i, h => by simp at h
  | a :: r, 0, _ => by simp only [List.set_cons_zero, vl, Int.pow_zero, List.getD_cons_zero]; omega
  | a :: r, i + 1, h => by
    rw [List.set_cons_succ, vl, vl, vl_set (by simpa using h), Int.pow_succ, List.getD_cons_succ]
    grind
theorem getD_set {x : List Int} {i j : Nat} {y : Int} (h : i < x.length) : (x.set i y).getD j 0 = if j = i then y else x.getD j 0 := by
  rw [List.getD_eq_getElem?_getD, List.getElem?_set, List.getD_eq_getElem?_getD]
  by_cases e : i = j
  · subst e; simp [h]
  · have : ¬ j = i := fun h => e h.symm
    simp [e, this]
theorem getD_app {x : List Int} {y : Int} {j : Nat} : (x ++ [y]).getD j 0 = if j < x.length then x.getD j 0 else if j = x.length then y else 0 := by
  rw [List.getD_eq_getElem?_getD, List.getElem?_append, List.getD_eq_getElem?_getD]
  by_cases h : j < x.length
  · simp [h]
  · by_cases e : j = x.length
    · subst e; simp
    · have : j - x.length ≠ 0 := by omega
      simp only [h, if_false, e]
      rw [List.getElem?_eq_none (by simp; omega)]; rfl
theorem drop_set {x : List Int} {i j : Nat} {y : Int} (h : i < j) : (x.set i y).drop j = x.drop j := by
  rw [List.drop_set]; simp [h]
theorem take_all {x : List Int} {n : Nat} (h : x.length ≤ n) : x.take n = x := List.take_of_length_le h
theorem vl_snoc {b y : Int} {x : List Int} : vl b (x ++ [y]) = vl b x + b ^ x.length * y := by
  rw [vl_append]; simp [vl]

/-- with equal limbs above, the greater limb wins -/
theorem lt_of_top {b : Int} (hb : 0 < b) : ∀ {x y : List Int} {k : Nat}, Lim b x → Lim b y → x.length = y.length → (∀ j, k < j → x.getD j 0 = y.getD j 0) → x.getD k 0 < y.getD k 0 → vl b x < vl b y
  | [], [], k, _, _, _, _, h => by simp at h
  | a :: r, c :: t, 0, hx, hy, hl, he, h => by
    have : r = t := by
      refine List.ext_getElem (by simpa using hl) fun i h1 h2 => ?_
      have := he (i + 1) (by omega)
      simpa [List.getD_eq_getElem?_getD, List.getElem?_eq_getElem, h1, h2] using this
    subst this
    simp at h
    rw [vl, vl]; omega
  | a :: r, c :: t, k + 1, hx, hy, hl, he, h => by
    have ih := lt_of_top hb hx.tail hy.tail (k := k) (by simpa using hl) (fun j hj => by simpa using he (j + 1) (by omega)) (by simpa using h)
    have h1 := hx.head
    have h2 := hy.head
    have := Int.mul_le_mul_of_nonneg_left (show vl b r + 1 ≤ vl b t by omega) (Int.le_of_lt hb)
    rw [Int.mul_add] at this
    rw [vl, vl]; omega
  | [], _ :: _, _, _, _, hl, _, _ => by simp at hl
  | _ :: _, [], _, _, _, hl, _, _ => by simp at hl
theorem eq_of_getD {x y : List Int} (hl : x.length = y.length) (h : ∀ j, x.getD j 0 = y.getD j 0) : x = y := by
  refine List.ext_getElem hl fun i h1 h2 => ?_
  have := h i
  simpa [List.getD_eq_getElem?_getD, List.getElem?_eq_getElem, h1, h2] using this
theorem pow_pos' {b : Int} (hb : 0 < b) (k : Nat) : 0 < b ^ k := Int.pow_pos hb
end

section
open PySem PySem.Calls
theorem Bs.len {k b n : Nat} (h : Bs k b) (hn : n < 2 ^ 64) : (lb b n).length ≤ 64 :=
  lb_len_le h.two (Nat.lt_of_lt_of_le hn (Nat.pow_le_pow_left h.two 64))

theorem RetI.mk {i j : Int} {val : Value} {H : Led} (hv : (V.int j).Is (some val)) (e : j = i) : RetI i H val H := by
  obtain ⟨t, e'⟩ := hv; cases e'; exact ⟨⟨t, by rw [e]⟩, rfl⟩

section
variable {prog : Program} {w : World} {g s : Shared} {B : Heap} {c : Cx} {m : Loc} {H : Led} {A : Around} {E : Value → Shared → Prop} {γ : Gl}

/-- x, y, z = <a new list>, e2, e3 -/
theorem x_swapL3 {x y z : Str} {px py pz tp vp p : Pos} {q q' : Nat} {e1 e2 e3 : Expr} {i2 i3 : Int} {o : O} {m1 m2 : Loc} {m3 : Addr → Loc} {rest : List Stmt} {Q : Flow → Shared → Prop} (G : GW γ B) (hA : A.handled = none) (S : St g B c m H s)
    (h : ∀ (E : Value → Shared → Prop) (Q : Value → Shared → Prop), (∀ r s', St g B c m ((r, o) :: H) s' → Q (.ref r) s') → wpAny (model prog w) A (eval e1 c.env) Q E s)
    (P2 : PX c m H false e2 (.int i2)) (P3 : PX c m H false e3 (.int i3)) (h3 : Put m z (.int i3) m1) (h2 : Put m1 y (.int i2) m2) (h1 : ∀ r, Put m2 x (.val (.ref r)) (m3 r))
    (k : ∀ r s', St g B c (m3 r) ((r, o) :: H) s' → wpAny (model prog w) A (execs rest c.env) Q E s')
    (hne : (x == y) = false) (hne2 : (x == z) = false) (hne3 : (y == z) = false) (hl : (px.line == py.line) = true) (hl2 : (px.line == pz.line) = true)
    (hf : ([e1, e2, e3].all (foldedForSure 8)) = false) (hc : ([e1, e2, e3].all (constantsAlone 8)) = false) (hst : ([e1, e2, e3].any isStarX) = false)
    (hs1 : ∀ env, starEach [e1, e2, e3] env = (false, eval e1 env) :: starEach [e2, e3] env) (hs2 : ∀ env, starEach [e2, e3] env = (false, eval e2 env) :: starEach [e3] env) (hs3 : ∀ env, starEach [e3] env = (false, eval e3 env) :: starEach [] env)
    (hs : swapsWithSole [.Tuple [.Name x px, .Name y py, .Name z pz] q tp] (.Tuple [e1, e2, e3] q' vp) p.line c.env = pure false := by rfl) :
    wpAny (model prog w) A (execs (.Assign [.Tuple [.Name x px, .Name y py, .Name z pz] q tp] (.Tuple [e1, e2, e3] q' vp) p :: rest) c.env) Q E s := by
  have hz : z ∈ m.map (·.1) := let ⟨b, hb⟩ := h3.spec.2.1; List.mem_map_of_mem (f := (·.1)) hb
  have hy : y ∈ m.map (·.1) := h3.spec.1 ▸ (let ⟨b, hb⟩ := h2.spec.2.1; List.mem_map_of_mem (f := (·.1)) hb)
  have hx : x ∈ m.map (·.1) := h3.spec.1 ▸ h2.spec.1 ▸ (let ⟨b, hb⟩ := (h1 0).spec.2.1; List.mem_map_of_mem (f := (·.1)) hb)
  refine x_swap3 hA S ?_ hx hy hz hne hne2 hne3 hl hl2 hf hc hst hs
  refine sp_cons (h E _ fun r s1 S1 => ?_) (hs1 _)
  have M : ∀ p ∈ H, p ∈ (r, o) :: H := fun p hp => .tail _ hp
  refine sp_cons (px_i G S1 (P2.more M) fun t s2 S2 => ?_) (hs2 _)
  refine sp_cons (px_i G S2 (P3.more M) fun u s3 S3 => ?_) (hs3 _)
  exact sp_nil _ ⟨_, .val (.ref r), .int i2, .int i3, m1, m2, _, S3, ⟨rfl, ⟨t, rfl⟩, ⟨u, rfl⟩, trivial⟩, h3, h2, h1 r, fun s' S' => k r s' S'⟩

/-- x, y = e1, e2, both pure -/
theorem x_swapP2 {x y : Str} {px py tp vp p : Pos} {q q' : Nat} {e1 e2 : Expr} {v1 v2 : V} {m1 m2 : Loc} {rest : List Stmt} {Q : Flow → Shared → Prop} (G : GW γ B) (hA : A.handled = none) (S : St g B c m H s)
    (P1 : PX c m H false e1 v1) (P2 : PX c m H false e2 v2) (h2 : Put m y v2 m1) (h1 : Put m1 x v1 m2)
    (k : ∀ s', St g B c m2 H s' → wpAny (model prog w) A (execs rest c.env) Q E s')
    (hne : (x == y) = false) (hl : (px.line == py.line) = true)
    (hf : ([e1, e2].all (foldedForSure 8)) = false) (hc : ([e1, e2].all (constantsAlone 8)) = false) (hst : ([e1, e2].any isStarX) = false)
    (hs1 : ∀ env, starEach [e1, e2] env = (false, eval e1 env) :: starEach [e2] env) (hs2 : ∀ env, starEach [e2] env = (false, eval e2 env) :: starEach [] env)
    (hs : swapsWithSole [.Tuple [.Name x px, .Name y py] q tp] (.Tuple [e1, e2] q' vp) p.line c.env = pure false := by rfl) :
    wpAny (model prog w) A (execs (.Assign [.Tuple [.Name x px, .Name y py] q tp] (.Tuple [e1, e2] q' vp) p :: rest) c.env) Q E s := by
  have hy : y ∈ m.map (·.1) := let ⟨b, hb⟩ := h2.spec.2.1; List.mem_map_of_mem (f := (·.1)) hb
  have hx : x ∈ m.map (·.1) := h2.spec.1 ▸ (let ⟨b, hb⟩ := h1.spec.2.1; List.mem_map_of_mem (f := (·.1)) hb)
  refine x_swap2 hA S ?_ hx hy hne hl hf hc hst hs
  refine sp_cons (px_v G S P1 fun t s2 ht S2 => ?_) (hs1 _)
  refine sp_cons (px_v G S2 P2 fun u s3 hu S3 => ?_) (hs2 _)
  exact sp_nil _ ⟨_, v1, v2, m1, m2, S3, ⟨ht, hu, trivial⟩, h2, h1, k⟩

/-- x, y = <a new list>, e2 -/
theorem x_swapL2 {x y : Str} {px py tp vp p : Pos} {q q' : Nat} {e1 e2 : Expr} {i2 : Int} {o : O} {m1 : Loc} {m2 : Addr → Loc} {rest : List Stmt} {Q : Flow → Shared → Prop} (G : GW γ B) (hA : A.handled = none) (S : St g B c m H s)
    (h : ∀ (E : Value → Shared → Prop) (Q : Value → Shared → Prop), (∀ r s', St g B c m ((r, o) :: H) s' → Q (.ref r) s') → wpAny (model prog w) A (eval e1 c.env) Q E s)
    (P2 : PX c m H false e2 (.int i2)) (h2 : Put m y (.int i2) m1) (h1 : ∀ r, Put m1 x (.val (.ref r)) (m2 r))
    (k : ∀ r s', St g B c (m2 r) ((r, o) :: H) s' → wpAny (model prog w) A (execs rest c.env) Q E s')
    (hne : (x == y) = false) (hl : (px.line == py.line) = true)
    (hf : ([e1, e2].all (foldedForSure 8)) = false) (hc : ([e1, e2].all (constantsAlone 8)) = false) (hst : ([e1, e2].any isStarX) = false)
    (hs1 : ∀ env, starEach [e1, e2] env = (false, eval e1 env) :: starEach [e2] env) (hs2 : ∀ env, starEach [e2] env = (false, eval e2 env) :: starEach [] env)
    (hs : swapsWithSole [.Tuple [.Name x px, .Name y py] q tp] (.Tuple [e1, e2] q' vp) p.line c.env = pure false := by rfl) :
    wpAny (model prog w) A (execs (.Assign [.Tuple [.Name x px, .Name y py] q tp] (.Tuple [e1, e2] q' vp) p :: rest) c.env) Q E s := by
  have hy : y ∈ m.map (·.1) := let ⟨b, hb⟩ := h2.spec.2.1; List.mem_map_of_mem (f := (·.1)) hb
  have hx : x ∈ m.map (·.1) := h2.spec.1 ▸ (let ⟨b, hb⟩ := (h1 0).spec.2.1; List.mem_map_of_mem (f := (·.1)) hb)
  refine x_swap2 hA S ?_ hx hy hne hl hf hc hst hs
  refine sp_cons (h E _ fun r s1 S1 => ?_) (hs1 _)
  have M : ∀ p ∈ H, p ∈ (r, o) :: H := fun p hp => .tail _ hp
  refine sp_cons (px_i G S1 (P2.more M) fun t s2 S2 => ?_) (hs2 _)
  exact sp_nil _ ⟨_, .val (.ref r), .int i2, m1, _, S2, ⟨rfl, ⟨t, rfl⟩, trivial⟩, h2, h1 r, fun s' S' => k r s' S'⟩

/-- x, y = <a tuple that is no display>, the frame's names told -/
theorem x_twoS {x y : Str} {px py tp p : Pos} {q : Nat} {e : Expr} {rest : List Stmt} {Q : Flow → Shared → Prop} (hA : A.handled = none) (_S : St g B c m H s)
    (h : wpAny (model prog w) A (eval e c.env) (fun val s₁ => ∃ t v u H1 m1 m2, val = .ref t ∧ St g B c m H1 s₁ ∧ (t, O.tup [v, u]) ∈ H1 ∧ Put m x v m1 ∧ Put m1 y u m2 ∧ ∀ s', St g B c m2 H1 s' → wpAny (model prog w) A (execs rest c.env) Q E s') E s)
    (hs : swapsWithSole [.Tuple [.Name x px, .Name y py] q tp] e p.line c.env = pure false := by rfl) (hw : swappedStores [.Tuple [.Name x px, .Name y py] q tp] e c.env = pure none := by rfl) :
    wpAny (model prog w) A (execs (.Assign [.Tuple [.Name x px, .Name y py] q tp] e p :: rest) c.env) Q E s := x_two hA h hs hw

/-- an if whose two ways go on together -/
theorem x_ifJ {t : Expr} {b o : List Stmt} {p : Pos} {bb : Bool} {rest : List Stmt} {Q : Flow → Shared → Prop} (J : Shared → Prop) (G : GW γ B) (S : St g B c m H s) (P : PX c m H true t (.val (.bool bb)))
    (h1 : bb = true → ∀ s', St g B c m H s' → wpAny (model prog w) A (execs b c.env) (fun f s' => f = .next ∧ J s') E s')
    (h2 : bb = false → ∀ s', St g B c m H s' → wpAny (model prog w) A (execs o c.env) (fun f s' => f = .next ∧ J s') E s')
    (k : ∀ s', J s' → wpAny (model prog w) A (execs rest c.env) Q E s') :
    wpAny (model prog w) A (execs (.If t b o p :: rest) c.env) Q E s :=
  x_if G S P (fun h s' S' => wpAny_mono (h1 h s' S') (fun f s'' hq => by obtain ⟨rfl, j⟩ := hq; exact k s'' j) fun _ _ e => e)
    (fun h s' S' => wpAny_mono (h2 h s' S') (fun f s'' hq => by obtain ⟨rfl, j⟩ := hq; exact k s'' j) fun _ _ e => e)
end
end

section

theorem step_up {b c c0 d X : Int} {f : List Int} (hX : vl b f + b ^ f.length * c0 = X) (e : c = c0 + d) : vl b (f ++ [c % b]) + b ^ (f.length + 1) * (c / b) = X + b ^ f.length * d := by
  have h := Int.emod_add_mul_ediv c b
  rw [vl_snoc, Int.pow_succ]
  subst e hX
  generalize b ^ f.length = B at *
  grind
theorem step_down {b l c0 d X : Int} {f : List Int} (hX : vl b f - b ^ f.length * c0 = X) (e : l = d - c0) : vl b (f ++ [if l < 0 then l + b else l]) - b ^ (f.length + 1) * (if l < 0 then 1 else 0) = X + b ^ f.length * d := by
  rw [vl_snoc, Int.pow_succ]
  subst e hX
  generalize b ^ f.length = B at *
  split <;> grind
theorem Lim.snoc {b x : Int} {f : List Int} (h : Lim b f) (k : 0 ≤ x ∧ x < b) : Lim b (f ++ [x]) := h.append (.one k)
theorem emod_lim {b c : Int} (hb : 0 < b) : 0 ≤ c % b ∧ c % b < b := ⟨Int.emod_nonneg _ (by omega), Int.emod_lt_of_pos _ hb⟩
theorem take_ge {x : List Int} {n : Nat} (h : x.length ≤ n) : x.take n = x := List.take_of_length_le h
theorem getD_ge {x : List Int} {n : Nat} (h : x.length ≤ n) : x.getD n 0 = 0 := by rw [List.getD_eq_getElem?_getD, List.getElem?_eq_none h]; rfl
theorem natpow {b k : Nat} : ((b ^ k : Nat) : Int) = (b : Int) ^ k := Int.natCast_pow _ _
theorem lb_le_pow {b : Nat} (hb : 2 ≤ b) {n : Nat} (h : lb b n ≠ []) : (b : Int) ^ ((lb b n).length - 1) ≤ n := by
  have hp : 0 < (lb b n).length := List.length_pos_iff.mpr h
  have := lb_ge hb (k := (lb b n).length - 1) (n := n) (by omega)
  rw [← natpow]; omega
theorem app_lb {b : Nat} (hb : 2 ≤ b) {t : List Int} {z n : Nat} (ht : Lim b t) (hz : 0 < z) (e : vl b t + b ^ t.length * z = n) : t ++ lb b z = lb b n := by
  have hp := (lb_len_pos hb).mpr hz
  refine eq_lb hb (ht.append (lb_lim hb z)) (by rw [vl_append, lb_vl hb]; exact e) (.inr ?_)
  have h1 := lb_ge hb (k := (lb b z).length - 1) (n := z) (by omega)
  have h2 := vl_nonneg (b := b) (by omega) ht
  rw [List.length_append, show t.length + (lb b z).length - 1 = t.length + ((lb b z).length - 1) by omega, Int.pow_add, ← e]
  have h3 : (b : Int) ^ ((lb b z).length - 1) ≤ z := by rw [← natpow]; omega
  have h4 := Int.mul_le_mul_of_nonneg_left h3 (Int.le_of_lt (pow_pos' (b := b) (by omega) t.length))
  omega
end

section
open PySem PySem.Calls
section
variable {prog : Program} {w : World} {g : Shared} {γ : Gl}

theorem is_even_spec (T : Top γ) {k b x : Nat} (hB : Bs k b) {H : Led} {a : Addr} (ha : (a, il (lb b x)) ∈ H) (hx : x < 2 ^ 64) :
    SpecV prog w g γ 1 6 [.val (.ref a)] H (fun v H' => v = .bool (decide (x % 2 = 0)) ∧ H' = H) := by
  refine def_spec T 6 0 [((Str.ofString "a"), .val (.ref a))] 1 [(Str.ofString "a")] [(Str.ofString "len")] rfl (fun cx A B s1 hA G hgs S1 => ?_) (by decide +kernel) (by exact rfl) (by exact rfl) (by exact rfl) (by exact Nat.le_of_ble_eq_true rfl) (by walk_at "bnd")
  have hg0 : (Str.ofString "len") ∈ cx.gs := by rw [hgs]; walk_at "mem"
  clear hgs
  have hl := hB.len hx
  refine x_ret G S1 (by walk_at "px") fun val s2 hv S2 => ?_
  refine ⟨_, _, H, S2, ?_, rfl⟩
  have hv' : val = _ := Option.some.inj hv
  rw [retOf, hv']
  congr 1
  rw [show (0 : Int).toNat = 0 from rfl, lb_get hB.two, Nat.pow_zero, Nat.div_one]
  have h2 : x % b % 2 = x % 2 := Nat.mod_mod_of_dvd x ⟨2 ^ (k - 1), by rw [hB.e, ← Nat.pow_succ']; congr 1; have := hB.k1; omega⟩
  rcases Nat.eq_zero_or_pos x with h | h
  · subst h; rw [lb_zero]; simp
  · have hp := (lb_len_pos hB.two).mpr h
    have e1 : decide (((lb b x).length : Int) = 0) = false := decide_eq_false (by omega)
    rw [e1, Bool.false_or]
    by_cases h3 : x % 2 = 0
    · rw [decide_eq_true h3]; exact decide_eq_true (by omega)
    · rw [decide_eq_false h3]; exact decide_eq_false (by omega)

theorem compare_spec (T : Top γ) {k b x y : Nat} (hB : Bs k b) {H : Led} {a c : Addr} (ha : (a, il (lb b x)) ∈ H) (hc : (c, il (lb b y)) ∈ H) (hx : x < 2 ^ 64) (hy : y < 2 ^ 64) :
    SpecV prog w g γ 1 7 [.val (.ref a), .val (.ref c)] H (RetI (if x < y then -1 else if x = y then 0 else 1) H) := by
  refine def_spec T 7 0 [((Str.ofString "a"), .val (.ref a)), ((Str.ofString "b"), .val (.ref c)), ((Str.ofString "at"), V.any)] 2 [(Str.ofString "a"), (Str.ofString "b"), (Str.ofString "at")] [(Str.ofString "len"), (Str.ofString "range")] rfl (fun cx A B s1 hA G hgs S1 => ?_) (by decide +kernel) (by exact rfl) (by exact rfl) (by exact rfl) (by exact Nat.le_of_ble_eq_true rfl) (by walk_at "bnd")
  have hg0 : (Str.ofString "len") ∈ cx.gs := by rw [hgs]; walk_at "mem"
  have hg1 : (Str.ofString "range") ∈ cx.gs := by rw [hgs]; walk_at "mem"
  clear hgs
  have hl := hB.len hx
  have hm := hB.len hy
  refine x_if G S1 (by walk_at "px") (fun hb s2 S2 => ?_) fun hb s2 S2 => ?_
  · simp only [decide_eq_true_eq] at hb
    refine x_ret G S2 (.ite (c := decide (((lb b x).length : Int) < (lb b y).length)) (by walk_at "px") (fun _ => by walk_at "px") (fun _ => by walk_at "px")) fun val s3 hv S3 => ⟨_, _, H, S3, RetI.mk hv ?_⟩
    have h1 := lb_len_mono hB.two (m := x) (n := y)
    have h2 := lb_len_mono hB.two (m := y) (n := x)
    simp only [decide_eq_true_eq]
    split <;> split <;> (try split) <;> omega
  · simp only [decide_eq_false_iff_not] at hb
    have hlen : (lb b x).length = (lb b y).length := by omega
    refine x_nil ?_
    refine x_forDown (σ := Unit) (fun _ v => [((Str.ofString "a"), .val (.ref a)), ((Str.ofString "b"), .val (.ref c)), ((Str.ofString "at"), v)]) (fun _ => H) (fun i _ => ∀ j, (lb b x).length - i ≤ j → (lb b x).getD j 0 = (lb b y).getD j 0) (lb b x).length (σ₀ := ()) G hA.hd (by walk_at "mem") S2
      (fun j hj => ?_) (by walk_at "pxs") (by omega) (by decide) (by omega) (fun _ v => by walk_at "put") (fun i _ s3 I it hi hP S3 => ?_) (fun _ s3 hP S3 => ?_)
    · rw [List.getD_eq_getElem?_getD, List.getD_eq_getElem?_getD, List.getElem?_eq_none (by omega), List.getElem?_eq_none (by omega)]
    · refine x_if G S3 (by walk_at "px") (fun hb s4 S4 => ?_) fun hb s4 S4 => ?_
      · simp only [decide_eq_true_eq] at hb
        refine x_ret G S4 (.ite (c := decide ((lb b x).getD ((lb b x).length - 1 - i : Int).toNat 0 < (lb b y).getD ((lb b x).length - 1 - i : Int).toNat 0)) (by walk_at "px") (fun _ => by walk_at "px") (fun _ => by walk_at "px")) fun val s5 hv S5 => ⟨_, _, H, S5.tail, RetI.mk hv ?_⟩
        simp only [decide_eq_true_eq]
        have key : ∀ u v : Nat, u < 2 ^ 64 → v < 2 ^ 64 → (lb b u).length = (lb b v).length → (∀ j, ((lb b x).length - 1 - i : Int).toNat < j → (lb b u).getD j 0 = (lb b v).getD j 0) → (lb b u).getD ((lb b x).length - 1 - i : Int).toNat 0 < (lb b v).getD ((lb b x).length - 1 - i : Int).toNat 0 → u < v := fun u v _ _ e h1 h2 => by
          have := lt_of_top (b := b) (by have := hB.lo; omega) (lb_lim hB.two u) (lb_lim hB.two v) e h1 h2
          rw [lb_vl hB.two, lb_vl hB.two] at this; omega
        have k1 := key x y hx hy hlen (fun j hj => hP j (by omega))
        have k2 := key y x hy hx hlen.symm (fun j hj => (hP j (by omega)).symm)
        by_cases h : (lb b x).getD ((lb b x).length - 1 - i : Int).toNat 0 < (lb b y).getD ((lb b x).length - 1 - i : Int).toNat 0
        · have := k1 h; rw [if_pos h, if_pos this]
        · have := k2 (by omega)
          have n1 : ¬ x < y := by omega
          have n2 : ¬ x = y := by omega
          rw [if_neg h, if_neg n1, if_neg n2]
      · simp only [decide_eq_false_iff_not, Decidable.not_not] at hb
        refine x_nil (x_nil ⟨(), S4.fit (by walk_at "weak") (List.Sublist.refl _), fun j hj => ?_⟩)
        by_cases e : j = ((lb b x).length - 1 - i : Int).toNat
        · rw [e]; exact hb
        · exact hP j (by omega)
    · have e : x = y := by
        refine lb_inj hB.two (eq_of_getD hlen fun j => hP j (by omega))
      refine x_ret G S3 (by walk_at "px") fun val s4 hv S4 => ⟨_, _, H, S4, RetI.mk hv ?_⟩
      simp [e]
end
end

section
open PySem PySem.Calls
section
variable {prog : Program} {w : World} {g : Shared} {γ : Gl}

theorem add_spec (T : Top γ) {k b x y : Nat} (hB : Bs k b) {H : Led} {a c : Addr} (ha : (a, il (lb b x)) ∈ H) (hc : (c, il (lb b y)) ∈ H) (hx : x < 2 ^ 64) (hy : y < 2 ^ 64) :
    SpecV prog w g γ 1 8 [.val (.ref a), .val (.ref c), .int k] H (RetL (lb b (x + y)) H) := by
  refine def_spec T 8 0 [((Str.ofString "a"), .val (.ref a)), ((Str.ofString "b"), .val (.ref c)), ((Str.ofString "w"), .int k), ((Str.ofString "found"), V.any), ((Str.ofString "carry"), V.any), ((Str.ofString "mask"), V.any), ((Str.ofString "at"), V.any)] 3 [(Str.ofString "a"), (Str.ofString "b"), (Str.ofString "w"), (Str.ofString "found"), (Str.ofString "carry"), (Str.ofString "mask"), (Str.ofString "at")] [(Str.ofString "len"), (Str.ofString "range")] rfl (fun cx A B s1 hA G hgs S1 => ?_) (by decide +kernel) (by exact rfl) (by exact rfl) (by exact rfl) (by exact Nat.le_of_ble_eq_true rfl) (by walk_at "bnd")
  have hg0 : (Str.ofString "len") ∈ cx.gs := by rw [hgs]; walk_at "mem"
  have hg1 : (Str.ofString "range") ∈ cx.gs := by rw [hgs]; walk_at "mem"
  clear hgs
  have hb2 := hB.two
  have hbp : (0 : Int) < b := by omega
  have hk2 := hB.k2
  refine x_ifJ (fun s => ∃ (p q : Addr) (u v : Nat), (p, il (lb b u)) ∈ H ∧ (q, il (lb b v)) ∈ H ∧ u < 2 ^ 64 ∧ v < 2 ^ 64 ∧ (lb b v).length ≤ (lb b u).length ∧ u + v = x + y ∧
      St g B cx [((Str.ofString "a"), .val (.ref p)), ((Str.ofString "b"), .val (.ref q)), ((Str.ofString "w"), .int k), ((Str.ofString "found"), .any), ((Str.ofString "carry"), .any), ((Str.ofString "mask"), .any), ((Str.ofString "at"), .any)] H s) G S1 (by walk_at "px") (fun hb s2 S2 => ?_) (fun hb s2 S2 => ?_) fun s2 hJ => ?_
  · simp only [decide_eq_true_eq] at hb
    exact x_swapP2 G hA.hd S2 (by walk_at "px") (by walk_at "px") (by walk_at "put") (by walk_at "put") (fun s3 S3 => x_nil ⟨rfl, c, a, y, x, hc, ha, hy, hx, by omega, by omega, S3⟩) rfl rfl rfl rfl rfl (fun _ => rfl) (fun _ => rfl)
  · simp only [decide_eq_false_iff_not] at hb
    exact x_nil ⟨rfl, a, c, x, y, ha, hc, hx, hy, by omega, rfl, S2⟩
  · obtain ⟨p, q, u, v, hp, hq, hu, hv, hle, hsum, S⟩ := hJ
    have hl := hB.len hu
    have hm := hB.len hv
    refine x_swapL3 G hA.hd S (fun E Q k => ev_listI (ns := []) G S .nil (by decide) k) (by walk_at "px") (by walk_at "px") (by walk_at "put") (by walk_at "put") (fun r => by walk_at "put") (fun r s2 S2 => ?_)
      rfl rfl rfl rfl rfl rfl rfl rfl (fun _ => rfl) (fun _ => rfl) (fun _ => rfl)
    refine x_forN (σ := List Int × Int) (fun σ v => [((Str.ofString "a"), .val (.ref p)), ((Str.ofString "b"), .val (.ref q)), ((Str.ofString "w"), .int k), ((Str.ofString "found"), .val (.ref r)), ((Str.ofString "carry"), .int σ.2), ((Str.ofString "mask"), .int (b - 1)), ((Str.ofString "at"), v)]) (fun σ => (r, il σ.1) :: H)
      (fun i σ => σ.1.length = i ∧ Lim b σ.1 ∧ 0 ≤ σ.2 ∧ σ.2 ≤ 1 ∧ vl b σ.1 + b ^ σ.1.length * σ.2 = vl b ((lb b u).take i) + vl b ((lb b v).take i)) (lb b v).length (σ₀ := ([], 0)) G hA.hd (by walk_at "mem") S2
      ⟨rfl, .nil, by decide, by decide, by simp [vl]⟩ (by walk_at "pxs") (by omega) (by omega) (fun _ v => by walk_at "put") (fun i σ s3 I it hi hP S3 => ?_) (fun σ s3 hP S3 => ?_)
    · obtain ⟨h1, h2, h3, h4, h5⟩ := hP
      have l1 := (lb_lim hb2 u).get hbp i
      have l2 := (lb_lim hb2 v).get hbp i
      have t1 : ((i : Int)).toNat = i := rfl
      refine x_aug G S3 (by walk_at "mem") (by walk_at "px") (by walk_at "bini") (by walk_at "put") fun s4 S4 => ?_
      rw [t1] at S4
      refine x_appendI G S4 (by walk_at "px") (by walk_at "mem") (by walk_at "px") (by unfold bigN; omega) (by walk_at "put") fun s5 S5 => ?_
      refine x_aug G S5 (by walk_at "mem") (by walk_at "px") (by walk_at "bini") (by walk_at "put") fun s6 S6 => ?_
      generalize hc0 : σ.2 + ((lb b u).getD i 0 + (lb b v).getD i 0) = c0 at S6
      refine x_nil ⟨(σ.1 ++ [c0 % b], c0 / b), S6.fit (by walk_at "weak") (List.Sublist.refl _), by simp [h1], h2.snoc (emod_lim hbp), Int.ediv_nonneg (by omega) (by omega), ?_, ?_⟩
      · have : c0 / (b : Int) < 2 := Int.ediv_lt_of_lt_mul hbp (by omega)
        show c0 / (b : Int) ≤ 1
        omega
      · have := step_up h5 (c := c0) (d := (lb b u).getD i 0 + (lb b v).getD i 0) hc0.symm
        show vl b (σ.1 ++ [c0 % b]) + b ^ (σ.1 ++ [c0 % b]).length * (c0 / b) = _
        rw [List.length_append, List.length_singleton, this, vl_take_succ, vl_take_succ, h1]
        grind
    · obtain ⟨h1, h2, h3, h4, h5⟩ := hP
      rw [take_ge (Nat.le_refl (lb b v).length), lb_vl hb2] at h5
      refine x_forUp (σ := List Int × Int) (fun σ v => [((Str.ofString "a"), .val (.ref p)), ((Str.ofString "b"), .val (.ref q)), ((Str.ofString "w"), .int k), ((Str.ofString "found"), .val (.ref r)), ((Str.ofString "carry"), .int σ.2), ((Str.ofString "mask"), .int (b - 1)), ((Str.ofString "at"), v)]) (fun σ => (r, il σ.1) :: H)
        (fun i σ => σ.1.length = (lb b v).length + i ∧ Lim b σ.1 ∧ 0 ≤ σ.2 ∧ σ.2 ≤ 1 ∧ vl b σ.1 + b ^ σ.1.length * σ.2 = vl b ((lb b u).take ((lb b v).length + i)) + v) ((lb b u).length - (lb b v).length) (σ₀ := σ) G hA.hd (by walk_at "mem") S3
        ⟨h1, h2, h3, h4, h5⟩ (by walk_at "pxs") (by omega) (by omega) (by omega) (fun _ v => by walk_at "put") (fun i σ s3 I it hi hP S3 => ?_) (fun σ s3 hP S3 => ?_)
      · obtain ⟨h1, h2, h3, h4, h5⟩ := hP
        have l1 := (lb_lim hb2 u).get hbp ((lb b v).length + i)
        have t1 : (((lb b v).length : Int) + (i : Int)).toNat = (lb b v).length + i := by omega
        refine x_aug G S3 (by walk_at "mem") (by walk_at "px") (by walk_at "bini") (by walk_at "put") fun s4 S4 => ?_
        rw [t1] at S4
        refine x_appendI G S4 (by walk_at "px") (by walk_at "mem") (by walk_at "px") (by unfold bigN; omega) (by walk_at "put") fun s5 S5 => ?_
        refine x_aug G S5 (by walk_at "mem") (by walk_at "px") (by walk_at "bini") (by walk_at "put") fun s6 S6 => ?_
        generalize hc0 : σ.2 + (lb b u).getD ((lb b v).length + i) 0 = c0 at S6
        refine x_nil ⟨(σ.1 ++ [c0 % b], c0 / b), S6.fit (by walk_at "weak") (List.Sublist.refl _), by simp [h1]; omega, h2.snoc (emod_lim hbp), Int.ediv_nonneg (by omega) (by omega), ?_, ?_⟩
        · have : c0 / (b : Int) < 2 := Int.ediv_lt_of_lt_mul hbp (by omega)
          show c0 / (b : Int) ≤ 1
          omega
        · have := step_up h5 (c := c0) (d := (lb b u).getD ((lb b v).length + i) 0) hc0.symm
          show vl b (σ.1 ++ [c0 % b]) + b ^ (σ.1 ++ [c0 % b]).length * (c0 / b) = _
          rw [List.length_append, List.length_singleton, this, ← Nat.add_assoc, vl_take_succ, h1]
          grind
      · obtain ⟨h1, h2, h3, h4, h5⟩ := hP
        have hlu : (lb b v).length + ((lb b u).length - (lb b v).length) = (lb b u).length := by omega
        rw [hlu] at h1
        rw [hlu, take_ge (Nat.le_refl (lb b u).length), lb_vl hb2] at h5
        have hn := vl_nonneg hbp h2
        refine x_ifJ (fun s => St g B cx [((Str.ofString "a"), .val (.ref p)), ((Str.ofString "b"), .val (.ref q)), ((Str.ofString "w"), .int k), ((Str.ofString "found"), .val (.ref r)), ((Str.ofString "carry"), .int σ.2), ((Str.ofString "mask"), .int (b - 1)), ((Str.ofString "at"), .any)] ((r, il (lb b (x + y))) :: H) s) G S3 (by walk_at "px") (fun hb s4 S4 => ?_) (fun hb s4 S4 => ?_) fun s4 S4 => ?_
        · simp only [decide_eq_true_eq] at hb
          have h6 : σ.2 = 1 := by omega
          have e : σ.1 ++ [σ.2] = lb b (x + y) := by
            have e1 : vl b (σ.1 ++ [σ.2]) = ((x + y : Nat) : Int) := by rw [vl_snoc, h5, ← hsum]; simp
            refine eq_lb hb2 (h2.snoc (by omega)) e1 (.inr ?_)
            rw [List.length_append, List.length_singleton, Nat.add_sub_cancel, ← e1, vl_snoc, h6]
            omega
          refine x_appendI G S4 (by walk_at "px") (by walk_at "mem") (by walk_at "px") (by unfold bigN; omega) (by walk_at "put") fun s5 S5 => x_nil ⟨rfl, ?_⟩
          rw [← e]; exact S5
        · simp only [decide_eq_false_iff_not] at hb
          have h6 : σ.2 = 0 := by omega
          have e : σ.1 = lb b (x + y) := by
            have e1 : vl b σ.1 = ((x + y : Nat) : Int) := by rw [h6, Int.mul_zero] at h5; rw [← hsum]; simp; omega
            refine eq_lb hb2 h2 e1 ?_
            rcases Nat.eq_zero_or_pos (lb b u).length with h0 | h0
            · exact .inl (List.eq_nil_of_length_eq_zero (by omega))
            · right
              have := lb_le_pow hb2 (n := u) (List.ne_nil_of_length_pos h0)
              rw [h1]; omega
          refine x_nil ⟨rfl, ?_⟩
          rw [← e]; exact S4
        · exact x_retL (px_u G S4 (by walk_at "px") fun s5 S5 => ⟨r, _, _, rfl, S5, .head _, fun p hp => .tail _ hp⟩)
end
end

section
open PySem
theorem or_low {x y : Int} {n : Nat} (hx : 0 ≤ x) (hy : 0 ≤ y) (h : y < 2 ^ n) : Builtin.bitOr (x * 2 ^ n) y = x * 2 ^ n + y := by
  obtain ⟨x, rfl⟩ := Int.eq_ofNat_of_zero_le hx
  obtain ⟨y, rfl⟩ := Int.eq_ofNat_of_zero_le hy
  have e : (x : Int) * 2 ^ n = ((x * 2 ^ n : Nat) : Int) := by rw [Int.natCast_mul, Int.natCast_pow]; rfl
  have h' : y < 2 ^ n := by
    have : ((2 ^ n : Nat) : Int) = 2 ^ n := by rw [Int.natCast_pow]; rfl
    omega
  rw [PyProof.Rows.bitOr_and, e, PyProof.Rows.bitAnd_pp (by omega) (by omega), Int.toNat_natCast, Int.toNat_natCast]
  have : x * 2 ^ n &&& y = 0 := by
    refine Nat.eq_of_testBit_eq fun i => ?_
    rw [Nat.testBit_and, Nat.zero_testBit, Nat.testBit_mul_two_pow]
    rcases Nat.lt_or_ge i n with h1 | h1
    · have : ¬ n ≤ i := by omega
      simp [this]
    · rw [Nat.testBit_lt_two_pow (Nat.lt_of_lt_of_le h' (Nat.pow_le_pow_right (by omega) h1)), Bool.and_false]
  rw [this]; simp
theorem or_high {x y : Int} {n : Nat} (hx : 0 ≤ x) (hy : 0 ≤ y) (h : y < 2 ^ n) : Builtin.bitOr y (x * 2 ^ n) = y + x * 2 ^ n := by
  rw [PyProof.Rows.bitOr_comm, or_low hx hy h, Int.add_comm]
theorem or_b {k b : Nat} (hB : Bs k b) {x y : Int} (hx : 0 ≤ x) (hy : 0 ≤ y) (h : y < b) : Builtin.bitOr (x * b) y = x * b + y := by
  have := or_low (n := k) hx hy (by rw [hB.i]; exact h)
  rwa [hB.i] at this
theorem vl_set_drop {b q : Int} {x : List Int} {j : Nat} (h : j < x.length) : vl b ((x.set j q).drop j) = q + b * vl b (x.drop (j + 1)) := by
  rw [vl_drop_succ, getD_set h, if_pos rfl, drop_set (Nat.lt_succ_self j)]
theorem vl_drop_ge {b : Int} {x : List Int} {j : Nat} (h : x.length ≤ j) : vl b (x.drop j) = 0 := by rw [List.drop_of_length_le h]; rfl
theorem mulb_lt {b r a l : Int} (hl : r < l) (ha : a < b) (hb : 0 < b) (hl0 : 0 < l) : (r * b + a) / l < b := by
  refine Int.ediv_lt_of_lt_mul hl0 ?_
  have := Int.mul_le_mul_of_nonneg_left (show r + 1 ≤ l by omega) (Int.le_of_lt hb)
  rw [Int.mul_add, Int.mul_comm b r] at this
  omega
theorem shr_digit {k b n x i : Nat} (hb : b = 2 ^ k) (hn : n < k) : (x / b ^ i % b / 2 ^ n + x / b ^ (i + 1) % b * 2 ^ (k - n)) % b = x / 2 ^ n / b ^ i % b := by
  have hc : x / 2 ^ n / b ^ i = x / b ^ i / 2 ^ n := by rw [Nat.div_div_eq_div_mul, Nat.div_div_eq_div_mul, Nat.mul_comm]
  have hs : x / b ^ (i + 1) = x / b ^ i / b := by rw [Nat.pow_succ, ← Nat.div_div_eq_div_mul]
  rw [hc, hs]
  generalize x / b ^ i = X
  have e : b = 2 ^ n * 2 ^ (k - n) := by rw [hb, ← Nat.pow_add]; congr 1; omega
  have h1 := Nat.mod_add_div X b
  have h2 := Nat.mod_add_div (X / b) b
  have h3 : X / 2 ^ n = X % b / 2 ^ n + 2 ^ (k - n) * (X / b) := by
    conv => lhs; rw [← h1]
    rw [show b * (X / b) = 2 ^ n * (2 ^ (k - n) * (X / b)) by conv => lhs; rw [e, Nat.mul_assoc, ← e]]
    rw [Nat.add_mul_div_left _ _ (Nat.two_pow_pos n)]
  rw [h3]
  conv => rhs; rw [← h2]
  rw [Nat.mul_add, ← Nat.add_assoc, show 2 ^ (k - n) * (b * (X / b / b)) = b * (2 ^ (k - n) * (X / b / b)) by rw [← Nat.mul_assoc, ← Nat.mul_assoc, Nat.mul_comm b], Nat.add_mul_mod_self_left, Nat.mul_comm (2 ^ (k - n))]
theorem mod_succ {b y i : Nat} : y % b ^ (i + 1) = y % b ^ i + b ^ i * (y / b ^ i % b) := by rw [Nat.pow_succ, Nat.mod_mul]
theorem natdm {q l r x : Nat} (h : q * l + r = x) (hr : r < l) : q = x / l ∧ r = x % l := by
  subst h
  constructor
  · rw [Nat.mul_comm, Nat.mul_add_div (by omega), Nat.div_eq_of_lt hr, Nat.add_zero]
  · rw [Nat.mul_comm, Nat.mul_add_mod, Nat.mod_eq_of_lt hr]
theorem intBits_spec {x : Nat} (hx : 0 < x) : ∃ L : Nat, Builtin.Int.intBits (x : Int) = L + 1 ∧ 2 ^ L ≤ x ∧ x < 2 ^ (L + 1) := by
  refine ⟨x.log2, ?_, Nat.log2_self_le (by omega), Nat.lt_log2_self⟩
  unfold Builtin.Int.intBits
  have : ((x : Int) == 0) = false := by rw [beq_eq_false_iff_ne]; omega
  rw [this]; simp
end

section
open PySem PySem.Calls
section
variable {prog : Program} {w : World} {g s : Shared} {B : Heap} {c : Cx} {m : Loc} {H : Led} {A : Around} {E : Value → Shared → Prop} {γ : Gl}

theorem normal_lb (T : Top γ) {k b n : Nat} (hB : Bs k b) {H : Led} {a : Addr} {ns : List Int} (ha : (a, il ns) ∈ H) (hl : ns.length ≤ 1000) (h1 : Lim b ns) (h2 : vl b ns = n) :
    SpecV prog w g γ 1 5 [.val (.ref a)] H (RetL (lb b n) H) := by
  have := normal_spec (prog := prog) (w := w) (g := g) T ha hl
  rwa [trim_lb hB.two h1 h2] at this

theorem ev_compare (T : Top γ) {k b x y n : Nat} (hB : Bs k b) {a d : Addr} {e1 e2 : Expr} {p p' : Pos} {Q : Value → Shared → Prop} (G : GW γ B) (hA : AOk A n) (S : St g B c m H s) (hg : (Str.ofString "compare") ∈ c.gs) (P : PXs c m H [e1, e2] [.val (.ref a), .val (.ref d)])
    (ha : (a, il (lb b x)) ∈ H) (hd : (d, il (lb b y)) ∈ H) (hx : x < 2 ^ 64) (hy : y < 2 ^ 64) (hn : 1 ≤ n) (k : ∀ t s', St g B c m H s' → Q (.int (if x < y then -1 else if x = y then 0 else 1) t) s')
    (he : starEach [e1, e2] c.env = (false, eval e1 c.env) :: starEach [e2] c.env := by rfl) :
    wpAny (model prog w) A (eval (.Call (.Name (Str.ofString "compare") p) [e1, e2] [] p') c.env) Q E s :=
  ev_callS T 7 1 n G hA S hg P (compare_spec T hB ha hd hx hy) (fun v s' H' S' hp => by obtain ⟨⟨t, rfl⟩, rfl⟩ := hp; exact k t s' S') hn (by decide) rfl he
theorem t_cmpLt (T : Top γ) {k b x y n : Nat} (hB : Bs k b) {a d : Addr} {e1 e2 : Expr} {p p' p'' p3 : Pos} {kk : Nat} {Q : Bool → Shared → Prop} (G : GW γ B) (hA : AOk A n) (S : St g B c m H s) (hg : (Str.ofString "compare") ∈ c.gs) (P : PXs c m H [e1, e2] [.val (.ref a), .val (.ref d)])
    (ha : (a, il (lb b x)) ∈ H) (hd : (d, il (lb b y)) ∈ H) (hx : x < 2 ^ 64) (hy : y < 2 ^ 64) (hn : 1 ≤ n) (k : ∀ s', St g B c m H s' → Q (decide (x < y)) s')
    (he : starEach [e1, e2] c.env = (false, eval e1 c.env) :: starEach [e2] c.env := by rfl) :
    wpAny (model prog w) A (isTrue (.Compare (.Call (.Name (Str.ofString "compare") p) [e1, e2] [] p') [.Lt] [.Constant (.int 0) kk p3] p'') c.env (eval (.Compare (.Call (.Name (Str.ofString "compare") p) [e1, e2] [] p') [.Lt] [.Constant (.int 0) kk p3] p'') c.env)) Q E s := by
  refine wpAny_isTrue_Compare1 (ev_compare T hB G hA S hg P ha hd hx hy hn (fun t s1 S1 => px_i G S1 .int fun u s2 S2 => cmp_int (.lt _ _) (wpAny_truthy_bool ?_)) he) rfl
  have e : decide ((if x < y then (-1 : Int) else if x = y then 0 else 1) < 0) = decide (x < y) := by
    by_cases h : x < y
    · simp [h]
    · by_cases h' : x = y <;> simp [h, h']
  rw [e]; exact k s2 S2
theorem t_cmpGe (T : Top γ) {k b x y n : Nat} (hB : Bs k b) {a d : Addr} {e1 e2 : Expr} {p p' p'' p3 : Pos} {kk : Nat} {Q : Bool → Shared → Prop} (G : GW γ B) (hA : AOk A n) (S : St g B c m H s) (hg : (Str.ofString "compare") ∈ c.gs) (P : PXs c m H [e1, e2] [.val (.ref a), .val (.ref d)])
    (ha : (a, il (lb b x)) ∈ H) (hd : (d, il (lb b y)) ∈ H) (hx : x < 2 ^ 64) (hy : y < 2 ^ 64) (hn : 1 ≤ n) (k : ∀ s', St g B c m H s' → Q (decide (y ≤ x)) s')
    (he : starEach [e1, e2] c.env = (false, eval e1 c.env) :: starEach [e2] c.env := by rfl) :
    wpAny (model prog w) A (isTrue (.Compare (.Call (.Name (Str.ofString "compare") p) [e1, e2] [] p') [.GtE] [.Constant (.int 0) kk p3] p'') c.env (eval (.Compare (.Call (.Name (Str.ofString "compare") p) [e1, e2] [] p') [.GtE] [.Constant (.int 0) kk p3] p'') c.env)) Q E s := by
  refine wpAny_isTrue_Compare1 (ev_compare T hB G hA S hg P ha hd hx hy hn (fun t s1 S1 => px_i G S1 .int fun u s2 S2 => cmp_int (.ge _ _) (wpAny_truthy_bool ?_)) he) rfl
  have e : decide (0 ≤ (if x < y then (-1 : Int) else if x = y then 0 else 1)) = decide (y ≤ x) := by
    by_cases h : x < y
    · have : ¬ y ≤ x := by omega
      simp [h, this]
    · have h2 : y ≤ x := by omega
      by_cases h' : x = y <;> simp [h, h', h2]
  rw [e]; exact k s2 S2

theorem sub_spec (T : Top γ) {k b x y : Nat} (hB : Bs k b) {H : Led} {a c : Addr} (ha : (a, il (lb b x)) ∈ H) (hc : (c, il (lb b y)) ∈ H) (hx : x < 2 ^ 64) (hy : y ≤ x) :
    SpecV prog w g γ 2 9 [.val (.ref a), .val (.ref c), .int k] H (RetL (lb b (x - y)) H) := by
  refine def_spec T 9 1 [((Str.ofString "a"), .val (.ref a)), ((Str.ofString "b"), .val (.ref c)), ((Str.ofString "w"), .int k), ((Str.ofString "found"), V.any), ((Str.ofString "borrow"), V.any), ((Str.ofString "base"), V.any), ((Str.ofString "at"), V.any), ((Str.ofString "limb"), V.any)] 3 [(Str.ofString "a"), (Str.ofString "b"), (Str.ofString "w"), (Str.ofString "found"), (Str.ofString "borrow"), (Str.ofString "base"), (Str.ofString "at"), (Str.ofString "limb")] [(Str.ofString "compare"), (Str.ofString "len"), (Str.ofString "normal"), (Str.ofString "range"), (Str.ofString "OutOfRange")] rfl (fun cx A B s1 hA G hgs S1 => ?_) (by decide +kernel) (by exact rfl) (by exact rfl) (by exact rfl) (by exact Nat.le_of_ble_eq_true rfl) (by walk_at "bnd")
  have hg0 : (Str.ofString "compare") ∈ cx.gs := by rw [hgs]; walk_at "mem"
  have hg1 : (Str.ofString "len") ∈ cx.gs := by rw [hgs]; walk_at "mem"
  have hg2 : (Str.ofString "normal") ∈ cx.gs := by rw [hgs]; walk_at "mem"
  have hg3 : (Str.ofString "range") ∈ cx.gs := by rw [hgs]; walk_at "mem"
  have hg4 : (Str.ofString "OutOfRange") ∈ cx.gs := by rw [hgs]; walk_at "mem"
  clear hgs
  have hb2 := hB.two
  have hbp : (0 : Int) < b := by omega
  have hl := hB.len hx
  have hm := hB.len (n := y) (by omega)
  have hle := lb_len_mono hb2 hy
  refine x_ifG (t_cmpLt T hB G hA S1 (by walk_at "mem") (by walk_at "pxs") ha hc hx (by omega) (by omega) fun s2 S2 => ite_b (fun hb => by simp at hb; omega) fun hb => x_nil ?_)
  refine x_swapL3 G hA.hd S2 (fun E Q k => ev_listI (ns := []) G S2 .nil (by decide) k) (by walk_at "px") (by walk_at "px") (by walk_at "put") (by walk_at "put") (fun r => by walk_at "put") (fun r s3 S3 => ?_)
      rfl rfl rfl rfl rfl rfl rfl rfl (fun _ => rfl) (fun _ => rfl) (fun _ => rfl)
  refine x_forN (σ := List Int × Int) (fun σ v => [((Str.ofString "a"), .val (.ref a)), ((Str.ofString "b"), .val (.ref c)), ((Str.ofString "w"), .int k), ((Str.ofString "found"), .val (.ref r)), ((Str.ofString "borrow"), .int σ.2), ((Str.ofString "base"), .int b), ((Str.ofString "at"), v), ((Str.ofString "limb"), .any)]) (fun σ => (r, il σ.1) :: H)
      (fun i σ => σ.1.length = i ∧ Lim b σ.1 ∧ 0 ≤ σ.2 ∧ σ.2 ≤ 1 ∧ vl b σ.1 - b ^ σ.1.length * σ.2 = vl b ((lb b x).take i) - vl b ((lb b y).take i)) (lb b x).length (σ₀ := ([], 0)) G hA.hd (by walk_at "mem") S3
      ⟨rfl, .nil, by decide, by decide, by simp [vl]⟩ (by walk_at "pxs") (by omega) (by omega) (fun _ v => by walk_at "put") (fun i σ s3 I it hi hP S3 => ?_) (fun σ s3 hP S3 => ?_)
  · obtain ⟨h1, h2, h3, h4, h5⟩ := hP
    have l1 := (lb_lim hb2 x).get hbp i
    have l2 := (lb_lim hb2 y).get hbp i
    have t1 : ((i : Int)).toNat = i := rfl
    refine x_asg G S3 (.bin (.bin (by walk_at "px") (by walk_at "px") (.sub _ _)) (.ite (c := decide ((i : Int) < (lb b y).length)) (by walk_at "px") (fun h => by simp only [decide_eq_true_eq] at h; walk_at "px") (fun h => by walk_at "px")) (.sub _ _)) (by walk_at "put") fun s4 S4 => ?_
    rw [t1] at S4
    have e0 : (if decide ((i : Int) < (lb b y).length) = true then (lb b y).getD i 0 else 0) = (lb b y).getD i 0 := by
      split
      · rfl
      · rename_i h; rw [getD_ge]; simp at h; omega
    rw [e0] at S4
    generalize hl0 : (lb b x).getD i 0 - σ.2 - (lb b y).getD i 0 = l0 at S4
    refine x_asg G S4 (.ite (c := decide (l0 < 0)) (by walk_at "px") (fun h => by walk_at "px") (fun h => by walk_at "px")) (by walk_at "put") fun s5 S5 => ?_
    refine x_appendI G S5 (by walk_at "px") (by walk_at "mem") (.ite (c := decide (l0 < 0)) (by walk_at "px") (fun h => by walk_at "px") (fun h => by walk_at "px")) (by unfold bigN; omega) (by walk_at "put") fun s6 S6 => ?_
    simp only [decide_eq_true_eq] at S6
    refine x_nil ⟨(σ.1 ++ [if l0 < 0 then l0 + b else l0], if l0 < 0 then 1 else 0), S6.fit (by walk_at "weak") (List.Sublist.refl _), by simp [h1], h2.snoc (by split <;> omega), by show (0:Int) ≤ if l0 < 0 then 1 else 0; split <;> omega, by show (if l0 < 0 then 1 else 0) ≤ (1:Int); split <;> omega, ?_⟩
    have := step_down h5 (l := l0) (d := (lb b x).getD i 0 - (lb b y).getD i 0) (by omega)
    show vl b (σ.1 ++ [_]) - b ^ (σ.1 ++ [_]).length * _ = _
    rw [List.length_append, List.length_singleton, this, vl_take_succ, vl_take_succ, h1]
    grind
  · obtain ⟨h1, h2, h3, h4, h5⟩ := hP
    rw [take_ge (Nat.le_refl _), take_ge hle, lb_vl hb2, lb_vl hb2] at h5
    have e : vl b σ.1 = ((x - y : Nat) : Int) := by
      have hlt := vl_lt hbp h2
      have h6 : σ.2 = 0 := by
        rcases Int.lt_or_eq_of_le h4 with h | h
        · omega
        · rw [h] at h5; omega
      rw [h6] at h5; simp at h5; omega
    refine x_retL (ev_callS T 5 1 1 G hA S3 (by walk_at "mem") (by walk_at "pxs") (normal_lb T hB (n := x - y) (.head _) (by omega) h2 e) fun v s4 H' S4 hp => ?_)
    obtain ⟨r', rfl, h7, h8⟩ := hp
    exact ⟨r', _, _, rfl, S4, h7, fun p hp => h8 p (.tail _ hp)⟩

theorem lifted_spec (T : Top γ) {k b x n : Nat} (hB : Bs k b) {H : Led} {a : Addr} (ha : (a, il (lb b x)) ∈ H) (hx : x < 2 ^ 64) (hn : n ≤ 1000) :
    SpecV prog w g γ 1 10 [.val (.ref a), .int n] H (RetL (lb b (x * b ^ n)) H) := by
  refine def_spec T 10 0 [((Str.ofString "a"), .val (.ref a)), ((Str.ofString "spot"), .int n)] 2 [(Str.ofString "a"), (Str.ofString "spot")] [(Str.ofString "len")] rfl (fun cx A B s1 hA G hgs S1 => ?_) (by decide +kernel) (by exact rfl) (by exact rfl) (by exact rfl) (by exact Nat.le_of_ble_eq_true rfl) (by walk_at "bnd")
  have hg0 : (Str.ofString "len") ∈ cx.gs := by rw [hgs]; walk_at "mem"
  clear hgs
  have hb2 := hB.two
  have hl := hB.len hx
  refine x_retL (wpAny_IfExp (px_t G S1 (by walk_at "px") fun s2 S2 => ite_b (fun hb => ?_) fun hb => ?_))
  · simp only [decide_eq_true_eq] at hb
    refine wpAny_BinOp (ev_rep G S2 .int (by walk_at "px") (by unfold bigN; omega) (fun _ => rfl) fun r s3 S3 => px_u G S3 (by walk_at "px") fun s4 S4 => bo_concatI S4 (.head _) (.tail _ ha) (by rw [List.length_replicate]; unfold bigN; omega) fun r2 s5 S5 => ?_)
    have e : List.replicate n 0 ++ lb b x = lb b (x * b ^ n) := by
      refine app_lb hb2 (.zeros (by omega) _) ((lb_len_pos hb2).mp (by omega)) ?_
      rw [vl_zeros, List.length_replicate, ← natpow, Int.zero_add, Nat.mul_comm]; simp
    rw [e] at S5
    exact ⟨_, _, _, rfl, S5, .head _, fun p hp => .tail _ (.tail _ hp)⟩
  · simp only [decide_eq_false_iff_not] at hb
    have e : x = 0 := (lb_nil hb2).mp (List.eq_nil_of_length_eq_zero (by omega))
    refine ev_listI (ns := []) G S2 .nil (by decide) fun r s3 S3 => ⟨r, _, _, rfl, S3, ?_, fun p hp => .tail _ hp⟩
    rw [e, Nat.zero_mul, lb_zero]; exact .head _

theorem add_at_spec (T : Top γ) {k b x y n : Nat} (hB : Bs k b) {H : Led} {a c : Addr} (ha : (a, il (lb b x)) ∈ H) (hc : (c, il (lb b y)) ∈ H) (hx : x < 2 ^ 64) (hy : y < 2 ^ 64) (hn : n ≤ 1000) :
    SpecV prog w g γ 2 11 [.val (.ref a), .val (.ref c), .int n, .int k] H (RetL (lb b (x + y * b ^ n)) H) := by
  refine def_spec T 11 1 [((Str.ofString "a"), .val (.ref a)), ((Str.ofString "b"), .val (.ref c)), ((Str.ofString "spot"), .int n), ((Str.ofString "w"), .int k)] 4 [(Str.ofString "a"), (Str.ofString "b"), (Str.ofString "spot"), (Str.ofString "w")] [(Str.ofString "len"), (Str.ofString "add")] rfl (fun cx A B s1 hA G hgs S1 => ?_) (by decide +kernel) (by exact rfl) (by exact rfl) (by exact rfl) (by exact Nat.le_of_ble_eq_true rfl) (by walk_at "bnd")
  have hg0 : (Str.ofString "len") ∈ cx.gs := by rw [hgs]; walk_at "mem"
  have hg1 : (Str.ofString "add") ∈ cx.gs := by rw [hgs]; walk_at "mem"
  clear hgs
  have hb2 := hB.two
  have hbp : (0 : Int) < b := by omega
  have hl := hB.len hx
  have hm := hB.len hy
  refine x_if G S1 (by walk_at "px") (fun hb s2 S2 => ?_) fun hb s2 S2 => x_nil ?_
  · simp only [decide_eq_true_eq] at hb
    have e : y = 0 := (lb_nil hb2).mp (List.eq_nil_of_length_eq_zero (by omega))
    refine x_retG (ev_sliceI (l := none) (u := none) G S2 (by walk_at "px") ha .none .none (fun i h => by cases h) (fun i h => by cases h) fun r s3 S3 => ⟨_, _, _, S3, r, rfl, ?_, fun p hp => .tail _ hp⟩)
    rw [e, Nat.zero_mul, Nat.add_zero]; exact .head _
  · simp only [decide_eq_false_iff_not] at hb
    have hy0 : 0 < y := (lb_len_pos hb2).mp (by omega)
    refine x_if G S2 (by walk_at "px") (fun hb s3 S3 => ?_) fun hb s3 S3 => x_nil ?_
    · simp only [decide_eq_true_eq] at hb
      have hnn : (n : Int) - (lb b x).length = ((n - (lb b x).length : Nat) : Int) := by omega
      refine x_retG (wpAny_BinOp (wpAny_BinOp (px_u G S3 (by walk_at "px") fun s4 S4 => ev_rep (n := n - (lb b x).length) G S4 .int (by rw [← hnn]; walk_at "px") (by unfold bigN; omega) (fun _ => rfl) fun r s5 S5 => bo_concatI S5 (.tail _ ha) (.head _) (by rw [List.length_replicate]; unfold bigN; omega) fun r2 s6 S6 =>
        px_u G S6 (by walk_at "px") fun s7 S7 => bo_concatI S7 (.head _) (.tail _ (.tail _ hc)) (by rw [List.length_append, List.length_replicate]; unfold bigN; omega) fun r3 s8 S8 => ?_)))
      have e : lb b x ++ List.replicate (n - (lb b x).length) 0 ++ lb b y = lb b (x + y * b ^ n) := by
        refine app_lb hb2 ((lb_lim hb2 x).append (.zeros (by omega) _)) hy0 ?_
        rw [vl_append, vl_zeros, List.length_append, List.length_replicate, lb_vl hb2, show (lb b x).length + (n - (lb b x).length) = n by omega, ← natpow, Nat.mul_comm y]; simp
      rw [e] at S8
      exact ⟨_, _, _, S8, _, rfl, .head _, fun p hp => .tail _ (.tail _ (.tail _ hp))⟩
    · simp only [decide_eq_false_iff_not] at hb
      have hdiv : x / b ^ n < 2 ^ 64 := Nat.lt_of_le_of_lt (Nat.div_le_self _ _) hx
      refine x_retG (wpAny_BinOp (ev_sliceI (l := none) (u := some (n : Int)) G S3 (by walk_at "px") ha .none (by walk_at "pe") (fun i h => by cases h) (fun i h => by cases h; omega) fun r s4 S4 => ?_))
      refine ev_callG T 8 G S4 (by walk_at "mem") fun s5 S5 => sp_cons (ev_sliceI (l := some (n : Int)) (u := none) G S5 (by walk_at "px") (.tail _ ha) (by walk_at "pe") .none (fun i h => by cases h; omega) (fun i h => by cases h) fun r2 s6 S6 => pxs G (vs := [.val (.ref c), .int k]) (by walk_at "pxs") S6 fun xs s7 hxs S7 => ⟨⟨_, _, _, S7⟩, ?_⟩)
      have hd : cutL (lb b x) (some (n : Int)) none = lb b (x / b ^ n) := lb_drop hb2 n x
      rw [hd] at S7
      refine (add_spec T hB (x := x / b ^ n) (y := y) (H := (r2, il (lb b (x / b ^ n))) :: (r, il (cutL (lb b x) none (some (n : Int)))) :: H) (.head _) (.tail _ (.tail _ hc)) hdiv hy (.ref r2 :: xs) ⟨rfl, hxs⟩).use G hA (by omega) S7 fun v s8 H' S8 hp => ?_
      obtain ⟨r3, rfl, h7, h8⟩ := hp
      have hlen : (lb b (x / b ^ n + y)).length ≤ 65 := lb_len_le hb2 (Nat.lt_of_lt_of_le (show x / b ^ n + y < 2 ^ 65 by omega) (Nat.pow_le_pow_left hb2 65))
      have ht : ((lb b x).take n).length = n := by rw [List.length_take]; omega
      refine bo_concatI S8 (h8 _ (.tail _ (.head _))) h7 (by show ((lb b x).take n).length + _ ≤ _; unfold bigN; omega) fun r4 s9 S9 => ?_
      have e : (lb b x).take n ++ lb b (x / b ^ n + y) = lb b (x + y * b ^ n) := by
        refine app_lb hb2 ((lb_lim hb2 x).take _) (Nat.add_pos_right _ hy0) ?_
        rw [lb_take hb2, ht, ← natpow, ← Int.natCast_mul, ← Int.natCast_add]
        congr 1
        have := Nat.mod_add_div x (b ^ n)
        rw [Nat.mul_add, Nat.mul_comm y]; omega
      have e2 : cutL (lb b x) none (some (n : Int)) ++ lb b (x / b ^ n + y) = lb b (x + y * b ^ n) := e
      rw [e2] at S9
      exact ⟨_, _, _, S9, _, rfl, .head _, fun p hp => .tail _ (h8 _ (.tail _ (.tail _ hp)))⟩
end
end

section
open PySem
/-- one step of the inverse -/
theorem inv_step {b d f e : Int} (he : e ∣ b) (h : e ∣ (d * f - 1) * (d * f - 1)) : e ∣ d * (f * ((2 - d * f) % b) % b) - 1 := by
  have h1 := Int.emod_add_mul_ediv (2 - d * f) b
  have h2 := Int.emod_add_mul_ediv (f * ((2 - d * f) % b)) b
  generalize (2 - d * f) % b = r at *
  generalize (2 - d * f) / b = q at *
  generalize (f * r) % b = r2 at *
  generalize (f * r) / b = q2 at *
  have e1 : d * r2 - 1 = -((d * f - 1) * (d * f - 1)) - b * (d * f * q + d * q2) := by grind
  rw [e1]
  exact Int.dvd_sub (Int.dvd_neg.mpr h) (Int.dvd_trans he (Int.dvd_mul_right _ _))
theorem inv_start {b d : Int} (h8 : 8 ∣ b) (hd : d % 2 = 1) : 8 ∣ d * (d % b) - 1 := by
  have h1 := Int.emod_add_mul_ediv d b
  have e1 : d * (d % b) - 1 = (d * d - 1) - b * (d * (d / b)) := by grind
  rw [e1]
  refine Int.dvd_sub ?_ (Int.dvd_trans h8 (Int.dvd_mul_right _ _))
  obtain ⟨t, rfl⟩ : ∃ t, d = 2 * t + 1 := ⟨d / 2, by omega⟩
  have e2 : (2 * t + 1) * (2 * t + 1) - 1 = 4 * (t * (t + 1)) := by grind
  rw [e2]
  have : ∃ u, t * (t + 1) = 2 * u := by
    rcases Int.emod_two_eq t with h | h
    · exact ⟨t / 2 * (t + 1), by have : t = 2 * (t / 2) := by omega
                                 grind⟩
    · exact ⟨t * ((t + 1) / 2), by have : t + 1 = 2 * ((t + 1) / 2) := by omega
                                   grind⟩
  obtain ⟨u, hu⟩ := this
  exact ⟨u, by rw [hu]; omega⟩
theorem sq_dvd {e x : Int} (h : e ∣ x) : e * e ∣ x * x := Int.mul_dvd_mul h h
theorem mul_step {b c f carry l o : Int} (hb : 0 < b) (hf : 0 ≤ f ∧ f < b) (hc : 0 ≤ carry ∧ carry < b) (hl : 0 ≤ l ∧ l < b) (ho : 0 ≤ o ∧ o < b) (e : c = carry + (f + l * o)) : 0 ≤ c ∧ 0 ≤ c / b ∧ c / b < b := by
  have h0 := Int.mul_nonneg hl.1 ho.1
  have h1 : l * o ≤ (b - 1) * (b - 1) := Int.mul_le_mul (by omega) (by omega) ho.1 (by omega)
  have h2 : (b - 1) * (b - 1) = b * b - b - b + 1 := by grind
  refine ⟨by omega, Int.ediv_nonneg (by omega) (by omega), Int.ediv_lt_of_lt_mul hb (by omega)⟩
/-- the inner step of a product: one limb turns -/
theorem vl_mul_step {b c carry d : Int} {x : List Int} {i : Nat} (hi : i < x.length) (e : c = carry + (x.getD i 0 + d)) :
    vl b (x.set i (c % b)) + b ^ (i + 1) * (c / b) = vl b x + b ^ i * carry + b ^ i * d := by
  rw [vl_set hi, Int.pow_succ]
  have h := Int.emod_add_mul_ediv c b
  generalize b ^ i = P at *
  generalize x.getD i 0 = g at *
  grind
/-- a row whose limbs from k on are zero -/
theorem vl_high_zero {b : Int} : ∀ {x : List Int} {k : Nat}, (∀ j, k ≤ j → x.getD j 0 = 0) → vl b (x.drop k) = 0
  | [], k, _ => by simp [vl]
  | a :: r, 0, h => by
    have h0 : a = 0 := by simpa using h 0 (Nat.le_refl _)
    have := vl_high_zero (b := b) (x := r) (k := 0) (fun j _ => by simpa using h (j + 1) (by omega))
    rw [List.drop_zero] at this ⊢
    rw [vl, this, h0]; simp
  | a :: r, k + 1, h => by
    rw [List.drop_succ_cons]
    exact vl_high_zero (fun j hj => by simpa using h (j + 1) (by omega))
theorem vl_low {b : Int} {x : List Int} {k : Nat} (h : ∀ j, k ≤ j → x.getD j 0 = 0) : vl b x = vl b (x.take k) := by
  rw [vl_split x k, vl_high_zero h]; simp
end

section
open PySem PySem.Calls
section
variable {prog : Program} {w : World} {g s : Shared} {B : Heap} {c : Cx} {m : Loc} {H : Led} {A : Around} {E : Value → Shared → Prop} {γ : Gl}

/-- a pair is given back: a row and what v says -/
noncomputable def RetP (ns : List Int) (u : V) (H : Led) : Value → Led → Prop := fun v H' => ∃ t r, v = .ref t ∧ (t, O.tup [.val (.ref r), u]) ∈ H' ∧ (r, il ns) ∈ H' ∧ ∀ p ∈ H, p ∈ H'

theorem divrem_limb_spec (T : Top γ) {k b x l : Nat} (hB : Bs k b) {H : Led} {a : Addr} (ha : (a, il (lb b x)) ∈ H) (hx : x < 2 ^ 64) (hl0 : 0 < l) (hlb : l < b) :
    SpecV prog w g γ 2 12 [.val (.ref a), .int l, .int k] H (RetP (lb b (x / l)) (.int (x % l : Nat)) H) := by
  refine def_spec T 12 1 [((Str.ofString "a"), .val (.ref a)), ((Str.ofString "limb"), .int l), ((Str.ofString "w"), .int k), ((Str.ofString "found"), V.any), ((Str.ofString "rest"), V.any), ((Str.ofString "at"), V.any)] 3 [(Str.ofString "a"), (Str.ofString "limb"), (Str.ofString "w"), (Str.ofString "found"), (Str.ofString "rest"), (Str.ofString "at")] [(Str.ofString "len"), (Str.ofString "range"), (Str.ofString "normal"), (Str.ofString "DivisionByZero")] rfl (fun cx A B s1 hA G hgs S1 => ?_) (by decide +kernel) (by exact rfl) (by exact rfl) (by exact rfl) (by exact Nat.le_of_ble_eq_true rfl) (by walk_at "bnd")
  have hg0 : (Str.ofString "len") ∈ cx.gs := by rw [hgs]; walk_at "mem"
  have hg1 : (Str.ofString "range") ∈ cx.gs := by rw [hgs]; walk_at "mem"
  have hg2 : (Str.ofString "normal") ∈ cx.gs := by rw [hgs]; walk_at "mem"
  have hg3 : (Str.ofString "DivisionByZero") ∈ cx.gs := by rw [hgs]; walk_at "mem"
  clear hgs
  have hb2 := hB.two
  have hhi := hB.hi
  have hbp : (0 : Int) < b := by omega
  have hl := hB.len hx
  refine x_if G S1 (by walk_at "px") (fun hb s2 S2 => by simp only [decide_eq_true_eq] at hb; omega) fun hb s2 S2 => x_nil ?_
  refine x_swapL2 G hA.hd S2 (fun E Q k => ev_rep (n := (lb b x).length) G S2 .int (by walk_at "px") (by unfold bigN; omega) (fun _ => rfl) k) (by walk_at "px") (by walk_at "put") (fun r => by walk_at "put") (fun r s3 S3 => ?_) rfl rfl rfl rfl rfl (fun _ => rfl) (fun _ => rfl)
  refine x_forDown (σ := List Int × Int) (fun σ v => [((Str.ofString "a"), .val (.ref a)), ((Str.ofString "limb"), .int l), ((Str.ofString "w"), .int k), ((Str.ofString "found"), .val (.ref r)), ((Str.ofString "rest"), .int σ.2), ((Str.ofString "at"), v)]) (fun σ => (r, il σ.1) :: H)
    (fun i σ => σ.1.length = (lb b x).length ∧ Lim b σ.1 ∧ 0 ≤ σ.2 ∧ σ.2 < l ∧ vl b (σ.1.drop ((lb b x).length - i)) * l + σ.2 = vl b ((lb b x).drop ((lb b x).length - i))) (lb b x).length (σ₀ := (List.replicate (lb b x).length 0, 0)) G hA.hd (by walk_at "mem") S3
    ⟨List.length_replicate, .zeros hbp _, Int.le_refl 0, by show (0:Int) < l; omega, by rw [Nat.sub_zero, vl_drop_ge (by rw [List.length_replicate]; omega), vl_drop_ge (Nat.le_refl _)]; simp⟩ (by walk_at "pxs") (by omega) (by decide) (by omega) (fun _ v => by walk_at "put") (fun i σ s4 I it hi hP S4 => ?_) (fun σ s4 hP S4 => ?_)
  · obtain ⟨h1, h2, h3, h4, h5⟩ := hP
    obtain ⟨j, hj⟩ : ∃ j, (lb b x).length = j + i + 1 := ⟨(lb b x).length - i - 1, by omega⟩
    have t1 : ((lb b x).length - 1 - i : Int).toNat = j := by omega
    have l1 := (lb_lim hb2 x).get hbp j
    have hor := or_b hB (x := σ.2) (y := (lb b x).getD j 0) h3 l1.1 l1.2
    rw [← t1] at hor
    refine x_asg G S4 (by walk_at "px") (by walk_at "put") fun s5 S5 => ?_
    rw [t1] at S5
    have hr0 : 0 ≤ σ.2 * b + (lb b x).getD j 0 := Int.add_nonneg (Int.mul_nonneg h3 (by omega)) l1.1
    generalize hr : σ.2 * b + (lb b x).getD j 0 = rr at S5 hr0
    refine x_setI G S5 (by walk_at "px") (by walk_at "px") (by walk_at "px") (by walk_at "mem") (by omega) (by omega) (by walk_at "put") fun s6 S6 => ?_
    rw [t1] at S6
    refine x_aug G S6 (by walk_at "mem") (by walk_at "px") (.mod (by omega)) (by walk_at "put") fun s7 S7 => ?_
    have hq : rr / l < b := by rw [← hr]; exact mulb_lt h4 l1.2 hbp (by omega)
    refine x_nil ⟨(σ.1.set j (rr / l), rr % l), S7.fit (by walk_at "weak") (List.Sublist.refl _), by simp [h1], h2.set _ ⟨Int.ediv_nonneg hr0 (by omega), hq⟩, Int.emod_nonneg _ (by omega), Int.emod_lt_of_pos _ (by omega), ?_⟩
    rw [show (lb b x).length - (i + 1) = j by omega]
    rw [show (lb b x).length - i = j + 1 by omega] at h5
    show vl b ((σ.1.set j (rr / l)).drop j) * l + rr % l = _
    rw [vl_set_drop (by omega), vl_drop_succ (x := lb b x) (i := j), ← h5]
    have := Int.emod_add_mul_ediv rr l
    grind
  · obtain ⟨h1, h2, h3, h4, h5⟩ := hP
    rw [Nat.sub_self, List.drop_zero, List.drop_zero, lb_vl hb2] at h5
    obtain ⟨q, hq⟩ := Int.eq_ofNat_of_zero_le (vl_nonneg hbp h2)
    obtain ⟨r0, hr0⟩ := Int.eq_ofNat_of_zero_le h3
    have hqr : q * l + r0 = x := by rw [hq, hr0] at h5; exact_mod_cast h5
    obtain ⟨e1, e2⟩ := natdm hqr (by omega)
    refine x_retG (ev_Tuple (sp_cons (ev_callS T 5 1 1 G hA S4 (by walk_at "mem") (by walk_at "pxs") (normal_lb T hB (n := q) (.head _) (by omega) h2 hq) fun v s5 H' S5 hp => ?_)))
    obtain ⟨r', rfl, h7, h8⟩ := hp
    refine sp_cons (px_i G S5 (by walk_at "px") fun t s6 S6 => sp_nil _ (ev_newTuple (vs := [.val (.ref r'), .int (x % l : Nat)]) S6 ⟨rfl, ⟨t, by rw [hr0, e2]⟩, trivial⟩ (by simp [bigN]) fun r2 s7 S7 => ?_))
    exact ⟨_, _, _, S7, _, r', rfl, .head _, .tail _ (e1 ▸ h7), fun p hp => .tail _ (h8 p (.tail _ hp))⟩

theorem shift_left_spec (T : Top γ) {k b x n : Nat} (hB : Bs k b) {H : Led} {a : Addr} (ha : (a, il (lb b x)) ∈ H) (hx : x < 2 ^ 64) (hn : n < k) :
    SpecV prog w g γ 1 13 [.val (.ref a), .int n, .int k] H (RetL (lb b (x * 2 ^ n)) H) := by
  refine def_spec T 13 0 [((Str.ofString "a"), .val (.ref a)), ((Str.ofString "n"), .int n), ((Str.ofString "w"), .int k), ((Str.ofString "spots"), V.any), ((Str.ofString "few"), V.any), ((Str.ofString "found"), V.any), ((Str.ofString "carry"), V.any), ((Str.ofString "mask"), V.any), ((Str.ofString "one"), V.any)] 3 [(Str.ofString "a"), (Str.ofString "n"), (Str.ofString "w"), (Str.ofString "spots"), (Str.ofString "few"), (Str.ofString "found"), (Str.ofString "carry"), (Str.ofString "mask"), (Str.ofString "one")] [(Str.ofString "len")] rfl (fun cx A B s1 hA G hgs S1 => ?_) (by decide +kernel) (by exact rfl) (by exact rfl) (by exact rfl) (by exact Nat.le_of_ble_eq_true rfl) (by walk_at "bnd")
  have hg0 : (Str.ofString "len") ∈ cx.gs := by rw [hgs]; walk_at "mem"
  clear hgs
  have hb2 := hB.two
  have hhi := hB.hi
  have hk1 := hB.k1
  have hk2 := hB.k2
  have hbp : (0 : Int) < b := by omega
  have hl := hB.len hx
  have h2n : (2 : Int) ^ n < b := by
    rw [← hB.i]
    have := Nat.pow_lt_pow_right (a := 2) (by omega) hn
    have e : ∀ j, ((2 ^ j : Nat) : Int) = (2 : Int) ^ j := fun j => by rw [Int.natCast_pow]; rfl
    rw [← e, ← e]; omega
  have h2p : (0 : Int) < 2 ^ n := pow_pos' (by decide) n
  refine x_if G S1 (by walk_at "px") (fun hb s2 S2 => ?_) fun hb s2 S2 => x_nil ?_
  · simp only [decide_eq_true_eq] at hb
    have e : x = 0 := (lb_nil hb2).mp (List.eq_nil_of_length_eq_zero (by omega))
    refine x_retG (ev_listI (ns := []) G S2 .nil (by decide) fun r s3 S3 => ⟨_, _, _, S3, r, rfl, ?_, fun p hp => .tail _ hp⟩)
    rw [e, Nat.zero_mul, lb_zero]; exact .head _
  · simp only [decide_eq_false_iff_not] at hb
    have hx0 : 0 < x := (lb_len_pos hb2).mp (by omega)
    refine x_swapP2 G hA.hd S2 (by walk_at "px") (by walk_at "px") (by walk_at "put") (by walk_at "put") (fun s3 S3 => ?_) rfl rfl rfl rfl rfl (fun _ => rfl) (fun _ => rfl)
    rw [show (n : Int) / k = ((0 : Nat) : Int) from Int.ediv_eq_zero_of_lt (by omega) (by omega), Int.emod_eq_of_lt (by omega) (by omega)] at S3
    refine x_swapL3 G hA.hd S3 (fun E Q k => ev_rep (n := 0) G S3 .int (by walk_at "px") (by unfold bigN; omega) (fun _ => rfl) k) (by walk_at "px") (by walk_at "px") (by walk_at "put") (by walk_at "put") (fun r => by walk_at "put") (fun r s4 S4 => ?_)
      rfl rfl rfl rfl rfl rfl rfl rfl (fun _ => rfl) (fun _ => rfl) (fun _ => rfl)
    refine x_forList (σ := List Int × Int) (l := a) (ns := lb b x) (fun σ v => [((Str.ofString "a"), .val (.ref a)), ((Str.ofString "n"), .int n), ((Str.ofString "w"), .int k), ((Str.ofString "spots"), .int (0 : Nat)), ((Str.ofString "few"), .int n), ((Str.ofString "found"), .val (.ref r)), ((Str.ofString "carry"), .int σ.2), ((Str.ofString "mask"), .int (b - 1)), ((Str.ofString "one"), v)]) (fun σ => (r, il σ.1) :: H)
      (fun i σ => σ.1.length = i ∧ Lim b σ.1 ∧ 0 ≤ σ.2 ∧ σ.2 < 2 ^ n ∧ vl b σ.1 + b ^ σ.1.length * σ.2 = vl b ((lb b x).take i) * 2 ^ n) (σ₀ := ([], 0)) G hA.hd S4
      ⟨rfl, .nil, by decide, h2p, by simp [vl]⟩ (by walk_at "px") (fun i σ _ => .tail _ ha) (fun _ v => by walk_at "put") (fun i σ s5 I it hi hP S5 => ?_) (fun σ s5 hP S5 => ?_)
    · obtain ⟨h1, h2, h3, h4, h5⟩ := hP
      have l1 := (lb_lim hb2 x).get hbp i
      have hor := or_high (n := n) (x := (lb b x).getD i 0) (y := σ.2) l1.1 h3 h4
      refine x_aug G S5 (by walk_at "mem") (.bin (by walk_at "px") (by walk_at "px") (.shl n rfl (by omega) (by omega))) (.or hor) (by walk_at "put") fun s6 S6 => ?_
      have hm0 := Int.mul_nonneg l1.1 (Int.le_of_lt h2p)
      generalize hc0 : σ.2 + (lb b x).getD i 0 * 2 ^ n = c0 at S6
      refine x_appendI G S6 (by walk_at "px") (by walk_at "mem") (by walk_at "px") (by unfold bigN; omega) (by walk_at "put") fun s7 S7 => ?_
      refine x_aug G S7 (by walk_at "mem") (by walk_at "px") (by walk_at "bini") (by walk_at "put") fun s8 S8 => ?_
      refine x_nil ⟨(σ.1 ++ [c0 % b], c0 / b), S8.fit (by walk_at "weak") (List.Sublist.refl _), by simp [h1], h2.snoc (emod_lim hbp), Int.ediv_nonneg (by omega) (by omega), ?_, ?_⟩
      · refine Int.ediv_lt_of_lt_mul hbp ?_
        have := Int.mul_le_mul_of_nonneg_right (show (lb b x).getD i 0 + 1 ≤ b by omega) (Int.le_of_lt h2p)
        rw [Int.add_mul, Int.one_mul] at this
        rw [Int.mul_comm (2 ^ n)]
        omega
      · have := step_up h5 (c := c0) (d := (lb b x).getD i 0 * 2 ^ n) hc0.symm
        show vl b (σ.1 ++ [c0 % b]) + b ^ (σ.1 ++ [c0 % b]).length * (c0 / b) = _
        rw [List.length_append, List.length_singleton, this, vl_take_succ, h1]
        grind
    · obtain ⟨h1, h2, h3, h4, h5⟩ := hP
      rw [take_ge (Nat.le_refl _), lb_vl hb2] at h5
      have hn0 := vl_nonneg hbp h2
      have hxx : (x : Int) * 2 ^ n = ((x * 2 ^ n : Nat) : Int) := by rw [Int.natCast_mul, Int.natCast_pow]; rfl
      refine x_ifJ (fun s => St g B cx [((Str.ofString "a"), .val (.ref a)), ((Str.ofString "n"), .int n), ((Str.ofString "w"), .int k), ((Str.ofString "spots"), .int (0 : Nat)), ((Str.ofString "few"), .int n), ((Str.ofString "found"), .val (.ref r)), ((Str.ofString "carry"), .int σ.2), ((Str.ofString "mask"), .int (b - 1)), ((Str.ofString "one"), .any)] ((r, il (lb b (x * 2 ^ n))) :: H) s) G S5 (by walk_at "px") (fun hb s6 S6 => ?_) (fun hb s6 S6 => ?_) fun s6 S6 => ?_
      · simp only [decide_eq_true_eq] at hb
        have e : σ.1 ++ [σ.2] = lb b (x * 2 ^ n) := by
          have e1 : vl b (σ.1 ++ [σ.2]) = ((x * 2 ^ n : Nat) : Int) := by rw [vl_snoc, h5, hxx]
          refine eq_lb hb2 (h2.snoc (by omega)) e1 (.inr ?_)
          rw [List.length_append, List.length_singleton, Nat.add_sub_cancel, ← e1, vl_snoc]
          have := Int.mul_le_mul_of_nonneg_left (show 1 ≤ σ.2 by omega) (Int.le_of_lt (pow_pos' hbp σ.1.length))
          omega
        refine x_appendI G S6 (by walk_at "px") (by walk_at "mem") (by walk_at "px") (by unfold bigN; omega) (by walk_at "put") fun s7 S7 => x_nil ⟨rfl, ?_⟩
        rw [← e]; exact S7
      · simp only [decide_eq_false_iff_not] at hb
        have h6 : σ.2 = 0 := by omega
        have e : σ.1 = lb b (x * 2 ^ n) := by
          have e1 : vl b σ.1 = ((x * 2 ^ n : Nat) : Int) := by rw [h6, Int.mul_zero] at h5; omega
          refine eq_lb hb2 h2 e1 (.inr ?_)
          have := lb_le_pow hb2 (n := x) (List.ne_nil_of_length_pos (by omega))
          have h7 : x ≤ x * 2 ^ n := Nat.le_mul_of_pos_right _ (Nat.two_pow_pos n)
          rw [h1]; omega
        refine x_nil ⟨rfl, ?_⟩
        rw [← e]; exact S6
      · exact x_retG (px_u G S6 (by walk_at "px") fun s7 S7 => ⟨_, _, _, S7, r, rfl, .head _, fun p hp => .tail _ hp⟩)

set_option maxHeartbeats 1000000 in
theorem shift_right_spec (T : Top γ) {k b x n : Nat} (hB : Bs k b) {H : Led} {a : Addr} (ha : (a, il (lb b x)) ∈ H) (hx : x < 2 ^ 64) (hn : n < k) :
    SpecV prog w g γ 2 14 [.val (.ref a), .int n, .int k] H (RetL (lb b (x / 2 ^ n)) H) := by
  refine def_spec T 14 1 [((Str.ofString "a"), .val (.ref a)), ((Str.ofString "n"), .int n), ((Str.ofString "w"), .int k), ((Str.ofString "spots"), V.any), ((Str.ofString "few"), V.any), ((Str.ofString "found"), V.any), ((Str.ofString "mask"), V.any), ((Str.ofString "at"), V.any), ((Str.ofString "above"), V.any)] 3 [(Str.ofString "a"), (Str.ofString "n"), (Str.ofString "w"), (Str.ofString "spots"), (Str.ofString "few"), (Str.ofString "found"), (Str.ofString "mask"), (Str.ofString "at"), (Str.ofString "above")] [(Str.ofString "len"), (Str.ofString "range"), (Str.ofString "normal")] rfl (fun cx A B s1 hA G hgs S1 => ?_) (by decide +kernel) (by exact rfl) (by exact rfl) (by exact rfl) (by exact Nat.le_of_ble_eq_true rfl) (by walk_at "bnd")
  have hg0 : (Str.ofString "len") ∈ cx.gs := by rw [hgs]; walk_at "mem"
  have hg1 : (Str.ofString "range") ∈ cx.gs := by rw [hgs]; walk_at "mem"
  have hg2 : (Str.ofString "normal") ∈ cx.gs := by rw [hgs]; walk_at "mem"
  clear hgs
  have hb2 := hB.two
  have hhi := hB.hi
  have hk1 := hB.k1
  have hk2 := hB.k2
  have hbp : (0 : Int) < b := by omega
  have hl := hB.len hx
  have e2 : ∀ j, ((2 ^ j : Nat) : Int) = (2 : Int) ^ j := fun j => by rw [Int.natCast_pow]; rfl
  refine x_swapP2 G hA.hd S1 (by walk_at "px") (by walk_at "px") (by walk_at "put") (by walk_at "put") (fun s3 S3 => ?_) rfl rfl rfl rfl rfl (fun _ => rfl) (fun _ => rfl)
  rw [Int.ediv_eq_zero_of_lt (by omega) (by omega), Int.emod_eq_of_lt (by omega) (by omega)] at S3
  refine x_swapL2 G hA.hd S3 (fun E Q k => ev_listI (ns := []) G S3 .nil (by decide) k) (by walk_at "px") (by walk_at "put") (fun r => by walk_at "put") (fun r s4 S4 => ?_) rfl rfl rfl rfl rfl (fun _ => rfl) (fun _ => rfl)
  refine x_forUp (σ := List Int) (fun σ v => [((Str.ofString "a"), .val (.ref a)), ((Str.ofString "n"), .int n), ((Str.ofString "w"), .int k), ((Str.ofString "spots"), .int 0), ((Str.ofString "few"), .int n), ((Str.ofString "found"), .val (.ref r)), ((Str.ofString "mask"), .int (b - 1)), ((Str.ofString "at"), v), ((Str.ofString "above"), .any)]) (fun σ => (r, il σ) :: H)
      (fun i σ => σ.length = i ∧ Lim b σ ∧ vl b σ = (x / 2 ^ n % b ^ i : Nat)) (lb b x).length (σ₀ := []) G hA.hd (by walk_at "mem") S4
      ⟨rfl, .nil, by simp [vl, Nat.mod_one]⟩ (by walk_at "pxs") (by omega) (by omega) (by omega) (fun _ v => by walk_at "put") (fun i σ s5 I it hi hP S5 => ?_) (fun σ s5 hP S5 => ?_)
  · obtain ⟨h1, h2, h3⟩ := hP
    rw [Int.zero_add] at S5
    have l1 := (lb_lim hb2 x).get hbp i
    have l2 := (lb_lim hb2 x).get hbp (i + 1)
    refine x_asg G S5 (.ite (c := decide ((i : Int) + 1 < (lb b x).length)) (by walk_at "px") (fun h => by simp only [decide_eq_true_eq] at h; walk_at "px") (fun h => by walk_at "px")) (by walk_at "put") fun s6 S6 => ?_
    have e0 : (if decide ((i : Int) + 1 < (lb b x).length) = true then (lb b x).getD ((i : Int) + 1).toNat 0 else 0) = (lb b x).getD (i + 1) 0 := by
      rw [show ((i : Int) + 1).toNat = i + 1 from rfl]
      split
      · rfl
      · rename_i h; rw [getD_ge]; simp at h; omega
    rw [e0] at S6
    have hlow : (lb b x).getD i 0 / 2 ^ n < 2 ^ (k - n) := by
      refine Int.ediv_lt_of_lt_mul (pow_pos' (by decide) n) ?_
      rw [← Int.pow_add, show k - n + n = k by omega, hB.i]; exact l1.2
    have hor : Builtin.bitOr ((lb b x).getD ((i : Int)).toNat 0 / 2 ^ n) ((lb b x).getD (i + 1) 0 * 2 ^ (k - n)) = (lb b x).getD ((i : Int)).toNat 0 / 2 ^ n + (lb b x).getD (i + 1) 0 * 2 ^ (k - n) := or_high (n := k - n) (x := (lb b x).getD (i + 1) 0) (y := (lb b x).getD i 0 / 2 ^ n) l2.1 (Int.ediv_nonneg l1.1 (Int.le_of_lt (pow_pos' (by decide) n))) hlow
    have t1 : ((i : Int)).toNat = i := rfl
    refine x_appendI G S6 (by walk_at "px") (by walk_at "mem") (.bin (.bin (.bin (by walk_at "px") (by walk_at "px") (.shr n rfl)) (.bin (by walk_at "px") (by walk_at "px") (.shl (k - n) (by omega) (by omega) (by omega))) (.or hor)) (by walk_at "px") (by walk_at "bini")) (by unfold bigN; omega) (by walk_at "put") fun s7 S7 => ?_
    have ed : ((lb b x).getD ((i : Int)).toNat 0 / 2 ^ n + (lb b x).getD (i + 1) 0 * 2 ^ (k - n)) % b = ((x / 2 ^ n / b ^ i % b : Nat) : Int) := by
      rw [t1, lb_get hb2, lb_get hb2, ← e2, ← e2, ← shr_digit hB.e hn]
      simp
    rw [ed] at S7
    refine x_nil ⟨σ ++ [((x / 2 ^ n / b ^ i % b : Nat) : Int)], S7.fit (by walk_at "weak") (List.Sublist.refl _), by simp [h1], h2.snoc ⟨by omega, ?_⟩, ?_⟩
    · have := Nat.mod_lt (x / 2 ^ n / b ^ i) (show 0 < b by omega)
      omega
    · rw [vl_snoc, h3, h1, mod_succ, ← natpow, ← Int.natCast_mul, ← Int.natCast_add]
  · obtain ⟨h1, h2, h3⟩ := hP
    rw [Nat.mod_eq_of_lt (Nat.lt_of_le_of_lt (Nat.div_le_self _ _) (lb_lt hb2 x))] at h3
    refine x_retL (ev_callS T 5 1 1 G hA S5 (by walk_at "mem") (by walk_at "pxs") (normal_lb T hB (n := x / 2 ^ n) (.head _) (by omega) h2 h3) fun v s4 H' S4 hp => ?_)
    obtain ⟨r', rfl, h7, h8⟩ := hp
    exact ⟨r', _, _, rfl, S4, h7, fun p hp => h8 p (.tail _ hp)⟩

theorem piece_spec (T : Top γ) {k b x i j : Nat} (hB : Bs k b) {H : Led} {a : Addr} (ha : (a, il (lb b x)) ∈ H) (hx : x < 2 ^ 64) :
    SpecV prog w g γ 2 16 [.val (.ref a), .int i, .int j] H (RetL (lb b (x / b ^ i % b ^ (j - i))) H) := by
  refine def_spec T 16 1 [((Str.ofString "a"), .val (.ref a)), ((Str.ofString "begin"), .int i), ((Str.ofString "end"), .int j)] 3 [(Str.ofString "a"), (Str.ofString "begin"), (Str.ofString "end")] [(Str.ofString "normal")] rfl (fun cx A B s1 hA G hgs S1 => ?_) (by decide +kernel) (by exact rfl) (by exact rfl) (by exact rfl) (by exact Nat.le_of_ble_eq_true rfl) (by walk_at "bnd")
  have hg0 : (Str.ofString "normal") ∈ cx.gs := by rw [hgs]; walk_at "mem"
  clear hgs
  have hb2 := hB.two
  have hbp : (0 : Int) < b := by omega
  have hl := hB.len hx
  refine x_retL (ev_callG T 5 G S1 (by walk_at "mem") fun s5 S5 => sp_cons (ev_sliceI (l := some (i : Int)) (u := some (j : Int)) G S5 (by walk_at "px") ha (by walk_at "pe") (by walk_at "pe") (fun i h => by cases h; omega) (fun i h => by cases h; omega) fun r2 s6 S6 => sp_nil _ ⟨⟨_, _, _, S6⟩, ?_⟩))
  have e : cutL (lb b x) (some (i : Int)) (some (j : Int)) = (lb b (x / b ^ i)).take (j - i) := by
    show ((lb b x).drop i).take (j - i) = _
    rw [lb_drop hb2]
  rw [e] at S6
  refine (normal_lb T hB (H := (r2, il ((lb b (x / b ^ i)).take (j - i))) :: H) (n := x / b ^ i % b ^ (j - i)) (.head _) ?_ ((lb_lim hb2 _).take _) (lb_take hb2 _ _) [.ref r2] ⟨rfl, trivial⟩).use G hA (by omega) S6 fun v s7 H' S7 hp => ?_
  · rw [List.length_take]
    have := hB.len (n := x / b ^ i) (Nat.lt_of_le_of_lt (Nat.div_le_self _ _) hx)
    omega
  · obtain ⟨r', rfl, h7, h8⟩ := hp
    exact ⟨r', _, _, rfl, S7, h7, fun p hp => h8 p (.tail _ hp)⟩
end
end

section
open PySem PySem.Calls
section
variable {prog : Program} {w : World} {g s : Shared} {B : Heap} {c : Cx} {m : Loc} {H : Led} {A : Around} {E : Value → Shared → Prop} {γ : Gl}

theorem inverse_limb_spec (T : Top γ) {k b d : Nat} (hB : Bs k b) {H : Led} (hd : d % 2 = 1) (hd2 : d < 256) :
    SpecV prog w g γ 1 18 [.int d, .int k] H (fun v H' => ∃ f t, v = .int f t ∧ 0 ≤ f ∧ f < b ∧ (b : Int) ∣ d * f - 1 ∧ H' = H) := by
  refine def_spec T 18 0 [((Str.ofString "d"), .int d), ((Str.ofString "w"), .int k), ((Str.ofString "whole"), V.any), ((Str.ofString "found"), V.any), ((Str.ofString "sure"), V.any)] 2 [(Str.ofString "d"), (Str.ofString "w"), (Str.ofString "whole"), (Str.ofString "found"), (Str.ofString "sure")] [(Str.ofString "NoInverse")] rfl (fun cx A B s1 hA G hgs S1 => ?_) (by decide +kernel) (by exact rfl) (by exact rfl) (by exact rfl) (by exact Nat.le_of_ble_eq_true rfl) (by walk_at "bnd")
  have hg0 : (Str.ofString "NoInverse") ∈ cx.gs := by rw [hgs]; walk_at "mem"
  clear hgs
  have hb2 := hB.two
  have hhi := hB.hi
  have hk1 := hB.k1
  have hk2 := hB.k2
  have hbp : (0 : Int) < b := by omega
  refine x_if G S1 (by walk_at "px") (fun hb s2 S2 => by simp only [decide_eq_true_eq] at hb; omega) fun hb s2 S2 => x_nil ?_
  refine x_asg G S2 (by walk_at "px") (by walk_at "put") fun s3 S3 => ?_
  refine x_swapP2 G hA.hd S3 (by walk_at "px") (by walk_at "px") (by walk_at "put") (by walk_at "put") (fun s4 S4 => ?_) rfl rfl rfl rfl rfl (fun _ => rfl) (fun _ => rfl)
  refine x_whileP (σ := Int × Nat) (fun σ => [((Str.ofString "d"), .int d), ((Str.ofString "w"), .int k), ((Str.ofString "whole"), .int b), ((Str.ofString "found"), .int σ.1), ((Str.ofString "sure"), .int σ.2)]) (fun _ => H) (fun σ => 0 ≤ σ.1 ∧ σ.1 < b ∧ 3 ≤ σ.2 ∧ σ.2 < 1000 ∧ ((2 : Int) ^ (min σ.2 k)) ∣ d * σ.1 - 1) (fun σ => k - σ.2) (bb := fun σ => decide ((σ.2 : Int) < k)) (σ₀ := ((d : Int) % b, 3)) G S4
    ⟨Int.emod_nonneg _ (by omega), Int.emod_lt_of_pos _ hbp, Nat.le_refl _, by show 3 < 1000; decide, ?_⟩ (fun σ hP => by walk_at "px") (fun σ s5 hP hb S5 => ?_) (fun σ s5 hP hb S5 => ?_)
  · rw [Nat.min_eq_left (by omega)]
    refine inv_start ?_ (by omega)
    rw [← hB.i]; exact ⟨2 ^ (k - 3), by rw [show (8 : Int) = 2 ^ 3 from rfl, ← Int.pow_add]; congr 1; omega⟩
  · obtain ⟨h1, h2, h3, h4, h5⟩ := hP
    simp only [decide_eq_true_eq] at hb
    refine x_asg G S5 (by walk_at "px") (by walk_at "put") fun s6 S6 => ?_
    refine x_asg G S6 (by walk_at "px") (by walk_at "put") fun s7 S7 => ?_
    refine x_nil ⟨(σ.1 * ((2 - d * σ.1) % b) % b, 2 * σ.2), ?_, ⟨Int.emod_nonneg _ (by omega), Int.emod_lt_of_pos _ hbp, by show 3 ≤ 2 * σ.2; omega, by show 2 * σ.2 < 1000; omega, ?_⟩, by show k - 2 * σ.2 < k - σ.2; omega⟩
    · have e : ((2 * σ.2 : Nat) : Int) = 2 * (σ.2 : Int) := by simp
      show St g B _ [_, _, _, _, (_, .int ((2 * σ.2 : Nat) : Int))] H s7
      rw [e]; exact S7
    · refine inv_step ?_ ?_
      · rw [← hB.i]; exact ⟨2 ^ (k - min (2 * σ.2) k), by rw [← Int.pow_add]; congr 1; show k = min (2 * σ.2) k + (k - min (2 * σ.2) k); omega⟩
      · have hmin : min σ.2 k = σ.2 := by omega
        rw [hmin] at h5
        have := sq_dvd h5
        rw [← Int.pow_add] at this
        refine Int.dvd_trans ?_ this
        exact ⟨2 ^ (σ.2 + σ.2 - min (2 * σ.2) k), by rw [← Int.pow_add]; congr 1; show σ.2 + σ.2 = min (2 * σ.2) k + (σ.2 + σ.2 - min (2 * σ.2) k); omega⟩
  · obtain ⟨h1, h2, h3, h4, h5⟩ := hP
    simp only [decide_eq_false_iff_not] at hb
    rw [Nat.min_eq_right (by omega), hB.i] at h5
    refine x_ret G S5 (by walk_at "px") fun val s6 hv S6 => ⟨_, _, H, S6, ?_⟩
    obtain ⟨t, e⟩ := hv
    cases e
    exact ⟨_, t, rfl, h1, h2, h5, rfl⟩

theorem bits_spec (T : Top γ) {k b x : Nat} {H : Led} {a : Addr} (ha : (a, il [(x : Int)]) ∈ H) (hx : 0 < x) :
    SpecV prog w g γ 1 15 [.val (.ref a), .int k] H (fun v H' => ∃ L t, v = .int ((L + 1 : Nat) : Int) t ∧ 2 ^ L ≤ x ∧ x < 2 ^ (L + 1) ∧ H' = H) := by
  refine def_spec T 15 0 [((Str.ofString "a"), .val (.ref a)), ((Str.ofString "w"), .int k)] 2 [(Str.ofString "a"), (Str.ofString "w")] [(Str.ofString "len")] rfl (fun cx A B s1 hA G hgs S1 => ?_) (by decide +kernel) (by exact rfl) (by exact rfl) (by exact rfl) (by exact Nat.le_of_ble_eq_true rfl) (by walk_at "bnd")
  have hg0 : (Str.ofString "len") ∈ cx.gs := by rw [hgs]; walk_at "mem"
  clear hgs
  obtain ⟨L, e1, e2, e3⟩ := intBits_spec hx
  have l1 : [(x : Int)].length = 1 := rfl
  refine x_retG (wpAny_IfExp (px_t G S1 (by walk_at "px") fun s2 S2 => ite_b (fun hb => ?_) fun hb => by simp at hb))
  refine wpAny_BinOp (px_i G S2 (.bin (.bin (by walk_at "px") (by walk_at "px") (.sub _ _)) (by walk_at "px") (.mul (by rw [l1]; decide))) fun t s3 S3 => ?_)
  refine wpAny_Call_method (T := "int") (id := "int.bit_length") rfl rfl rfl F.plainAttrs_int F.slot_int_bit_length F.type_int_bit_length (px_i G S3 (by walk_at "px") fun t2 s4 S4 => ⟨typeIs_int _ _ _, (fun _ e => by cases e), ?_⟩)
  refine callWith_builtin rfl (PyProof.Rows.evalArgs_empty ?_)
  refine PyProof.Rows.call_int_bit_length (binop_int (.add _ _) fun t3 tk => ?_)
  refine ⟨_, _, H, (S4.toks _).toks tk, L, t3, ?_, e2, e3, rfl⟩
  show Value.int _ t3 = _
  congr 1
  have e4 : [(x : Int)].getD (-1 + (([(x : Int)].length : Nat) : Int)).toNat 0 = x := rfl
  rw [e4, e1, l1]; simp
end
end

section
open PySem PySem.Calls
section
variable {prog : Program} {w : World} {g s : Shared} {B : Heap} {c : Cx} {m : Loc} {H : Led} {A : Around} {E : Value → Shared → Prop} {γ : Gl}

set_option maxHeartbeats 1000000 in
theorem mul_school_spec (T : Top γ) {k b x y : Nat} (hB : Bs k b) {H : Led} {a c : Addr} (ha : (a, il (lb b x)) ∈ H) (hc : (c, il (lb b y)) ∈ H) (hx : x < 2 ^ 64) (hy : y < 2 ^ 64) :
    SpecV prog w g γ 2 34 [.val (.ref a), .val (.ref c), .int k] H (RetL (lb b (x * y)) H) := by
  refine def_spec T 34 1 [((Str.ofString "a"), .val (.ref a)), ((Str.ofString "b"), .val (.ref c)), ((Str.ofString "w"), .int k), ((Str.ofString "found"), V.any), ((Str.ofString "mask"), V.any), ((Str.ofString "at"), V.any), ((Str.ofString "limb"), V.any), ((Str.ofString "carry"), V.any), ((Str.ofString "spot"), V.any), ((Str.ofString "other"), V.any)] 3 [(Str.ofString "a"), (Str.ofString "b"), (Str.ofString "w"), (Str.ofString "found"), (Str.ofString "mask"), (Str.ofString "at"), (Str.ofString "limb"), (Str.ofString "carry"), (Str.ofString "spot"), (Str.ofString "other")] [(Str.ofString "len"), (Str.ofString "enumerate"), (Str.ofString "normal")] rfl (fun cx A B s1 hA G hgs S1 => ?_) (by decide +kernel) (by exact rfl) (by exact rfl) (by exact rfl) (by exact Nat.le_of_ble_eq_true rfl) (by walk_at "bnd")
  have hg0 : (Str.ofString "len") ∈ cx.gs := by rw [hgs]; walk_at "mem"
  have hg1 : (Str.ofString "enumerate") ∈ cx.gs := by rw [hgs]; walk_at "mem"
  have hg2 : (Str.ofString "normal") ∈ cx.gs := by rw [hgs]; walk_at "mem"
  clear hgs
  have hb2 := hB.two
  have hhi := hB.hi
  have hbp : (0 : Int) < b := by omega
  have hl := hB.len hx
  have hm := hB.len hy
  refine x_swapL2 G hA.hd S1 (fun E Q k => ev_rep (n := (lb b x).length + (lb b y).length) G S1 .int (by rw [Int.natCast_add]; walk_at "px") (by unfold bigN; omega) (fun _ => rfl) k) (by walk_at "px") (by walk_at "put") (fun r => by walk_at "put") (fun r s3 S3 => ?_) rfl rfl rfl rfl rfl (fun _ => rfl) (fun _ => rfl)
  refine x_forEnum (σ := List Int) (l := a) (ns := lb b x) (fun σ v u => [((Str.ofString "a"), .val (.ref a)), ((Str.ofString "b"), .val (.ref c)), ((Str.ofString "w"), .int k), ((Str.ofString "found"), .val (.ref r)), ((Str.ofString "mask"), .int (b - 1)), ((Str.ofString "at"), v), ((Str.ofString "limb"), u), ((Str.ofString "carry"), .any), ((Str.ofString "spot"), .any), ((Str.ofString "other"), .any)]) (fun σ => (r, il σ) :: H)
    (fun i σ => σ.length = (lb b x).length + (lb b y).length ∧ Lim b σ ∧ vl b σ = vl b ((lb b x).take i) * y ∧ ∀ j, i + (lb b y).length ≤ j → σ.getD j 0 = 0) (σ₀ := List.replicate ((lb b x).length + (lb b y).length) 0) G hA.hd (by walk_at "mem") S3
    ⟨List.length_replicate, .zeros hbp _, by rw [vl_zeros]; simp [vl], fun j _ => by simp [List.getD_eq_getElem?_getD, List.getElem?_replicate]; split <;> rfl⟩ (by walk_at "pxs") (fun i σ _ => .tail _ ha) (fun _ v u => ⟨by walk_at "put", by walk_at "put"⟩) (fun i σ s4 I I' it it' hi hP S4 => ?_) (fun σ s4 hP S4 => ?_)
  · obtain ⟨h1, h2, h3, h4⟩ := hP
    have l1 := (lb_lim hb2 x).get hbp i
    generalize hlm : (lb b x).getD i 0 = lm at *
    refine x_asg G S4 (by walk_at "px") (by walk_at "put") fun s5 S5 => ?_
    refine x_forEnum (σ := List Int × Int) (l := c) (ns := lb b y) (fun τ v u => [((Str.ofString "a"), .val (.ref a)), ((Str.ofString "b"), .val (.ref c)), ((Str.ofString "w"), .int k), ((Str.ofString "found"), .val (.ref r)), ((Str.ofString "mask"), .int (b - 1)), ((Str.ofString "at"), .int i), ((Str.ofString "limb"), .int lm), ((Str.ofString "carry"), .int τ.2), ((Str.ofString "spot"), v), ((Str.ofString "other"), u)]) (fun τ => (I, it) :: (I', it') :: (r, il τ.1) :: H)
      (fun j τ => τ.1.length = (lb b x).length + (lb b y).length ∧ Lim b τ.1 ∧ 0 ≤ τ.2 ∧ τ.2 < b ∧ vl b τ.1 + b ^ (i + j) * τ.2 = vl b σ + b ^ i * (lm * vl b ((lb b y).take j)) ∧ ∀ t, i + (lb b y).length ≤ t → τ.1.getD t 0 = 0) (σ₀ := (σ, 0)) G hA.hd (by walk_at "mem") S5
      ⟨h1, h2, Int.le_refl 0, hbp, by simp [vl], h4⟩ (by walk_at "pxs") (fun j τ _ => .tail _ (.tail _ (.tail _ hc))) (fun _ v u => ⟨by walk_at "put", by walk_at "put"⟩) (fun j τ s6 J J' jt jt' hj hP S6 => ?_) (fun τ s6 hP S6 => ?_)
    · obtain ⟨q1, q2, q3, q4, q5, q6⟩ := hP
      have l2 := (lb_lim hb2 y).get hbp j
      have l3 := q2.get hbp (i + j)
      have t1 : ((i : Int) + (j : Int)).toNat = i + j := rfl
      refine x_aug G S6 (by walk_at "mem") (by walk_at "px") (by walk_at "bini") (by walk_at "put") fun s7 S7 => ?_
      rw [t1] at S7
      generalize hc0 : τ.2 + (τ.1.getD (i + j) 0 + lm * (lb b y).getD j 0) = c0 at S7
      obtain ⟨k1, k2, k3⟩ := mul_step hbp l3 ⟨q3, q4⟩ l1 l2 hc0.symm
      refine x_setI G S7 (by walk_at "px") (by walk_at "px") (by walk_at "px") (by walk_at "mem") (by omega) (by omega) (by walk_at "put") fun s8 S8 => ?_
      rw [t1] at S8
      refine x_aug G S8 (by walk_at "mem") (by walk_at "px") (by walk_at "bini") (by walk_at "put") fun s9 S9 => ?_
      refine x_nil ⟨(τ.1.set (i + j) (c0 % b), c0 / b), S9.fit (by walk_at "weak") (List.Sublist.refl _), by simp [q1], q2.set _ (emod_lim hbp), k2, k3, ?_, fun t ht => ?_⟩
      · have := vl_mul_step (x := τ.1) (i := i + j) (b := b) (c := c0) (carry := τ.2) (d := lm * (lb b y).getD j 0) (by omega) hc0.symm
        show vl b (τ.1.set (i + j) (c0 % b)) + b ^ (i + j + 1) * (c0 / b) = _
        rw [this, q5, vl_take_succ, Int.pow_add]
        grind
      · show (τ.1.set (i + j) (c0 % b)).getD t 0 = 0
        rw [getD_set (by omega), if_neg (by omega)]
        exact q6 t ht
    · obtain ⟨q1, q2, q3, q4, q5, q6⟩ := hP
      rw [take_ge (Nat.le_refl (lb b y).length), lb_vl hb2] at q5
      have t1 : ((i : Int) + ((lb b y).length : Int)).toNat = i + (lb b y).length := rfl
      refine x_setI G S6 (by walk_at "px") (by walk_at "px") (by walk_at "px") (by walk_at "mem") (by omega) (by omega) (by walk_at "put") fun s8 S8 => ?_
      rw [t1] at S8
      refine x_nil ⟨τ.1.set (i + (lb b y).length) τ.2, S8.fit (by walk_at "weak") (List.Sublist.refl _), by simp [q1], q2.set _ ⟨q3, q4⟩, ?_, fun t ht => ?_⟩
      · rw [vl_set (by omega), q6 _ (Nat.le_refl _), Int.sub_zero, q5, h3, vl_take_succ, hlm]
        grind
      · show (τ.1.set (i + (lb b y).length) τ.2).getD t 0 = 0
        rw [getD_set (by omega), if_neg (by omega)]
        exact q6 t (by omega)
  · obtain ⟨h1, h2, h3, h4⟩ := hP
    rw [take_ge (Nat.le_refl _), lb_vl hb2, ← Int.natCast_mul] at h3
    refine x_retL (ev_callS T 5 1 1 G hA S4 (by walk_at "mem") (by walk_at "pxs") (normal_lb T hB (n := x * y) (.head _) (by omega) h2 h3) fun v s5 H' S5 hp => ?_)
    obtain ⟨r', rfl, h7, h8⟩ := hp
    exact ⟨r', _, _, rfl, S5, h7, fun p hp => h8 p (.tail _ hp)⟩

end
end

section

theorem lt_of_mul_lt {a b c : Int} (h : a * c < b * c) (hc : 0 ≤ c) : a < b := by
  rcases Int.lt_or_le a b with h1 | h1
  · exact h1
  · have := Int.mul_le_mul_of_nonneg_right h1 hc
    omega
theorem guess_hi {q f d h t b : Int} (e : q * (f * b + d) ≤ h * b + t) (ht : t < b) (hq : 0 ≤ q) (hd : 0 ≤ d) (hb : 0 < b) : q * f ≤ h := by
  have h1 : q * f * b < (h + 1) * b := by
    have := Int.mul_nonneg hq hd
    grind
  have := lt_of_mul_lt h1 (Int.le_of_lt hb)
  omega
theorem guess_step {q f d h t b l r : Int} (e : q * (f * b + d) ≤ h * b + t) (e1 : l * f + r = h) (e2 : r * b + t < l * d) (hD : 0 < f * b + d) : q < l := by
  have h1 : h * b + t < l * (f * b + d) := by
    subst e1
    rw [Int.add_mul, Int.mul_add, Int.mul_assoc]
    omega
  exact lt_of_mul_lt (c := f * b + d) (by omega) (Int.le_of_lt hD)
theorem guess_exit1 {f d h t b l r : Int} (e1 : l * f + r = h) (hr : b ≤ r) (hl0 : 0 ≤ l) (hl : l < b) (hd0 : 0 ≤ d) (hd : d < b) (ht : 0 ≤ t) (hb : 0 < b) : l * (f * b + d) ≤ h * b + t := by
  have h1 : l * d ≤ (b - 1) * (b - 1) := Int.mul_le_mul (by omega) (by omega) hd0 (by omega)
  have h2 : b * b ≤ r * b := Int.mul_le_mul_of_nonneg_right hr (by omega)
  have h3 : (b - 1) * (b - 1) = b * b - b - b + 1 := by grind
  subst e1
  rw [Int.add_mul, Int.mul_add, Int.mul_assoc]
  omega
theorem guess_exit2 {f d h t b l r : Int} (e1 : l * f + r = h) (e2 : l * d ≤ r * b + t) : l * (f * b + d) ≤ h * b + t := by
  subst e1
  rw [Int.add_mul, Int.mul_add, Int.mul_assoc]
  omega
theorem le_of_mul_le' {l q D T : Int} (h1 : l * D ≤ T) (h2 : T < (q + 1) * D) (hD : 0 < D) : l ≤ q := by
  have : l * D < (q + 1) * D := by omega
  have := lt_of_mul_lt this (Int.le_of_lt hD)
  omega
theorem guess_init {f h b : Int} (hf : 0 < f) (hh : 0 ≤ h) (hb : 0 < b) : 0 ≤ min (h / f) (b - 1) ∧ min (h / f) (b - 1) < b ∧ 0 ≤ h - min (h / f) (b - 1) * f := by
  have h1 := Int.ediv_nonneg hh (Int.le_of_lt hf)
  have h2 := Int.emod_add_mul_ediv h f
  have h3 := Int.emod_nonneg h (show f ≠ 0 by omega)
  have h4 : min (h / f) (b - 1) * f ≤ h / f * f := Int.mul_le_mul_of_nonneg_right (by omega) (Int.le_of_lt hf)
  refine ⟨by omega, by omega, ?_⟩
  rw [Int.mul_comm f] at h2
  omega

/-- one limb is taken away -/
theorem take_step {b g p : Int} (hb : 0 < b) (hg : 0 ≤ g ∧ g < b) (hp : 0 ≤ p) : let hr := g - p % b
    0 ≤ p / b + (if hr < 0 then 1 else 0) ∧ (0 ≤ (if hr < 0 then hr + b else hr) ∧ (if hr < 0 then hr + b else hr) < b) ∧
    (if hr < 0 then hr + b else hr) - g - b * (p / b + (if hr < 0 then 1 else 0)) = -p := by
  intro hr
  have h1 := Int.emod_add_mul_ediv p b
  have h2 := Int.emod_nonneg p (show b ≠ 0 by omega)
  have h3 := Int.emod_lt_of_pos p hb
  have h4 := Int.ediv_nonneg hp (Int.le_of_lt hb)
  have h5 : hr = g - p % b := rfl
  refine ⟨by split <;> omega, ⟨by split <;> omega, by split <;> omega⟩, ?_⟩
  rw [Int.mul_add]
  split <;> omega
theorem vl_take_step {b g p new carry' : Int} {x : List Int} {i : Nat} (hi : i < x.length) (hg : x.getD i 0 = g) (e : new - g - b * carry' = -p) :
    vl b (x.set i new) - b ^ (i + 1) * carry' = vl b x - b ^ i * p := by
  rw [vl_set hi, Int.pow_succ, hg]
  generalize b ^ i = P at *
  have : new = g + b * carry' - p := by omega
  subst this
  grind
end

section
open PySem PySem.Calls
section
variable {prog : Program} {w : World} {g s : Shared} {B : Heap} {c : Cx} {m : Loc} {H : Led} {A : Around} {E : Value → Shared → Prop} {γ : Gl}

theorem ev_min {e1 e2 : Expr} {p p' : Pos} {a b : Int} {Q : Value → Shared → Prop} (G : GW γ B) (hA : A.handled = none) (S : St g B c m H s) (hr : (Str.ofString "min") ∈ c.gs) (P : PXs c m H [e1, e2] [.int a, .int b])
    (k : ∀ t s', St g B c m H s' → Q (.int (min a b) t) s') :
    wpAny (model prog w) A (eval (.Call (.Name (Str.ofString "min") p) [e1, e2] [] p') c.env) Q E s := by
  refine ev_builtin G S hr (by decide) boot_min (by decide) P fun xs s1 hx S1 => ?_
  obtain ⟨t1, t2, rfl⟩ := hx.i2
  ·
    refine min_two_ints hA fun h' tk hk => ?_
    have S2 := S1.keeps (h' := h') (tk := tk) hk
    by_cases h : b < a
    · rw [if_pos h]
      have e : b = min a b := by omega
      have := k t2 _ S2
      rwa [← e] at this
    · rw [if_neg h]
      have e : a = min a b := by omega
      have := k t1 _ S2
      rwa [← e] at this

theorem guessed_spec (T : Top γ) {k b : Nat} (hB : Bs k b) {H : Led} {t : Addr} {ts : List Int} {f d q : Int} (ht : (t, il ts) ∈ H) (hlen : ts.length = 3) (hts : Lim b ts) (hf0 : 0 < f) (hf : f < b) (hd0 : 0 ≤ d) (hd : d < b) (hq : 0 ≤ q)
    (h1 : q * (f * b + d) ≤ vl b ts) (h2 : vl b ts < (q + 1) * (f * b + d)) (hlt : vl b ts < (f * b + d) * b) :
    SpecV prog w g γ 1 36 [.val (.ref t), .int f, .int d, .int k] H (RetI q H) := by
  refine def_spec T 36 0 [((Str.ofString "top"), .val (.ref t)), ((Str.ofString "first"), .int f), ((Str.ofString "second"), .int d), ((Str.ofString "w"), .int k), ((Str.ofString "high"), V.any), ((Str.ofString "base"), V.any), ((Str.ofString "limb"), V.any), ((Str.ofString "rest"), V.any)] 4 [(Str.ofString "top"), (Str.ofString "first"), (Str.ofString "second"), (Str.ofString "w"), (Str.ofString "high"), (Str.ofString "base"), (Str.ofString "limb"), (Str.ofString "rest")] [(Str.ofString "min")] rfl (fun cx A B s1 hA G hgs S1 => ?_) (by decide +kernel) (by exact rfl) (by exact rfl) (by exact rfl) (by exact Nat.le_of_ble_eq_true rfl) (by walk_at "bnd")
  have hg0 : (Str.ofString "min") ∈ cx.gs := by rw [hgs]; walk_at "mem"
  clear hgs
  have hb2 := hB.two
  have hhi := hB.hi
  have hbp : (0 : Int) < b := by omega
  obtain ⟨t0, t1, t2, rfl⟩ : ∃ t0 t1 t2, ts = [t0, t1, t2] := len3 hlen
  have l0 := hts t0 (by simp)
  have l1 := hts t1 (by simp)
  have l2 := hts t2 (by simp)
  have e0 : [t0, t1, t2].getD (0 : Int).toNat 0 = t0 := rfl
  have e1 : [t0, t1, t2].getD (1 : Int).toNat 0 = t1 := rfl
  have e2 : [t0, t1, t2].getD (2 : Int).toNat 0 = t2 := rfl
  have hv : vl b [t0, t1, t2] = (t2 * b + t1) * b + t0 := by simp only [vl]; grind
  rw [hv] at h1 h2 hlt
  have hDp : 0 < f * b + d := by
    have := Int.mul_pos hf0 hbp
    omega
  have hor : Builtin.bitOr ([t0, t1, t2].getD (2 : Int).toNat 0 * b) ([t0, t1, t2].getD (1 : Int).toNat 0) = t2 * b + t1 := or_b hB l2.1 l1.1 l1.2
  refine x_swapP2 G hA.hd S1 (.bin (.bin (by walk_at "px") (by walk_at "px") (.shlB hB (by rw [e2]; omega))) (by walk_at "px") (.or hor)) (by walk_at "px") (by walk_at "put") (by walk_at "put") (fun s2 S2 => ?_) rfl rfl rfl rfl rfl (fun _ => rfl) (fun _ => rfl)
  have hh0 : 0 ≤ t2 * b + t1 := Int.add_nonneg (Int.mul_nonneg l2.1 (by omega)) l1.1
  have hhb : t2 * b + t1 < 65536 := by
    have : t2 * b ≤ 255 * 256 := Int.mul_le_mul (by omega) (by omega) (by omega) (by omega)
    omega
  generalize hhh : t2 * (b : Int) + t1 = h at *
  refine x_asgG (ev_min G hA.hd S2 (by walk_at "mem") (.cons (.bin (by walk_at "px") (by walk_at "px") (.fdiv hf0 (by omega))) (.cons (by walk_at "px") .nil (fun _ => rfl)) (fun _ => rfl)) fun tk s3 S3 => st_loc S3 (v := .int (min (h / f) (b - 1))) (by walk_at "put") ⟨tk, rfl⟩ fun s4 S4 => ?_)
  obtain ⟨g1, g2, g3⟩ := guess_init hf0 hh0 hbp
  generalize hl0 : min (h / f) ((b : Int) - 1) = l0' at *
  refine x_asg G S4 (by walk_at "px") (by walk_at "put") fun s5 S5 => ?_
  have hqf := guess_hi h1 l0.2 hq hd0 hbp
  have hq0 : q ≤ l0' := by
    rw [← hl0]
    have a1 : q ≤ h / f := (Int.le_ediv_iff_mul_le hf0).mpr hqf
    have a2 : q < b := by
      refine lt_of_mul_lt (c := f * b + d) ?_ (Int.le_of_lt hDp)
      rw [Int.mul_comm (b : Int)]; omega
    omega
  refine x_whileP (σ := Int × Int) (fun σ => [((Str.ofString "top"), .val (.ref t)), ((Str.ofString "first"), .int f), ((Str.ofString "second"), .int d), ((Str.ofString "w"), .int k), ((Str.ofString "high"), .int h), ((Str.ofString "base"), .int b), ((Str.ofString "limb"), .int σ.1), ((Str.ofString "rest"), .int σ.2)]) (fun _ => H) (fun σ => q ≤ σ.1 ∧ σ.1 < b ∧ 0 ≤ σ.2 ∧ σ.1 * f + σ.2 = h) (fun σ => σ.1.toNat) (bb := fun σ => decide (σ.2 < b) && decide (σ.2 * b + t0 < σ.1 * d)) (σ₀ := (l0', h - l0' * f)) G S5
    ⟨hq0, g2, g3, by show l0' * f + (h - l0' * f) = h; omega⟩ (fun σ hP => ?_) (fun σ s6 hP hb S6 => ?_) (fun σ s6 hP hb S6 => ?_)
  · obtain ⟨p1, p2, p3, p4⟩ := hP
    have hsm : σ.2 ≤ h := by
      have := Int.mul_nonneg (show 0 ≤ σ.1 by omega) (Int.le_of_lt hf0)
      omega
    refine .and2 (by walk_at "px") fun _ => ?_
    have hor2 : Builtin.bitOr (σ.2 * b) ([t0, t1, t2].getD (0 : Int).toNat 0) = σ.2 * b + t0 := or_b hB p3 l0.1 l0.2
    exact .cmp (.bin (by walk_at "px") (by walk_at "px") (.mul (by omega))) (.bin (.bin (by walk_at "px") (by walk_at "px") (.shlB hB (by omega))) (by walk_at "px") (.or hor2)) (.gt _ _) rfl
  · obtain ⟨p1, p2, p3, p4⟩ := hP
    simp only [Bool.and_eq_true, decide_eq_true_eq] at hb
    have hlt' := guess_step h1 p4 hb.2 hDp
    refine x_aug G S6 (by walk_at "mem") (by walk_at "px") (by walk_at "bini") (by walk_at "put") fun s7 S7 => ?_
    refine x_aug G S7 (by walk_at "mem") (by walk_at "px") (by walk_at "bini") (by walk_at "put") fun s8 S8 => ?_
    refine x_nil ⟨(σ.1 - 1, σ.2 + f), S8, ⟨by show q ≤ σ.1 - 1; omega, by show σ.1 - 1 < b; omega, by show 0 ≤ σ.2 + f; omega, ?_⟩, by show (σ.1 - 1).toNat < σ.1.toNat; omega⟩
    show (σ.1 - 1) * f + (σ.2 + f) = h
    rw [Int.sub_mul]; omega
  · obtain ⟨p1, p2, p3, p4⟩ := hP
    have hle : σ.1 * (f * b + d) ≤ h * b + t0 := by
      by_cases hr : (b : Int) ≤ σ.2
      · exact guess_exit1 p4 hr (by omega) p2 hd0 hd l0.1 hbp
      · have e3 : decide (σ.2 < (b : Int)) = true := decide_eq_true (by omega)
        rw [e3, Bool.true_and, decide_eq_false_iff_not] at hb
        exact guess_exit2 p4 (by omega)
    have := le_of_mul_le' hle h2 hDp
    refine x_ret G S6 (by walk_at "px") fun val s7 hv S7 => ⟨_, _, H, S7, RetI.mk hv (by omega)⟩

theorem take_away_spec (T : Top γ) {k b n : Nat} (hB : Bs k b) {H : Led} {r y : Addr} {rs ys : List Int} {l : Int} (hy : (y, il ys) ∈ H) (hrs : Lim b rs) (hys : Lim b ys) (hl : rs.length ≤ 1000) (hlen : n + ys.length < rs.length) (hl0 : 0 ≤ l) (hlb : l < b)
    (hz : ∀ j, n + ys.length < j → rs.getD j 0 = 0) (hle : b ^ n * (l * vl b ys) ≤ vl b rs) :
    SpecV prog w g γ 1 37 [.val (.ref r), .val (.ref y), .int l, .int n, .int k] ((r, il rs) :: H) (fun v H' => (∃ t, v = .int 0 t) ∧ ∃ rs', H' = (r, il rs') :: H ∧ rs'.length = rs.length ∧ Lim b rs' ∧ vl b rs' = vl b rs - b ^ n * (l * vl b ys)) := by
  refine def_spec T 37 0 [((Str.ofString "rest"), .val (.ref r)), ((Str.ofString "b"), .val (.ref y)), ((Str.ofString "limb"), .int l), ((Str.ofString "at"), .int n), ((Str.ofString "w"), .int k), ((Str.ofString "carry"), V.any), ((Str.ofString "base"), V.any), ((Str.ofString "spot"), V.any), ((Str.ofString "other"), V.any), ((Str.ofString "here"), V.any)] 5 [(Str.ofString "rest"), (Str.ofString "b"), (Str.ofString "limb"), (Str.ofString "at"), (Str.ofString "w"), (Str.ofString "carry"), (Str.ofString "base"), (Str.ofString "spot"), (Str.ofString "other"), (Str.ofString "here")] [(Str.ofString "len"), (Str.ofString "enumerate")] rfl (fun cx A B s1 hA G hgs S1 => ?_) (by decide +kernel) (by exact rfl) (by exact rfl) (by exact rfl) (by exact Nat.le_of_ble_eq_true rfl) (by walk_at "bnd")
  have hg0 : (Str.ofString "len") ∈ cx.gs := by rw [hgs]; walk_at "mem"
  have hg1 : (Str.ofString "enumerate") ∈ cx.gs := by rw [hgs]; walk_at "mem"
  clear hgs
  have hb2 := hB.two
  have hhi := hB.hi
  have hbp : (0 : Int) < b := by omega
  refine x_swapP2 G hA.hd S1 (by walk_at "px") (by walk_at "px") (by walk_at "put") (by walk_at "put") (fun s2 S2 => ?_) rfl rfl rfl rfl rfl (fun _ => rfl) (fun _ => rfl)
  refine x_forEnum (σ := List Int × Int) (l := y) (ns := ys) (fun σ v u => [((Str.ofString "rest"), .val (.ref r)), ((Str.ofString "b"), .val (.ref y)), ((Str.ofString "limb"), .int l), ((Str.ofString "at"), .int n), ((Str.ofString "w"), .int k), ((Str.ofString "carry"), .int σ.2), ((Str.ofString "base"), .int b), ((Str.ofString "spot"), v), ((Str.ofString "other"), u), ((Str.ofString "here"), .any)]) (fun σ => (r, il σ.1) :: H)
    (fun i σ => σ.1.length = rs.length ∧ Lim b σ.1 ∧ 0 ≤ σ.2 ∧ vl b σ.1 - b ^ (n + i) * σ.2 = vl b rs - b ^ n * (l * vl b (ys.take i)) ∧ ∀ j, n + i ≤ j → σ.1.getD j 0 = rs.getD j 0) (σ₀ := (rs, 0)) G hA.hd (by walk_at "mem") S2
    ⟨rfl, hrs, Int.le_refl 0, by simp [vl], fun _ _ => rfl⟩ (by walk_at "pxs") (fun i σ _ => .tail _ hy) (fun _ v u => ⟨by walk_at "put", by walk_at "put"⟩) (fun i σ s4 I I' it it' hi hP S4 => ?_) (fun σ s4 hP S4 => ?_)
  · obtain ⟨h1, h2, h3, h4, h5⟩ := hP
    have lo := hys.get hbp i
    have lg := h2.get hbp (n + i)
    generalize ho : ys.getD i 0 = o at *
    have t1 : ((n : Int) + (i : Int)).toNat = n + i := rfl
    have hp0 : 0 ≤ l * o + σ.2 := Int.add_nonneg (Int.mul_nonneg hl0 lo.1) h3
    refine x_asg G S4 (.bin (by walk_at "px") (.bin (.bin (.bin (by walk_at "px") (by walk_at "px") (.mul (by omega))) (by walk_at "px") (.add _ _)) (by walk_at "px") (.mod hbp)) (.sub _ _)) (by walk_at "put") fun s5 S5 => ?_
    rw [t1] at S5
    obtain ⟨c1, c2, c3⟩ := take_step hbp lg hp0
    generalize hh : σ.1.getD (n + i) 0 - (l * o + σ.2) % b = hr at *
    refine x_asg G S5 (.bin (.bin (.bin (.bin (by walk_at "px") (by walk_at "px") (.mul (by omega))) (by walk_at "px") (.add _ _)) (by walk_at "px") (.fdiv hbp (by omega))) (.ite (c := decide (hr < 0)) (by walk_at "px") (fun _ => by walk_at "px") (fun _ => by walk_at "px")) (.add _ _)) (by walk_at "put") fun s6 S6 => ?_
    refine x_setI G S6 (.ite (c := decide (hr < 0)) (by walk_at "px") (fun _ => by walk_at "px") (fun _ => by walk_at "px")) (by walk_at "px") (by walk_at "px") (by walk_at "mem") (by omega) (by omega) (by walk_at "put") fun s7 S7 => ?_
    rw [t1] at S7
    simp only [decide_eq_true_eq] at S7
    refine x_nil ⟨(σ.1.set (n + i) (if hr < 0 then hr + b else hr), (l * o + σ.2) / b + (if hr < 0 then 1 else 0)), S7.fit (by walk_at "weak") (List.Sublist.refl _), by simp [h1], h2.set _ c2, c1, ?_, fun j hj => ?_⟩
    · have := vl_take_step (x := σ.1) (i := n + i) (by omega) rfl c3
      show vl b (σ.1.set (n + i) _) - b ^ (n + i + 1) * _ = _
      rw [this, vl_take_succ, ho]
      rw [Int.pow_add] at h4 ⊢
      clear this
      generalize (b : Int) ^ n = P at *
      generalize (b : Int) ^ i = R at *
      grind
    · show (σ.1.set (n + i) _).getD j 0 = _
      rw [getD_set (by omega), if_neg (by omega)]
      exact h5 j (by omega)
  · obtain ⟨h1, h2, h3, h4, h5⟩ := hP
    rw [take_ge (Nat.le_refl ys.length)] at h4
    have t1 : ((n : Int) + (ys.length : Int)).toNat = n + ys.length := rfl
    have lg := h2.get hbp (n + ys.length)
    have hsp := vl_split (b := b) σ.1 (n + ys.length)
    have htop : vl b (σ.1.drop (n + ys.length)) = σ.1.getD (n + ys.length) 0 := by
      rw [vl_drop_succ, vl_high_zero (fun j hj => by rw [h5 j (by omega)]; exact hz j (by omega))]; simp
    rw [htop] at hsp
    have hlow := vl_nonneg hbp (h2.take (n + ys.length))
    have hlow2 := vl_lt hbp (h2.take (n + ys.length))
    rw [List.length_take, Nat.min_eq_left (by omega)] at hlow2
    have hpp := pow_pos' hbp (n + ys.length)
    have hge : 0 ≤ σ.1.getD (n + ys.length) 0 - σ.2 := by
      rcases Int.lt_or_le (σ.1.getD (n + ys.length) 0 - σ.2) 0 with hneg | h
      · exfalso
        have := Int.mul_le_mul_of_nonneg_left (show σ.1.getD (n + ys.length) 0 - σ.2 ≤ -1 by omega) (Int.le_of_lt hpp)
        rw [Int.mul_sub] at this
        omega
      · exact h
    refine x_asg G S4 (by walk_at "px") (by walk_at "put") fun s5 S5 => ?_
    rw [t1] at S5
    refine x_setI G S5 (.ite (c := decide (σ.1.getD (n + ys.length) 0 - σ.2 < 0)) (by walk_at "px") (fun _ => by walk_at "px") (fun _ => by walk_at "px")) (by walk_at "px") (by walk_at "px") (by walk_at "mem") (by omega) (by omega) (by walk_at "put") fun s7 S7 => ?_
    rw [t1, if_neg (by rw [decide_eq_true_eq]; omega)] at S7
    refine x_ret G S7 (.ite (c := decide (σ.1.getD (n + ys.length) 0 - σ.2 < 0)) (by walk_at "px") (fun _ => by walk_at "px") (fun _ => by walk_at "px")) fun val s8 hv S8 => ?_
    rw [if_neg (by rw [decide_eq_true_eq]; omega)] at hv
    obtain ⟨t, e⟩ := hv
    cases e
    refine ⟨_, _, _, S8, ⟨t, rfl⟩, _, rfl, by simp [h1], h2.set _ ⟨hge, by omega⟩, ?_⟩
    rw [vl_set (by omega), ← h4]
    generalize (b : Int) ^ (n + ys.length) = P at *
    grind
end
end

section

theorem rows_step {b V D P T low : Int} (hV : V = low + P * T) (h0 : 0 ≤ low) (h1 : low < P) (hlt : V < D * (P * b)) (hD : 0 < D) (hT : 0 ≤ T) :
    0 ≤ T / D ∧ T / D * D ≤ T ∧ T < (T / D + 1) * D ∧ T < D * b ∧ P * (T / D * D) ≤ V ∧ V - P * (T / D * D) < D * P := by
  have e1 := Int.emod_add_mul_ediv T D
  have e2 := Int.emod_nonneg T (show D ≠ 0 by omega)
  have e3 := Int.emod_lt_of_pos T hD
  have e4 := Int.ediv_nonneg hT (Int.le_of_lt hD)
  have e5 : T / D * D = D * (T / D) := Int.mul_comm _ _
  have hP : 0 < P := by omega
  have hq : T / D * D ≤ T := by omega
  refine ⟨e4, hq, by rw [Int.add_mul]; omega, ?_, ?_, ?_⟩
  · refine lt_of_mul_lt (c := P) ?_ (Int.le_of_lt hP)
    have : D * b * P = D * (P * b) := by grind
    have : T * P = P * T := Int.mul_comm _ _
    omega
  · have := Int.mul_le_mul_of_nonneg_left hq (Int.le_of_lt hP)
    omega
  · have h2 := Int.mul_le_mul_of_nonneg_left (show T - T / D * D ≤ D - 1 by omega) (Int.le_of_lt hP)
    rw [Int.mul_sub, Int.mul_sub] at h2
    have : D * P = P * D := Int.mul_comm _ _
    omega
theorem zero_of_vl {b : Int} (hb : 0 < b) : ∀ {x : List Int}, Lim b x → vl b x = 0 → ∀ j, x.getD j 0 = 0
  | [], _, _, j => by simp
  | a :: r, h, e, j => by
    have h1 := vl_nonneg hb h.tail
    have h2 := h.head
    rw [vl] at e
    have h3 := Int.mul_nonneg (Int.le_of_lt hb) h1
    have ha : a = 0 := by omega
    have hr : vl b r = 0 := by
      have : b * vl b r = 0 := by omega
      rcases Int.mul_eq_zero.mp this with h | h
      · omega
      · exact h
    cases j with
    | zero => simpa using ha
    | succ j => simpa using zero_of_vl hb h.tail hr j
theorem getD_drop' {x : List Int} {i j : Nat} : (x.drop i).getD j 0 = x.getD (i + j) 0 := by
  rw [List.getD_eq_getElem?_getD, List.getElem?_drop, List.getD_eq_getElem?_getD]
theorem pm1 {α : Type} {a b : α} {l : List α} : (a :: b :: l).Perm (b :: a :: l) := List.perm_middle (l₁ := [a])
theorem pm2 {α : Type} {a b c : α} {l : List α} : (a :: b :: c :: l).Perm (c :: a :: b :: l) := List.perm_middle (l₁ := [a, b])
theorem pm3 {α : Type} {a b c d : α} {l : List α} : (a :: b :: c :: d :: l).Perm (d :: a :: b :: c :: l) := List.perm_middle (l₁ := [a, b, c])
/-- three limbs of a window hold all above -/
theorem window {b : Nat} (hb : 2 ≤ b) {rs : List Int} {t : Nat} {D : Int} (h : Lim b rs) (hT : vl b (rs.drop t) < D * b) (hD : D < (b : Int) ^ 2) :
    vl b ((rs.drop t).take 3) = vl b (rs.drop t) ∧ ∀ j, t + 2 < j → rs.getD j 0 = 0 := by
  have hbp : (0 : Int) < b := by omega
  have hs := vl_split (b := b) (rs.drop t) 3
  have h1 := vl_nonneg hbp ((h.drop t).take 3)
  have h2 := vl_nonneg hbp ((h.drop t).drop 3)
  have hz : vl b ((rs.drop t).drop 3) = 0 := by
    rcases Int.lt_or_le (vl b ((rs.drop t).drop 3)) 1 with h3 | h3
    · omega
    · exfalso
      have h4 := Int.mul_le_mul_of_nonneg_left h3 (Int.le_of_lt (pow_pos' hbp 3))
      have h5 := Int.mul_le_mul_of_nonneg_right (show D ≤ (b : Int) ^ 2 by omega) (Int.le_of_lt hbp)
      have h6 : (b : Int) ^ 3 = (b : Int) ^ 2 * b := Int.pow_succ _ _
      omega
  refine ⟨by rw [hs, hz]; simp, fun j hj => ?_⟩
  have := zero_of_vl hbp ((h.drop t).drop 3) hz (j - (t + 3))
  rw [List.drop_drop, getD_drop', show t + 3 + (j - (t + 3)) = j by omega] at this
  exact this
end

section
open PySem PySem.Calls
section
variable {prog : Program} {w : World} {g s : Shared} {B : Heap} {c : Cx} {m : Loc} {H : Led} {A : Around} {E : Value → Shared → Prop} {γ : Gl}

theorem divide_rows_spec (T : Top γ) {k b N : Nat} (hB : Bs k b) {H : Led} {r y : Addr} {rs ys : List Int} (hy : (y, il ys) ∈ H) (hys : Lim b ys) (hyl : ys.length = 2) (hf : 0 < ys.getD 1 0) (hrs : Lim b rs) (hl : rs.length = N + 2) (hN : N ≤ 500) (hlt : vl b rs < vl b ys * b ^ N) :
    SpecV prog w g γ 2 39 [.val (.ref r), .val (.ref y), .int k] ((r, il rs) :: H) (fun v H' => ∃ q qs rs', v = .ref q ∧ H' = (q, il qs) :: (r, il rs') :: H ∧ Lim b qs ∧ Lim b rs' ∧ qs.length = N ∧ rs'.length = N + 2 ∧ vl b rs' + vl b qs * vl b ys = vl b rs ∧ vl b rs' < vl b ys) := by
  refine def_spec T 39 1 [((Str.ofString "rest"), .val (.ref r)), ((Str.ofString "b"), .val (.ref y)), ((Str.ofString "w"), .int k), ((Str.ofString "size"), V.any), ((Str.ofString "quotient"), V.any), ((Str.ofString "at"), V.any), ((Str.ofString "limb"), V.any)] 3 [(Str.ofString "rest"), (Str.ofString "b"), (Str.ofString "w"), (Str.ofString "size"), (Str.ofString "quotient"), (Str.ofString "at"), (Str.ofString "limb")] [(Str.ofString "len"), (Str.ofString "range"), (Str.ofString "guessed_limb"), (Str.ofString "take_away"), (Str.ofString "put_back")] rfl (fun cx A B s1 hA G hgs S1 => ?_) (by decide +kernel) (by exact rfl) (by exact rfl) (by exact rfl) (by exact Nat.le_of_ble_eq_true rfl) (by walk_at "bnd")
  have hg0 : (Str.ofString "len") ∈ cx.gs := by rw [hgs]; walk_at "mem"
  have hg1 : (Str.ofString "range") ∈ cx.gs := by rw [hgs]; walk_at "mem"
  have hg2 : (Str.ofString "guessed_limb") ∈ cx.gs := by rw [hgs]; walk_at "mem"
  have hg3 : (Str.ofString "take_away") ∈ cx.gs := by rw [hgs]; walk_at "mem"
  have hg4 : (Str.ofString "put_back") ∈ cx.gs := by rw [hgs]; walk_at "mem"
  clear hgs
  have hb2 := hB.two
  have hhi := hB.hi
  have hbp : (0 : Int) < b := by omega
  have l0 := hys.get hbp 0
  have l1 := hys.get hbp 1
  have hD : ys.getD 1 0 * b + ys.getD 0 0 = vl b ys := by
    obtain ⟨y0, y1, rfl⟩ := len2 hyl
    simp only [vl, List.getD_cons_zero, List.getD_cons_succ]; grind
  have hDp : 0 < vl b ys := by
    rw [← hD]
    have := Int.mul_pos hf hbp
    omega
  have hD2 : vl b ys < (b : Int) ^ 2 := by rw [← hyl]; exact vl_lt hbp hys
  refine x_asg G S1 (by walk_at "px") (by walk_at "put") fun s2 S2 => ?_
  rw [show ((ys.length : Nat) : Int) = 2 by omega] at S2
  refine x_asgG (ev_rep (n := N) G S2 .int (by rw [show (N : Int) = (rs.length : Int) - 2 by omega]; walk_at "px") (by unfold bigN; omega) (fun _ => rfl) fun q s3 S3 => st_loc S3 (v := .val (.ref q)) (by walk_at "put") rfl fun s4 S4 => ?_)
  refine x_forDown (σ := List Int × List Int) (fun σ v => [((Str.ofString "rest"), .val (.ref r)), ((Str.ofString "b"), .val (.ref y)), ((Str.ofString "w"), .int k), ((Str.ofString "size"), .int 2), ((Str.ofString "quotient"), .val (.ref q)), ((Str.ofString "at"), v), ((Str.ofString "limb"), .any)]) (fun σ => (q, il σ.1) :: (r, il σ.2) :: H)
    (fun i σ => σ.1.length = N ∧ σ.2.length = N + 2 ∧ Lim b σ.1 ∧ Lim b σ.2 ∧ vl b σ.2 + vl b σ.1 * vl b ys = vl b rs ∧ vl b σ.2 < vl b ys * b ^ (N - i) ∧ ∀ j, j < N - i → σ.1.getD j 0 = 0) N (a := (rs.length : Int) - 2 - 1) (b := -1) (σ₀ := (List.replicate N 0, rs)) G hA.hd (by walk_at "mem") S4
    ⟨List.length_replicate, hl, .zeros hbp _, hrs, by rw [vl_zeros]; simp, hlt, fun j _ => by simp [List.getD_eq_getElem?_getD, List.getElem?_replicate]; split <;> rfl⟩ (by walk_at "pxs") (by omega) (by decide) (by omega) (fun _ v => by walk_at "put") (fun i σ s5 I it hi hP S5 => ?_) (fun σ s5 hP S5 => ?_)
  · obtain ⟨h1, h2, h3, h4, h5, h6, h7⟩ := hP
    obtain ⟨t, ht⟩ : ∃ t, N = t + i + 1 := ⟨N - i - 1, by omega⟩
    rw [show (rs.length : Int) - 2 - 1 - i = (t : Int) by omega] at S5
    rw [show N - i = t + 1 by omega] at h6 h7
    have hsp := vl_split (b := b) σ.2 t
    have hlow := vl_nonneg hbp (h4.take t)
    have hlow2 := vl_lt hbp (h4.take t)
    rw [List.length_take, Nat.min_eq_left (by omega)] at hlow2
    rw [Int.pow_succ] at h6
    obtain ⟨r1, r2, r3, r4, r5, r6⟩ := rows_step hsp hlow hlow2 h6 hDp (vl_nonneg hbp (h4.drop t))
    obtain ⟨w1, w2⟩ := window hb2 h4 r4 hD2
    generalize hq0 : vl b (σ.2.drop t) / vl b ys = q0 at *
    have hq0b : q0 < b := by
      refine lt_of_mul_lt (c := vl b ys) ?_ (Int.le_of_lt hDp)
      rw [Int.mul_comm (b : Int)]; omega
    have ecut : cutL σ.2 (some ((t : Int) + 2 - 2)) (some ((t : Int) + 2 + 1)) = (σ.2.drop t).take 3 := by
      show (σ.2.drop ((t : Int) + 2 - 2).toNat).take (((t : Int) + 2 + 1).toNat - ((t : Int) + 2 - 2).toNat) = _
      rw [show ((t : Int) + 2 - 2).toNat = t by omega, show ((t : Int) + 2 + 1).toNat - t = 3 by omega]
    refine x_asgG (ev_callG T 36 G S5 (by walk_at "mem") fun s6 S6 => sp_cons (ev_sliceI (l := some ((t : Int) + 2 - 2)) (u := some ((t : Int) + 2 + 1)) G S6 (by walk_at "px") (by walk_at "mem") (by walk_at "pe") (by walk_at "pe") (fun i h => by cases h; omega) (fun i h => by cases h; omega) fun z s7 S7 =>
      pxs G (vs := [.int (ys.getD ((2 : Int) - 1).toNat 0), .int (ys.getD ((2 : Int) - 2).toNat 0), .int k]) (by walk_at "pxs") S7 fun xs s8 hxs S8 => ⟨⟨_, _, _, S8⟩, ?_⟩))
    rw [ecut] at S8
    refine ((guessed_spec T hB (H := (z, il ((σ.2.drop t).take 3)) :: (I, it) :: (q, il σ.1) :: (r, il σ.2) :: H) (f := ys.getD 1 0) (d := ys.getD 0 0) (q := q0) (.head _) (by rw [List.length_take, List.length_drop]; omega) ((h4.drop t).take 3) hf l1.2 l0.1 l0.2 r1 (by rw [hD, w1]; exact r2) (by rw [hD, w1]; exact r3) (by rw [hD, w1]; exact r4)) (.ref z :: xs) ⟨rfl, hxs⟩).use G hA (by omega) S8 fun v s9 H' S9 hp => ?_
    obtain ⟨⟨tk, rfl⟩, rfl⟩ := hp
    refine st_loc S9 (v := .int q0) (by walk_at "put") ⟨tk, rfl⟩ fun s10 S10 => ?_
    have S11 := S10.perm pm3
    refine x_ifG (wpAny_isTrue_Compare1 (ev_callS T 37 1 1 G hA S11 (by walk_at "mem") (by walk_at "pxs") (take_away_spec T hB (n := t) (by walk_at "mem") h4 hys (by omega) (by omega) r1 hq0b (by rw [hyl]; exact w2) r5) fun v s12 H' S12 hp => ?_) rfl)
    obtain ⟨⟨tk2, rfl⟩, rs', rfl, p1, p2, p3⟩ := hp
    refine px_i G S12 .int fun u s13 S13 => cmp_int (.eq _ _) (wpAny_truthy_bool ?_)
    rw [if_neg (by decide)]
    refine x_nil ?_
    have S14 := (S13.perm pm3.symm).tail
    refine x_setI G S14 (by walk_at "px") (by walk_at "px") (by walk_at "px") (by walk_at "mem") (by omega) (by omega) (by walk_at "put") fun s15 S15 => ?_
    rw [show ((t : Int)).toNat = t from rfl] at S15
    refine x_nil ⟨(σ.1.set t q0, rs'), S15.fit (by walk_at "weak") (List.Sublist.refl _), by simp [h1], by rw [← h2]; exact p1, h3.set _ ⟨r1, hq0b⟩, p2, ?_, ?_, fun j hj => ?_⟩
    · show vl b rs' + vl b (σ.1.set t q0) * vl b ys = vl b rs
      rw [vl_set (by omega), h7 t (by omega), p3, ← h5]
      generalize (b : Int) ^ t = P at *
      grind
    · show vl b rs' < vl b ys * b ^ (N - (i + 1))
      rw [show N - (i + 1) = t by omega, p3]
      exact r6
    · show (σ.1.set t q0).getD j 0 = 0
      rw [getD_set (by omega), if_neg (by omega)]
      exact h7 j (by omega)
  · obtain ⟨h1, h2, h3, h4, h5, h6, h7⟩ := hP
    rw [Nat.sub_self, Int.pow_zero, Int.mul_one] at h6
    exact x_retG (px_u G S5 (by walk_at "px") fun s6 S6 => ⟨_, _, _, S6, q, σ.1, σ.2, rfl, rfl, h3, h4, h1, h2, h5, h6⟩)
end
end

section
open PySem PySem.Calls
section
variable {prog : Program} {w : World} {g s : Shared} {B : Heap} {c : Cx} {m : Loc} {H : Led} {A : Around} {E : Value → Shared → Prop} {γ : Gl}

/-- quotient and rest -/
noncomputable def RetD (ns ms : List Int) (H : Led) : Value → Led → Prop := fun v H' => ∃ t p q, v = .ref t ∧ (t, O.tup [.val (.ref p), .val (.ref q)]) ∈ H' ∧ (p, il ns) ∈ H' ∧ (q, il ms) ∈ H' ∧ ∀ p ∈ H, p ∈ H'

theorem lb_one {b y : Nat} (hb : 2 ≤ b) (h0 : 0 < y) (h : y < b) : lb b y = [(y : Int)] := by
  rw [lb_pos hb h0, Nat.mod_eq_of_lt h, Nat.div_eq_of_lt h, lb_zero]

theorem divrem_small_spec (T : Top γ) {k b x y : Nat} (hB : Bs k b) {H : Led} {a c : Addr} (ha : (a, il (lb b x)) ∈ H) (hc : (c, il (lb b y)) ∈ H) (hx : x < 2 ^ 64) (hy0 : 0 < y) (hyb : y < b) :
    SpecV prog w g γ 3 35 [.val (.ref a), .val (.ref c), .int k] H (RetD (lb b (x / y)) (lb b (x % y)) H) := by
  refine def_spec T 35 2 [((Str.ofString "a"), .val (.ref a)), ((Str.ofString "b"), .val (.ref c)), ((Str.ofString "w"), .int k), ((Str.ofString "quotient"), V.any), ((Str.ofString "rest"), V.any)] 3 [(Str.ofString "a"), (Str.ofString "b"), (Str.ofString "w"), (Str.ofString "quotient"), (Str.ofString "rest")] [(Str.ofString "divrem_limb")] rfl (fun cx A B s1 hA G hgs S1 => ?_) (by decide +kernel) (by exact rfl) (by exact rfl) (by exact rfl) (by exact Nat.le_of_ble_eq_true rfl) (by walk_at "bnd")
  have hg0 : (Str.ofString "divrem_limb") ∈ cx.gs := by rw [hgs]; walk_at "mem"
  clear hgs
  have hb2 := hB.two
  have hl1 : (lb b y).length = 1 := by rw [lb_one hb2 hy0 hyb]; rfl
  have e : (lb b y).getD (0 : Int).toNat 0 = (y : Int) := by rw [lb_one hb2 hy0 hyb]; rfl
  have C := divrem_limb_spec (prog := prog) (w := w) (g := g) T hB ha hx hy0 hyb
  rw [← e] at C
  refine x_twoS hA.hd S1 (ev_callS T 12 2 2 G hA S1 (by walk_at "mem") (by walk_at "pxs") C fun v s2 H' S2 hp => ?_)
  obtain ⟨t, r, rfl, h1, h2, h3⟩ := hp
  refine ⟨t, _, _, H', _, _, rfl, S2, h1, by walk_at "put", by walk_at "put", fun s3 S3 => ?_⟩
  refine x_retG (ev_Tuple (sp_cons (px_u G S3 (by walk_at "px") fun s4 S4 => sp_cons (wpAny_IfExp (px_t G S4 (by walk_at "px") fun s5 S5 => ite_b (fun hb => ?_) fun hb => ?_)))))
  · simp only [decide_eq_true_eq] at hb
    refine ev_listI (ns := [((x % y : Nat) : Int)]) G S5 (.cons (by walk_at "px") .nil (fun _ => rfl)) (by simp [bigN]) fun r2 s6 S6 => sp_nil _ (ev_newTuple (vs := [.val (.ref r), .val (.ref r2)]) S6 ⟨rfl, rfl, trivial⟩ (by simp [bigN]) fun t2 s7 S7 => ?_)
    rw [← lb_one hb2 (by omega) (Nat.lt_trans (Nat.mod_lt _ hy0) hyb)] at S7
    exact ⟨_, _, _, S7, t2, r, r2, rfl, .head _, .tail _ (.tail _ h2), .tail _ (.head _), fun p hp => .tail _ (.tail _ (h3 p hp))⟩
  · simp only [decide_eq_false_iff_not] at hb
    refine ev_listI (ns := []) G S5 .nil (by decide) fun r2 s6 S6 => sp_nil _ (ev_newTuple (vs := [.val (.ref r), .val (.ref r2)]) S6 ⟨rfl, rfl, trivial⟩ (by simp [bigN]) fun t2 s7 S7 => ?_)
    rw [show ([] : List Int) = lb b (x % y) by rw [show x % y = 0 by omega, lb_zero]] at S7
    exact ⟨_, _, _, S7, t2, r, r2, rfl, .head _, .tail _ (.tail _ h2), .tail _ (.head _), fun p hp => .tail _ (.tail _ (h3 p hp))⟩

set_option maxHeartbeats 400000 in
theorem divrem_school_spec (T : Top γ) {k b x y : Nat} (hB : Bs k b) {H : Led} {a c : Addr} (ha : (a, il (lb b x)) ∈ H) (hc : (c, il (lb b y)) ∈ H) (hx : x < 2 ^ 50) (hy0 : 0 < y) (hyb : y < b * b) :
    SpecV prog w g γ 4 40 [.val (.ref a), .val (.ref c), .int k] H (RetD (lb b (x / y)) (lb b (x % y)) H) := by
  refine def_spec T 40 3 [((Str.ofString "a"), .val (.ref a)), ((Str.ofString "b"), .val (.ref c)), ((Str.ofString "w"), .int k), ((Str.ofString "shift"), V.any), ((Str.ofString "divisor"), V.any), ((Str.ofString "rest"), V.any), ((Str.ofString "quotient"), V.any)] 3 [(Str.ofString "a"), (Str.ofString "b"), (Str.ofString "w"), (Str.ofString "shift"), (Str.ofString "divisor"), (Str.ofString "rest"), (Str.ofString "quotient")] [(Str.ofString "len"), (Str.ofString "DivisionByZero"), (Str.ofString "compare"), (Str.ofString "divrem_small"), (Str.ofString "bits"), (Str.ofString "shift_left"), (Str.ofString "divide_rows"), (Str.ofString "normal"), (Str.ofString "shift_right")] rfl (fun cx A B s1 hA G hgs S1 => ?_) (by decide +kernel) (by exact rfl) (by exact rfl) (by exact rfl) (by exact Nat.le_of_ble_eq_true rfl) (by walk_at "bnd")
  have hg0 : (Str.ofString "len") ∈ cx.gs := by rw [hgs]; walk_at "mem"
  have hg1 : (Str.ofString "DivisionByZero") ∈ cx.gs := by rw [hgs]; walk_at "mem"
  have hg2 : (Str.ofString "compare") ∈ cx.gs := by rw [hgs]; walk_at "mem"
  have hg3 : (Str.ofString "divrem_small") ∈ cx.gs := by rw [hgs]; walk_at "mem"
  have hg4 : (Str.ofString "bits") ∈ cx.gs := by rw [hgs]; walk_at "mem"
  have hg5 : (Str.ofString "shift_left") ∈ cx.gs := by rw [hgs]; walk_at "mem"
  have hg6 : (Str.ofString "divide_rows") ∈ cx.gs := by rw [hgs]; walk_at "mem"
  have hg7 : (Str.ofString "normal") ∈ cx.gs := by rw [hgs]; walk_at "mem"
  have hg8 : (Str.ofString "shift_right") ∈ cx.gs := by rw [hgs]; walk_at "mem"
  clear hgs
  have hb2 := hB.two
  have hhi := hB.hi
  have hk1 := hB.k1
  have hk2 := hB.k2
  have hbp : (0 : Int) < b := by omega
  have hbb : b * b ≤ 65536 := Nat.mul_le_mul hhi hhi
  have hl := hB.len (n := x) (by omega)
  have hlp := (lb_len_pos hb2).mpr hy0
  have hle2 : (lb b y).length ≤ 2 := lb_len_le hb2 (by rw [Nat.pow_two]; exact hyb)
  refine x_if G S1 (by walk_at "px") (fun hb s2 S2 => by simp only [decide_eq_true_eq] at hb; omega) fun hb s2 S2 => x_nil ?_
  refine x_ifG (t_cmpLt T hB G hA S2 (by walk_at "mem") (by walk_at "pxs") ha hc (by omega) (by omega) (by omega) fun s3 S3 => ite_b (fun hb => ?_) fun hb => x_nil ?_)
  · simp only [decide_eq_true_eq] at hb
    refine x_retG (ev_Tuple (sp_cons (ev_listI (ns := []) G S3 .nil (by decide) fun r s4 S4 => sp_cons (ev_sliceI (l := none) (u := none) G S4 (by walk_at "px") (.tail _ ha) .none .none (fun i h => by cases h) (fun i h => by cases h) fun r2 s5 S5 => sp_nil _ (ev_newTuple (vs := [.val (.ref r), .val (.ref r2)]) S5 ⟨rfl, rfl, trivial⟩ (by simp [bigN]) fun t2 s7 S7 => ?_)))))
    refine ⟨_, _, _, S7, t2, r, r2, rfl, .head _, ?_, ?_, fun p hp => .tail _ (.tail _ (.tail _ hp))⟩
    · rw [Nat.div_eq_of_lt hb, lb_zero]; exact .tail _ (.tail _ (.head _))
    · rw [Nat.mod_eq_of_lt hb]; exact .tail _ (.head _)
  · simp only [decide_eq_false_iff_not] at hb
    refine x_if G S3 (by walk_at "px") (fun hb s4 S4 => ?_) fun hb s4 S4 => x_nil ?_
    · simp only [decide_eq_true_eq] at hb
      have hyb : y < b := by have := lb_lt hb2 y; rw [show (lb b y).length = 1 by omega] at this; simpa using this
      exact x_retG (ev_callS T 35 3 3 G hA S4 (by walk_at "mem") (by walk_at "pxs") (divrem_small_spec T hB ha hc (by omega) hy0 hyb) fun v s5 H' S5 hp => ⟨_, _, _, S5, hp⟩)
    · simp only [decide_eq_false_iff_not] at hb
      have hlen2 : (lb b y).length = 2 := by omega
      have hyge : b ≤ y := by have := lb_ge hb2 (k := 1) (n := y) (by omega); simpa using this
      have htop : y / b < b := (Nat.div_lt_iff_lt_mul (by omega)).mpr hyb
      have htop0 : 0 < y / b := Nat.div_pos hyge (by omega)
      have etop : (lb b y).getD (-1 + ((lb b y).length : Int)).toNat 0 = ((y / b : Nat) : Int) := by
        rw [show (-1 + ((lb b y).length : Int)).toNat = 1 by omega, lb_get hb2, Nat.pow_one, Nat.mod_eq_of_lt htop]
      refine x_asgG (wpAny_BinOp (px_i G S4 (by walk_at "px") fun t1 s5 S5 => ev_callG T 15 G S5 (by walk_at "mem") fun s6 S6 => sp_cons (ev_listI (ns := [(lb b y).getD (-1 + ((lb b y).length : Int)).toNat 0]) G S6 (.cons (by walk_at "px") .nil (fun _ => rfl)) (by simp [bigN]) fun r0 s7 S7 =>
        pxs G (vs := [.int k]) (by walk_at "pxs") S7 fun xs s8 hxs S8 => ⟨⟨_, _, _, S8⟩, ?_⟩)))
      rw [etop] at S8
      refine ((bits_spec T (k := k) (b := b) (H := (r0, il [((y / b : Nat) : Int)]) :: H) (.head _) htop0) (.ref r0 :: xs) ⟨rfl, hxs⟩).use G hA (by omega) S8 fun v s9 H' S9 hp => ?_
      obtain ⟨L, t2, rfl, hL1, hL2, rfl⟩ := hp
      have hLk : L + 1 ≤ k := by
        rcases Nat.lt_or_ge L k with h | h
        · exact h
        · have := Nat.pow_le_pow_right (n := 2) (by omega) h
          have := hB.e
          omega
      obtain ⟨n, hn⟩ : ∃ n, k = n + (L + 1) := ⟨k - (L + 1), by omega⟩
      refine binop_int (.sub _ _) fun t3 tk => st_loc (S9.toks tk) (v := .int n) (by walk_at "put") ⟨t3, by congr 2; omega⟩ fun s10 S10 => ?_
      have hm1 : (c, il (lb b y)) ∈ (r0, il [((y / b : Nat) : Int)]) :: H := .tail _ hc
      have hm2 : (a, il (lb b x)) ∈ (r0, il [((y / b : Nat) : Int)]) :: H := .tail _ ha
      have h2n : 2 ^ n ≤ 256 := (Nat.pow_le_pow_right (n := 2) (by omega) (show n ≤ 8 by omega) : 2 ^ n ≤ 2 ^ 8)
      have hyn : y * 2 ^ n < b * b := by
        have h1 : y < (y / b + 1) * b := by
          have := Nat.mod_add_div y b
          have := Nat.mod_lt y (show 0 < b by omega)
          rw [Nat.add_mul, Nat.mul_comm (y / b)]; omega
        have h2 : (y / b + 1) * b ≤ 2 ^ (L + 1) * b := Nat.mul_le_mul_right _ hL2
        have h3 : y * 2 ^ n < 2 ^ (L + 1) * b * 2 ^ n := Nat.mul_lt_mul_of_pos_right (by omega) (Nat.two_pow_pos n)
        have h4 : 2 ^ (L + 1) * b * 2 ^ n = b * b := by
          conv => rhs; lhs; rw [hB.e, hn]
          rw [Nat.pow_add]; grind
        omega
      have hxn : x * 2 ^ n < 2 ^ 64 := by
        have := Nat.mul_lt_mul_of_lt_of_le hx h2n (by omega)
        omega
      refine x_asgG (ev_callS T 13 1 3 G hA S10 (by walk_at "mem") (by walk_at "pxs") (shift_left_spec T hB (n := n) hm1 (by omega) (by omega)) fun v s11 H2 S11 hp => ?_)
      obtain ⟨d, rfl, hd1, hd2⟩ := hp
      refine st_loc S11 (v := .val (.ref d)) (by walk_at "put") rfl fun s12 S12 => ?_
      refine x_asgG (ev_callS T 13 1 3 G hA S12 (by walk_at "mem") (by walk_at "pxs") (shift_left_spec T hB (n := n) (hd2 _ hm2) (by omega) (by omega)) fun v s13 H3 S13 hp => ?_)
      obtain ⟨e, rfl, he1, he2⟩ := hp
      refine st_loc S13 (v := .val (.ref e)) (by walk_at "put") rfl fun s14 S14 => ?_
      have hxl : x < b ^ (lb b x).length := lb_lt hb2 x
      have hel : (lb b (x * 2 ^ n)).length ≤ (lb b x).length + 1 := by
        refine lb_len_le hb2 ?_
        rw [Nat.pow_succ]
        have h2b : 2 ^ n ≤ b := by rw [hB.e]; exact Nat.pow_le_pow_right (by omega) (by omega)
        exact Nat.mul_lt_mul_of_lt_of_le hxl h2b (by omega)
      have hel2 := hB.len hxn
      have hm3 := he2 _ (hd2 _ hm2)
      refine x_asgG (wpAny_BinOp (px_u G S14 (by walk_at "px") fun s15 S15 => ev_rep (n := (lb b x).length + 1 - (lb b (x * 2 ^ n)).length) G S15 .int (by rw [show (((lb b x).length + 1 - (lb b (x * 2 ^ n)).length : Nat) : Int) = (lb b x).length + 1 - (lb b (x * 2 ^ n)).length by omega]; walk_at "px") (by unfold bigN; omega) (fun _ => rfl) fun z s16 S16 =>
        bo_concatI S16 (.tail _ he1) (.head _) (by rw [List.length_replicate]; unfold bigN; omega) fun r s17 S17 => st_loc S17 (v := .val (.ref r)) (by walk_at "put") rfl fun s18 S18 => ?_))
      generalize hrs : lb b (x * 2 ^ n) ++ List.replicate ((lb b x).length + 1 - (lb b (x * 2 ^ n)).length) 0 = rs at S18
      have hrl : rs.length = ((lb b x).length - 1) + 2 := by
        have : 0 < (lb b x).length := (lb_len_pos hb2).mpr (by omega)
        rw [← hrs, List.length_append, List.length_replicate]; omega
      have hrv : vl b rs = ((x * 2 ^ n : Nat) : Int) := by rw [← hrs, vl_append, vl_zeros, lb_vl hb2]; simp
      have hrlim : Lim b rs := by rw [← hrs]; exact (lb_lim hb2 _).append (.zeros hbp _)
      have hyv := lb_vl hb2 (y * 2 ^ n)
      have hxp : 0 < (lb b x).length := (lb_len_pos hb2).mpr (by omega)
      have hge2 : b ≤ y * 2 ^ n := Nat.le_trans hyge (Nat.le_mul_of_pos_right _ (Nat.two_pow_pos n))
      have hyl2 : (lb b (y * 2 ^ n)).length = 2 := by
        have h1 : (lb b (y * 2 ^ n)).length ≤ 2 := lb_len_le hb2 (by rw [Nat.pow_two]; exact hyn)
        have h2 := lb_len_mono hb2 (m := y) (n := y * 2 ^ n) (Nat.le_mul_of_pos_right _ (Nat.two_pow_pos n))
        omega
      have hyf : 0 < (lb b (y * 2 ^ n)).getD 1 0 := by
        rw [lb_get hb2, Nat.pow_one, Nat.mod_eq_of_lt ((Nat.div_lt_iff_lt_mul (by omega)).mpr hyn)]
        have := Nat.div_pos hge2 (show 0 < b by omega)
        omega
      have hlt : vl b rs < vl b (lb b (y * 2 ^ n)) * b ^ ((lb b x).length - 1) := by
        rw [hrv, hyv, ← natpow, ← Int.natCast_mul]
        have h1 : x < b * b ^ ((lb b x).length - 1) := by
          rw [← Nat.pow_succ', show ((lb b x).length - 1).succ = (lb b x).length by omega]; exact hxl
        have h2 : b * b ^ ((lb b x).length - 1) ≤ y * b ^ ((lb b x).length - 1) := Nat.mul_le_mul_right _ hyge
        have h3 : x * 2 ^ n < y * b ^ ((lb b x).length - 1) * 2 ^ n := Nat.mul_lt_mul_of_pos_right (by omega) (Nat.two_pow_pos n)
        have h4 : y * b ^ ((lb b x).length - 1) * 2 ^ n = y * 2 ^ n * b ^ ((lb b x).length - 1) := by grind
        omega
      have hd3 := he2 _ hd1
      refine x_asgG (ev_callS T 39 2 3 G hA S18 (by walk_at "mem") (by walk_at "pxs") (divide_rows_spec T hB (N := (lb b x).length - 1) (H := (z, il (List.replicate ((lb b x).length + 1 - (lb b (x * 2 ^ n)).length) 0)) :: H3) (.tail _ hd3) (lb_lim hb2 _) hyl2 hyf hrlim hrl (by omega) hlt) fun v s19 H4 S19 hp => ?_)
      obtain ⟨q, qs, rs', rfl, rfl, g1, g2, g3, g4, g5, g6⟩ := hp
      refine st_loc S19 (v := .val (.ref q)) (by walk_at "put") rfl fun s20 S20 => ?_
      obtain ⟨Q, hQ⟩ := Int.eq_ofNat_of_zero_le (vl_nonneg hbp g1)
      obtain ⟨R, hR⟩ := Int.eq_ofNat_of_zero_le (vl_nonneg hbp g2)
      have hQR : Q * (y * 2 ^ n) + R = x * 2 ^ n := by
        rw [hQ, hR, hyv, hrv] at g5
        have : ((R + Q * (y * 2 ^ n) : Nat) : Int) = ((x * 2 ^ n : Nat) : Int) := by rw [Int.natCast_add, Int.natCast_mul Q]; exact g5
        omega
      have hRlt : R < y * 2 ^ n := by rw [hR, hyv] at g6; omega
      obtain ⟨eQ, eR⟩ := natdm hQR hRlt
      have eQ' : Q = x / y := by rw [eQ, Nat.mul_div_mul_right _ _ (Nat.two_pow_pos n)]
      have eR' : R / 2 ^ n = x % y := by rw [eR, Nat.mul_mod_mul_right, Nat.mul_div_cancel _ (Nat.two_pow_pos n)]
      refine x_retG (ev_Tuple (sp_cons (ev_callS T 5 1 3 G hA S20 (by walk_at "mem") (by walk_at "pxs") (normal_lb T hB (n := Q) (.head _) (by omega) g1 hQ) fun v s21 H5 S21 hp => ?_)))
      obtain ⟨p1, rfl, hp1, hp2⟩ := hp
      refine sp_cons (ev_callG T 14 G S21 (by walk_at "mem") fun s22 S22 => sp_cons (ev_callS T 5 1 3 G hA S22 (by walk_at "mem") (by walk_at "pxs") (normal_lb T hB (n := R) (hp2 _ (.tail _ (.head _))) (by omega) g2 hR) fun v s23 H6 S23 hp => ?_))
      obtain ⟨p2, rfl, hp3, hp4⟩ := hp
      refine pxs G (vs := [.int n, .int k]) (by walk_at "pxs") S23 fun xs s24 hxs S24 => ⟨⟨_, _, _, S24⟩, ?_⟩
      have hRs : R < 2 ^ 64 := Nat.lt_trans hRlt (by omega)
      refine ((shift_right_spec T hB (n := n) hp3 hRs (by omega)) (.ref p2 :: xs) ⟨rfl, hxs⟩).use G hA (by omega) S24 fun v s25 H7 S25 hp => ?_
      obtain ⟨p3, rfl, hp5, hp6⟩ := hp
      refine sp_nil _ (ev_newTuple (vs := [.val (.ref p1), .val (.ref p3)]) S25 ⟨rfl, rfl, trivial⟩ (by simp [bigN]) fun t2 s26 S26 => ?_)
      rw [eR'] at hp5
      rw [eQ'] at hp1
      exact ⟨_, _, _, S26, t2, p1, p3, rfl, .head _, .tail _ (hp6 _ (hp4 _ hp1)), .tail _ hp5, fun p hp => .tail _ (hp6 _ (hp4 _ (hp2 _ (.tail _ (.tail _ (.tail _ (he2 _ (hd2 _ (.tail _ hp)))))))))⟩
end
end

section
open PySem PySem.Calls
section
variable {prog : Program} {w : World} {g s : Shared} {B : Heap} {c : Cx} {m : Loc} {H : Led} {A : Around} {E : Value → Shared → Prop} {γ : Gl}

/-- an item of a tuple that an expression gives -/
theorem ev_itemT {o i : Expr} {p : Pos} {Q : Value → Shared → Prop} (G : GW γ B) (_S : St g B c m H s)
    (h : wpAny (model prog w) A (eval o c.env) (fun v s₁ => ∃ a vs H1 k u, v = .ref a ∧ St g B c m H1 s₁ ∧ (a, O.tup vs) ∈ H1 ∧ PX c m H1 false i (.int k) ∧ 0 ≤ k ∧ vs[k.toNat]? = some u ∧ ∀ val s', u.Is (some val) → St g B c m H1 s' → Q val s') E s)
    (hs : ∀ x y, subscripted i false x y = operate [x, y] (getItem x y)) : wpAny (model prog w) A (eval (.Subscript o i p) c.env) Q E s := by
  refine PyProof.Rows.Subscript_ (wpAny_mono h (fun v s₁ hq => ?_) fun _ _ e => e)
  obtain ⟨a, vs, H1, k', u, rfl, S1, hm, P, h0, hx, hk⟩ := hq
  refine px_i G S1 P fun t s2 S2 => ?_
  obtain ⟨xs, n, hg, hl, ha, hb, hlen⟩ := S2.isTup hm
  obtain ⟨x, hx1, hx2⟩ := ha.get hx
  have hlt : _ < xs.length := (List.getElem?_eq_some_iff.mp hx1).1
  have hbig : bigN = 100000 := rfl
  have hj : seqIndex? k' xs.length = some k'.toNat := by
    have h1 : ¬ k' < 0 := by omega
    have h2 : k' < (xs.length : Int) := by omega
    simp [seqIndex?, h1, h0, h2]
  exact PyProof.Rows.tail_any hl.typeIs F.slot_tuple_getitem.lookup (PyProof.Rows.getItem_tuple hl (by omega) (by omega) (by simpa using hj) (by simpa using hx1) (hk x s2 hx2 S2)) (hs _ _)

theorem ev_sliceGS {o : Expr} {lo hi : Option Expr} {p p' : Pos} {Q : Value → Shared → Prop} (_G : GW γ B) (_S : St g B c m H s)
    (h : wpAny (model prog w) A (eval o c.env) (fun v s₁ => ∃ a ns H1 l u, v = .ref a ∧ St g B c m H1 s₁ ∧ GW γ B ∧ (a, il ns) ∈ H1 ∧ PE c m H1 lo l ∧ PE c m H1 hi u ∧ (∀ i, l = some i → 0 ≤ i) ∧ (∀ i, u = some i → 0 ≤ i) ∧
      ∀ r s', St g B c m ((r, il (cutL ns l u)) :: H1) s' → Q (.ref r) s') E s) :
    wpAny (model prog w) A (eval (.Subscript o (.Slice lo hi none p) p') c.env) Q E s := ev_sliceG h
theorem lb_1 {b : Nat} (hb : 2 ≤ b) : [(1 : Int)] = lb b 1 := (lb_one hb (y := 1) (by omega) (by omega)).symm

/-- two rows of ints compared -/
theorem cmp_rows {a b : Addr} {ns ms : List Int} {Q : Value → Shared → Prop} (hA : A.units + 64 < 9900) (S : St g B c m H s) (h1 : (a, il ns) ∈ H) (h2 : (b, il ms) ∈ H) (k : Q (.bool (decide (ns = ms))) s) :
    wpAny (model prog w) A (compareOp .Eq (.ref a) (.ref b)) Q E s := by
  obtain ⟨xs, n, hg, hl, ha, hb, hlen⟩ := S.isList h1
  obtain ⟨ys, n2, hg2, hl2, ha2, hb2, hlen2⟩ := S.isList h2
  exact PySem.W.eq_intsK hl ha.intsAre hl2 ha2.intsAre hA k
theorem cmp_rowsN {a b : Addr} {ns ms : List Int} {Q : Value → Shared → Prop} (hA : A.units + 64 < 9900) (S : St g B c m H s) (h1 : (a, il ns) ∈ H) (h2 : (b, il ms) ∈ H) (k : Q (.bool (!decide (ns = ms))) s) :
    wpAny (model prog w) A (compareOp .NotEq (.ref a) (.ref b)) Q E s := by
  obtain ⟨xs, n, hg, hl, ha, hb, hlen⟩ := S.isList h1
  obtain ⟨ys, n2, hg2, hl2, ha2, hb2, hlen2⟩ := S.isList h2
  exact PySem.W.ne_intsK hl ha.intsAre hl2 ha2.intsAre hA k
/-- m == [ints] as a test -/
theorem t_eqL {e : Expr} {es : List Expr} {p q : Pos} {a : Addr} {ns ms : List Int} {Q : Bool → Shared → Prop} (G : GW γ B) (hA : A.units + 64 < 9900) (S : St g B c m H s) (P : PX c m H false e (.val (.ref a))) (h1 : (a, il ns) ∈ H) (P2 : PXs c m H es (ms.map V.int)) (hsz : ms.length ≤ bigN)
    (k : ∀ r s', St g B c m ((r, il ms) :: H) s' → Q (decide (ns = ms)) s') (hmk : behindInMarks .Eq (.List es q) = false) :
    wpAny (model prog w) A (isTrue (.Compare e [.Eq] [.List es q] p) c.env (eval (.Compare e [.Eq] [.List es q] p) c.env)) Q E s :=
  wpAny_isTrue_Compare1 (px_u G S P fun s1 S1 => ev_listI G S1 P2 hsz fun r s2 S2 => cmp_rows hA S2 (.tail _ h1) (.head _) (wpAny_truthy_bool (k r s2 S2))) hmk
theorem AOk.u64 {A : Around} {n : Nat} (h : AOk A n) : A.units + 64 < 9900 := by have := h.un; omega

/-- a def called through a local name: the general arguments' case -/
theorem ev_callLG {x : Str} {p p' : Pos} (T : Top γ) (i : Nat) {e : Expr} {es : List Expr} {Q : Value → Shared → Prop} (G : GW γ B) (S : St g B c m H s) (hx : PX c m H false (.Name x p) (.val (.ref (γ.fa i))))
    (h : ∀ s', St g B c m H s' → wpAny (model prog w) A (spliced (backTo p' (starEach (e :: es) c.env))) (fun vs s₁ => (∃ c' m' H', St g B c' m' H' s₁) ∧ wpAny (model prog w) A (call (.ref (γ.fa i)) vs) Q E s₁) E s')
    (hi : i ∈ theIx := by decide)
    (he : starEach (e :: es) c.env = (false, eval e c.env) :: starEach es c.env := by rfl) :
    wpAny (model prog w) A (eval (.Call (.Name x p) (e :: es) [] p') c.env) Q E s :=
  ev_callL i G S hx (by rw [T.ix]; exact hi) h he
end
end

section

theorem guess_le {z P P' x I : Nat} (hI : I * x ≤ P * P') (hP' : 0 < P') : (z / P * I / P') * x ≤ z := by
  have h1 : z / P * I / P' * P' ≤ z / P * I := Nat.div_mul_le_self _ _
  have h2 : z / P * I / P' * P' * x ≤ z / P * I * x := Nat.mul_le_mul_right _ h1
  have h3 : z / P * I * x ≤ z / P * (P * P') := by rw [Nat.mul_assoc]; exact Nat.mul_le_mul_left _ hI
  have h4 : z / P * P * P' ≤ z * P' := Nat.mul_le_mul_right _ (Nat.div_mul_le_self _ _)
  rw [Nat.mul_assoc] at h4
  have h5 : z / P * I / P' * x * P' ≤ z * P' := by
    rw [Nat.mul_right_comm]; omega
  exact Nat.le_of_mul_le_mul_right h5 hP'
theorem bstep {t S x : Nat} (hx : 0 < x) : (t % S + t / S % x * S) % x = t % x ∧ (t % S + t / S % x * S) / x + S * (t / S / x) = t / x := by
  have h1 := Nat.mod_add_div t S
  have h2 := Nat.mod_add_div (t / S) x
  have e : t = t % S + t / S % x * S + x * (S * (t / S / x)) := by
    conv => lhs; rw [← h1, ← h2]
    grind
  constructor
  · conv => rhs; rw [e, Nat.add_mul_mod_self_left]
  · conv => rhs; rw [e, Nat.add_mul_div_left _ _ hx]
theorem bz_lt {t S x : Nat} (hS : 0 < S) (hx : 0 < x) : t % S + t / S % x * S < S * x := by
  have h1 := Nat.mod_lt t hS
  have h2 := Nat.mod_lt (t / S) hx
  have h3 := Nat.mul_le_mul_right S (show t / S % x + 1 ≤ x by omega)
  rw [Nat.add_mul, Nat.one_mul, Nat.mul_comm x] at h3
  omega
end

section
open PySem PySem.Calls
section
variable {prog : Program} {w : World} {g s : Shared} {B : Heap} {c : Cx} {m : Loc} {H : Led} {A : Around} {E : Value → Shared → Prop} {γ : Gl}

/-- what we ask of the modulus -/
structure Md (b x : Nat) : Prop where
  pos : 0 < x
  hi : x < 256

theorem Md.len {k b x : Nat} (hB : Bs k b) (hx : Md b x) : 1 ≤ (lb b x).length ∧ (lb b x).length ≤ 2 := by
  refine ⟨(lb_len_pos hB.two).mpr hx.pos, lb_len_le hB.two ?_⟩
  have := hx.hi
  have h1 := Nat.mul_le_mul hB.lo hB.lo
  rw [Nat.pow_two]; omega
theorem Md.bb {k b x : Nat} (hB : Bs k b) (hx : Md b x) : x < b * b := by
  have := hx.hi
  have h1 := Nat.mul_le_mul hB.lo hB.lo
  omega
theorem pow_le_256 {k b n : Nat} (hB : Bs k b) : b ^ n ≤ 256 ^ n := Nat.pow_le_pow_left hB.hi n

theorem barrett_make_spec (T : Top γ) {k b x : Nat} (hB : Bs k b) (hM : Md b x) {H : Led} {a : Addr} (ha : (a, il (lb b x)) ∈ H) :
    SpecV prog w g γ 5 20 [.val (.ref a), .int k, .val (.ref (γ.fa 40))] H (fun v H' => ∃ t q, v = .ref t ∧ (t, O.tup [.val (.ref a), .val (.ref q)]) ∈ H' ∧ (q, il (lb b (b ^ (2 * (lb b x).length) / x))) ∈ H' ∧ ∀ p ∈ H, p ∈ H') := by
  refine def_spec T 20 4 [((Str.ofString "m"), .val (.ref a)), ((Str.ofString "w"), .int k), ((Str.ofString "divrem"), .val (.ref (γ.fa 40)))] 3 [(Str.ofString "m"), (Str.ofString "w"), (Str.ofString "divrem")] [(Str.ofString "lifted"), (Str.ofString "len"), (Str.ofString "DivisionByZero")] rfl (fun cx A B s1 hA G hgs S1 => ?_) (by decide +kernel) (by exact rfl) (by exact rfl) (by exact rfl) (by exact Nat.le_of_ble_eq_true rfl) (by walk_at "bnd")
  have hg0 : (Str.ofString "lifted") ∈ cx.gs := by rw [hgs]; walk_at "mem"
  have hg1 : (Str.ofString "len") ∈ cx.gs := by rw [hgs]; walk_at "mem"
  have hg2 : (Str.ofString "DivisionByZero") ∈ cx.gs := by rw [hgs]; walk_at "mem"
  clear hgs
  have hb2 := hB.two
  obtain ⟨hl1, hl2⟩ := hM.len hB
  have hpos := hM.pos
  have hpw : b ^ (2 * (lb b x).length) < 2 ^ 50 := by
    have h1 : b ^ (2 * (lb b x).length) ≤ b ^ 4 := Nat.pow_le_pow_right (by omega) (by omega)
    have h2 := pow_le_256 (n := 4) hB
    omega
  refine x_ifG (t_eqL (ms := []) G hA.u64 S1 (by walk_at "px") ha .nil (by decide) (fun r s2 S2 => ite_b (fun hb => ?_) fun hb => x_nil ?_) rfl)
  · have : lb b x = [] := by simpa using hb
    rw [this] at hl1; simp at hl1
  · refine x_retG (ev_Tuple (sp_cons (px_u G S2 (by walk_at "px") fun s3 S3 => sp_cons (ev_itemT G S3 ?_ (fun _ _ => rfl)))))
    have hm1 : (a, il (lb b x)) ∈ (r, il []) :: H := .tail _ ha
    refine ev_callLG T 40 G S3 (by walk_at "px") fun s4 S4 => sp_cons (ev_callG T 10 G S4 (by walk_at "mem") fun s5 S5 => ?_)
    refine sp_cons (ev_listI (ns := [1]) G S5 (.cons (by walk_at "px") .nil (fun _ => rfl)) (by simp [bigN]) fun r1 s6 S6 => ?_)
    refine pxs G (vs := [.int (2 * ((lb b x).length : Int))]) (by walk_at "pxs") S6 fun xs s7 hxs S7 => ⟨⟨_, _, _, S7⟩, ?_⟩
    rw [lb_1 hb2] at S7
    refine ((lifted_spec T hB (x := 1) (n := 2 * (lb b x).length) (H := (r1, il (lb b 1)) :: (r, il []) :: H) (.head _) (by decide) (by omega)) (.ref r1 :: xs) ⟨rfl, by rw [Int.natCast_mul]; exact hxs⟩).use G hA (by omega) S7 fun v s8 H2 S8 hp => ?_
    obtain ⟨d, rfl, hd1, hd2⟩ := hp
    rw [Nat.one_mul] at hd1
    have hm2 := hd2 _ (.tail _ hm1)
    refine pxs G (vs := [.val (.ref a), .int k]) (by walk_at "pxs") S8 fun xs s9 hxs S9 => ⟨⟨_, _, _, S9⟩, ?_⟩
    refine ((divrem_school_spec T hB hd1 hm2 hpw hpos (hM.bb hB)) (.ref d :: xs) ⟨rfl, hxs⟩).use G hA (by omega) S9 fun v s10 H3 S10 hp => ?_
    obtain ⟨t, p, q, rfl, g1, g2, g3, g4⟩ := hp
    refine ⟨t, _, H3, 0, .val (.ref p), rfl, S10, g1, .int, by decide, rfl, fun val s11 hv S11 => ?_⟩
    cases hv
    refine sp_nil _ (ev_newTuple (vs := [.val (.ref a), .val (.ref p)]) S11 ⟨rfl, rfl, trivial⟩ (by simp [bigN]) fun t2 s12 S12 => ?_)
    exact ⟨_, _, _, S12, t2, p, rfl, .head _, .tail _ g2, fun p hp => .tail _ (g4 _ (hd2 _ (.tail _ (.tail _ hp))))⟩

theorem barrett_once_spec (T : Top γ) {k b x z : Nat} (hB : Bs k b) (hM : Md b x) {H : Led} {a t mm q : Addr} (ha : (a, il (lb b z)) ∈ H) (ht : (t, O.tup [.val (.ref mm), .val (.ref q)]) ∈ H) (hm : (mm, il (lb b x)) ∈ H)
    (hq : (q, il (lb b (b ^ (2 * (lb b x).length) / x))) ∈ H) (hz : z < 2 ^ 30) :
    SpecV prog w g γ 4 21 [.val (.ref a), .val (.ref t), .int k, .val (.ref (γ.fa 34))] H (RetD (lb b (z / x)) (lb b (z % x)) H) := by
  refine def_spec T 21 3 [((Str.ofString "a"), .val (.ref a)), ((Str.ofString "told"), .val (.ref t)), ((Str.ofString "w"), .int k), ((Str.ofString "mul"), .val (.ref (γ.fa 34))), ((Str.ofString "m"), V.any), ((Str.ofString "inverse"), V.any), ((Str.ofString "size"), V.any), ((Str.ofString "guess"), V.any), ((Str.ofString "rest"), V.any)] 4 [(Str.ofString "a"), (Str.ofString "told"), (Str.ofString "w"), (Str.ofString "mul"), (Str.ofString "m"), (Str.ofString "inverse"), (Str.ofString "size"), (Str.ofString "guess"), (Str.ofString "rest")] [(Str.ofString "len"), (Str.ofString "sub"), (Str.ofString "compare"), (Str.ofString "add")] rfl (fun cx A B s1 hA G hgs S1 => ?_) (by decide +kernel) (by exact rfl) (by exact rfl) (by exact rfl) (by exact Nat.le_of_ble_eq_true rfl) (by walk_at "bnd")
  have hg0 : (Str.ofString "len") ∈ cx.gs := by rw [hgs]; walk_at "mem"
  have hg1 : (Str.ofString "sub") ∈ cx.gs := by rw [hgs]; walk_at "mem"
  have hg2 : (Str.ofString "compare") ∈ cx.gs := by rw [hgs]; walk_at "mem"
  have hg3 : (Str.ofString "add") ∈ cx.gs := by rw [hgs]; walk_at "mem"
  clear hgs
  have hb2 := hB.two
  obtain ⟨hl1, hl2⟩ := hM.len hB
  have hpos := hM.pos
  have hhi := hM.hi
  have hpw : b ^ (2 * (lb b x).length) ≤ 2 ^ 32 := by
    have h1 : b ^ (2 * (lb b x).length) ≤ b ^ 4 := Nat.pow_le_pow_right (by omega) (by omega)
    have h2 := pow_le_256 (n := 4) hB
    omega
  have hlz := hB.len (n := z) (by omega)
  refine x_twoS hA.hd S1 (px_u G S1 (by walk_at "px") fun s2 S2 => ⟨t, _, _, H, _, _, rfl, S2, ht, by walk_at "put", by walk_at "put", fun s3 S3 => ?_⟩)
  refine x_asg G S3 (by walk_at "px") (by walk_at "put") fun s4 S4 => ?_
  generalize hI : b ^ (2 * (lb b x).length) / x = I at *
  have hIx : I * x ≤ b ^ ((lb b x).length - 1) * b ^ ((lb b x).length + 1) := by
    rw [← hI, ← Nat.pow_add, show (lb b x).length - 1 + ((lb b x).length + 1) = 2 * (lb b x).length by omega]
    exact Nat.div_mul_le_self _ _
  have hI2 : I ≤ 2 ^ 32 := by rw [← hI]; exact Nat.le_trans (Nat.div_le_self _ _) hpw
  generalize hsz : (lb b x).length = sz at *
  have hgl := guess_le (z := z) hIx (Nat.pow_pos (by omega))
  have hzd : z / b ^ (sz - 1) < 2 ^ 30 := Nat.lt_of_le_of_lt (Nat.div_le_self _ _) hz
  have hN : z / b ^ (sz - 1) * I < 2 ^ 64 := by
    have := Nat.mul_le_mul (Nat.le_of_lt hzd) hI2
    omega
  refine x_asgG (ev_sliceGS G S4 ?_)
  refine ev_callLG T 34 G S4 (by walk_at "px") fun s5 S5 => sp_cons (ev_sliceI (l := some ((sz : Int) - 1)) (u := none) G S5 (by walk_at "px") ha (by walk_at "pe") .none (fun i h => by cases h; omega) (fun i h => by cases h) fun r1 s6 S6 => ?_)
  have ecut : cutL (lb b z) (some ((sz : Int) - 1)) none = lb b (z / b ^ (sz - 1)) := by
    show (lb b z).drop ((sz : Int) - 1).toNat = _
    rw [show ((sz : Int) - 1).toNat = sz - 1 by omega, lb_drop hb2]
  rw [ecut] at S6
  refine pxs G (vs := [.val (.ref q), .int k]) (by walk_at "pxs") S6 fun xs s7 hxs S7 => ⟨⟨_, _, _, S7⟩, ?_⟩
  refine ((mul_school_spec T hB (x := z / b ^ (sz - 1)) (y := I) (H := (r1, il (lb b (z / b ^ (sz - 1)))) :: H) (.head _) (.tail _ hq) (by omega) (by omega)) (.ref r1 :: xs) ⟨rfl, hxs⟩).use G hA (by omega) S7 fun v s8 H2 S8 hp => ?_
  obtain ⟨d, rfl, hd1, hd2⟩ := hp
  have ecut2 : cutL (lb b (z / b ^ (sz - 1) * I)) (some ((sz : Int) + 1)) none = lb b (z / b ^ (sz - 1) * I / b ^ (sz + 1)) := by
    show (lb b _).drop ((sz : Int) + 1).toNat = _
    rw [show ((sz : Int) + 1).toNat = sz + 1 by omega, lb_drop hb2]
  refine ⟨d, _, H2, some ((sz : Int) + 1), none, rfl, S8, G, hd1, by walk_at "pe", .none, (fun i h => by cases h; omega), (fun i h => by cases h), fun r2 s9 S9 => ?_⟩
  rw [ecut2] at S9
  generalize hG0 : z / b ^ (sz - 1) * I / b ^ (sz + 1) = G0 at *
  refine st_loc S9 (v := .val (.ref r2)) (by walk_at "put") rfl fun s10 S10 => ?_
  have hG0z : G0 ≤ z := Nat.le_trans (Nat.le_mul_of_pos_right _ hpos) hgl
  have hm2 : (mm, il (lb b x)) ∈ (r2, il (lb b G0)) :: H2 := .tail _ (hd2 _ (.tail _ hm))
  have ha2 : (a, il (lb b z)) ∈ (r2, il (lb b G0)) :: H2 := .tail _ (hd2 _ (.tail _ ha))
  refine x_asgG (ev_callG T 9 G S10 (by walk_at "mem") fun s11 S11 => sp_cons (px_u G S11 (by walk_at "px") fun s12 S12 => sp_cons (ev_callLS T 34 2 3 G hA S12 (by walk_at "px") (by walk_at "pxs") (mul_school_spec T hB (x := G0) (y := x) (.head _) hm2 (by omega) (by omega)) fun v s13 H3 S13 hp => ?_)))
  obtain ⟨e, rfl, he1, he2⟩ := hp
  refine pxs G (vs := [.int k]) (by walk_at "pxs") S13 fun xs s14 hxs S14 => ⟨⟨_, _, _, S14⟩, ?_⟩
  refine ((sub_spec T hB (he2 _ ha2) he1 (by omega) hgl) (.ref a :: .ref e :: xs) ⟨rfl, rfl, hxs⟩).use G hA (by omega) S14 fun v s15 H4 S15 hp => ?_
  obtain ⟨f, rfl, hf1, hf2⟩ := hp
  refine st_loc S15 (v := .val (.ref f)) (by walk_at "put") rfl fun s16 S16 => ?_
  refine x_whileG (σ := Led × Addr × Addr × Nat × Nat) (fun σ => [((Str.ofString "a"), .val (.ref a)), ((Str.ofString "told"), .val (.ref t)), ((Str.ofString "w"), .int k), ((Str.ofString "mul"), .val (.ref (γ.fa 34))), ((Str.ofString "m"), .val (.ref mm)), ((Str.ofString "inverse"), .val (.ref q)), ((Str.ofString "size"), .int sz), ((Str.ofString "guess"), .val (.ref σ.2.1)), ((Str.ofString "rest"), .val (.ref σ.2.2.1))]) (fun σ => σ.1)
    (fun σ => (∀ p ∈ H, p ∈ σ.1) ∧ (σ.2.1, il (lb b σ.2.2.2.1)) ∈ σ.1 ∧ (σ.2.2.1, il (lb b σ.2.2.2.2)) ∈ σ.1 ∧ σ.2.2.2.1 * x + σ.2.2.2.2 = z) (fun σ => σ.2.2.2.2) (σ₀ := (H4, r2, f, G0, z - G0 * x)) S16
    ⟨fun p hp => hf2 _ (he2 _ (.tail _ (hd2 _ (.tail _ hp)))), hf2 _ (he2 _ (.head _)), hf1, by show G0 * x + (z - G0 * x) = z; omega⟩ (fun σ s17 hP S17 => ?_)
  obtain ⟨L, gr, rr, Gn, Rn⟩ := σ
  obtain ⟨p1, p2, p3, p4⟩ := hP
  have p1' : ∀ p ∈ H, p ∈ L := p1
  have p2' : (gr, il (lb b Gn)) ∈ L := p2
  have p3' : (rr, il (lb b Rn)) ∈ L := p3
  have p4' : Gn * x + Rn = z := p4
  clear p1 p2 p3 p4
  have hGz : Gn ≤ z := by have := Nat.le_mul_of_pos_right Gn hpos; omega
  have hmL := p1' _ hm
  refine t_cmpGe T hB G hA S17 (by walk_at "mem") (by walk_at "pxs") p3' hmL (by omega) (by omega) (by omega) fun s18 S18 => ite_b (fun hb => ?_) fun hb => ?_
  · simp only [decide_eq_true_eq] at hb
    refine x_asgG (ev_callS T 9 2 3 G hA S18 (by walk_at "mem") (by walk_at "pxs") (sub_spec T hB p3' hmL (by omega) hb) fun v s19 H5 S19 hp => ?_)
    obtain ⟨r3, rfl, hr1, hr2⟩ := hp
    refine st_loc S19 (v := .val (.ref r3)) (by walk_at "put") rfl fun s20 S20 => ?_
    have p2'' := hr2 _ p2'
    refine x_asgG (ev_callG T 8 G S20 (by walk_at "mem") fun s21 S21 => sp_cons (px_u G S21 (by walk_at "px") fun s22 S22 => sp_cons (ev_listI (ns := [1]) G S22 (.cons (by walk_at "px") .nil (fun _ => rfl)) (by simp [bigN]) fun r4 s23 S23 => ?_)))
    rw [lb_1 hb2] at S23
    refine pxs G (vs := [.int k]) (by walk_at "pxs") S23 fun xs s24 hxs S24 => ⟨⟨_, _, _, S24⟩, ?_⟩
    refine ((add_spec T hB (x := Gn) (y := 1) (H := (r4, il (lb b 1)) :: H5) (.tail _ p2'') (.head _) (by omega) (by decide)) (.ref gr :: .ref r4 :: xs) ⟨rfl, rfl, hxs⟩).use G hA (by omega) S24 fun v s25 H6 S25 hp => ?_
    obtain ⟨r5, rfl, hr3, hr4⟩ := hp
    refine st_loc S25 (v := .val (.ref r5)) (by walk_at "put") rfl fun s26 S26 => ?_
    exact x_nil ⟨(H6, r5, r3, Gn + 1, Rn - x), S26, ⟨fun p hp => hr4 _ (.tail _ (hr2 _ (p1' p hp))), hr3, hr4 _ (.tail _ hr1), by show (Gn + 1) * x + (Rn - x) = z; rw [Nat.add_mul]; omega⟩, by show Rn - x < Rn; omega⟩
  · simp only [decide_eq_false_iff_not] at hb
    obtain ⟨e1, e2⟩ := natdm p4' (by omega)
    refine x_retG (ev_tupP (vs := [.val (.ref gr), .val (.ref rr)]) G S18 (by walk_at "pxs") (by simp [bigN]) fun r6 s19 S19 => ?_)
    exact ⟨_, _, _, S19, r6, gr, rr, rfl, .head _, .tail _ (e1 ▸ p2'), .tail _ (e2 ▸ p3'), fun p hp => .tail _ (p1' p hp)⟩
end
end

section
open PySem PySem.Calls
section
variable {prog : Program} {w : World} {g s : Shared} {B : Heap} {c : Cx} {m : Loc} {H : Led} {A : Around} {E : Value → Shared → Prop} {γ : Gl}

set_option maxHeartbeats 400000 in
theorem barrett_divrem_spec (T : Top γ) {k b x n : Nat} (hB : Bs k b) (hM : Md b x) {H : Led} {a t mm q : Addr} (ha : (a, il (lb b n)) ∈ H) (ht : (t, O.tup [.val (.ref mm), .val (.ref q)]) ∈ H) (hm : (mm, il (lb b x)) ∈ H)
    (hq : (q, il (lb b (b ^ (2 * (lb b x).length) / x))) ∈ H) (hn : n < 2 ^ 50) :
    SpecV prog w g γ 5 22 [.val (.ref a), .val (.ref t), .int k, .val (.ref (γ.fa 34))] H (RetD (lb b (n / x)) (lb b (n % x)) H) := by
  refine def_spec T 22 4 [((Str.ofString "a"), .val (.ref a)), ((Str.ofString "told"), .val (.ref t)), ((Str.ofString "w"), .int k), ((Str.ofString "mul"), .val (.ref (γ.fa 34))), ((Str.ofString "size"), V.any), ((Str.ofString "quotient"), V.any), ((Str.ofString "rest"), V.any), ((Str.ofString "spot"), V.any), ((Str.ofString "part"), V.any)] 4 [(Str.ofString "a"), (Str.ofString "told"), (Str.ofString "w"), (Str.ofString "mul"), (Str.ofString "size"), (Str.ofString "quotient"), (Str.ofString "rest"), (Str.ofString "spot"), (Str.ofString "part")] [(Str.ofString "len"), (Str.ofString "barrett_once"), (Str.ofString "add_at"), (Str.ofString "piece")] rfl (fun cx A B s1 hA G hgs S1 => ?_) (by decide +kernel) (by exact rfl) (by exact rfl) (by exact rfl) (by exact Nat.le_of_ble_eq_true rfl) (by walk_at "bnd")
  have hg0 : (Str.ofString "len") ∈ cx.gs := by rw [hgs]; walk_at "mem"
  have hg1 : (Str.ofString "barrett_once") ∈ cx.gs := by rw [hgs]; walk_at "mem"
  have hg2 : (Str.ofString "add_at") ∈ cx.gs := by rw [hgs]; walk_at "mem"
  have hg3 : (Str.ofString "piece") ∈ cx.gs := by rw [hgs]; walk_at "mem"
  clear hgs
  have hb2 := hB.two
  obtain ⟨hl1, hl2⟩ := hM.len hB
  have hpos := hM.pos
  have hhi := hM.hi
  have hln := hB.len (n := n) (by omega)
  refine x_asg G S1 (.lenI (ns := lb b x) (a := mm) (by walk_at "mem") (.itemT (vs := [.val (.ref mm), .val (.ref q)]) (by walk_at "px") .int ht (by decide) rfl (fun _ _ => rfl)) hm rfl) (by walk_at "put") fun s2 S2 => ?_
  have hx1 : x / b ^ (lb b x).length = 0 := Nat.div_eq_of_lt (lb_lt hb2 x)
  generalize hsz : (lb b x).length = sz at *
  have hbs : b ^ sz ≤ 256 * 256 := by
    have h1 : b ^ sz ≤ b ^ 2 := Nat.pow_le_pow_right (by omega) hl2
    have h2 := pow_le_256 (n := 2) hB
    omega
  refine x_swap2 hA.hd S2 (sp_cons (ev_listI (ns := []) G S2 .nil (by decide) fun q0 s3 S3 => sp_cons (ev_listI (ns := []) G S3 .nil (by decide) fun r0 s4 S4 => sp_nil _ ⟨_, .val (.ref q0), .val (.ref r0), _, _, S4, ⟨rfl, rfl, trivial⟩, by walk_at "put", by walk_at "put", fun s5 S5 => ?_⟩))) (by simp) (by simp) rfl rfl rfl rfl rfl
  refine x_asg G S5 (.bin (.bin (.bin (.bin (by walk_at "px") (by walk_at "px") (.add _ _)) (by walk_at "px") (.sub _ _)) (by walk_at "px") (.fdiv (by omega) (by omega))) (by walk_at "px") (.mulr (by omega))) (by walk_at "put") fun s6 S6 => ?_
  generalize hj0 : ((lb b n).length + sz - 1) / sz = j0 at *
  have ej0 : ((lb b n).length + (sz : Int) - 1) / sz * sz = ((sz * j0 : Nat) : Int) := by
    rw [← hj0, Nat.mul_comm, Int.natCast_mul, Int.natCast_ediv, show (((lb b n).length + sz - 1 : Nat) : Int) = (lb b n).length + (sz : Int) - 1 by omega]
  have hj0lo : (lb b n).length ≤ sz * j0 := by
    have h1 := Nat.mod_add_div ((lb b n).length + sz - 1) sz
    have h2 := Nat.mod_lt ((lb b n).length + sz - 1) (show 0 < sz by omega)
    rw [hj0] at h1
    omega
  have hj0hi : sz * j0 ≤ 70 := by
    have h1 := Nat.mul_div_le ((lb b n).length + sz - 1) sz
    rw [hj0] at h1
    omega
  rw [ej0] at S6
  refine x_whileP (σ := Led × Addr × Addr × Nat) (bb := fun σ => decide ((0 : Int) < (sz * σ.2.2.2 : Nat))) (fun σ => [((Str.ofString "a"), .val (.ref a)), ((Str.ofString "told"), .val (.ref t)), ((Str.ofString "w"), .int k), ((Str.ofString "mul"), .val (.ref (γ.fa 34))), ((Str.ofString "size"), .int sz), ((Str.ofString "quotient"), .val (.ref σ.2.1)), ((Str.ofString "rest"), .val (.ref σ.2.2.1)), ((Str.ofString "spot"), .int (sz * σ.2.2.2 : Nat)), ((Str.ofString "part"), .any)]) (fun σ => σ.1)
    (fun σ => (∀ p ∈ H, p ∈ σ.1) ∧ (σ.2.1, il (lb b (n / b ^ (sz * σ.2.2.2) / x * b ^ (sz * σ.2.2.2)))) ∈ σ.1 ∧ (σ.2.2.1, il (lb b (n / b ^ (sz * σ.2.2.2) % x))) ∈ σ.1 ∧ sz * σ.2.2.2 ≤ 70) (fun σ => σ.2.2.2) (σ₀ := (_, q0, r0, j0)) G (S6.fit (by walk_at "weak") (List.Sublist.refl _))
    ⟨fun p hp => .tail _ (.tail _ hp), ?_, ?_, hj0hi⟩ (fun σ hP => by walk_at "px") (fun σ s7 hP hb S7 => ?_) (fun σ s7 hP hb S7 => ?_)
  · have : n / b ^ (sz * j0) = 0 := Nat.div_eq_of_lt (Nat.lt_of_lt_of_le (lb_lt hb2 n) (Nat.pow_le_pow_right (by omega) hj0lo))
    show (q0, il (lb b (n / b ^ (sz * j0) / x * b ^ (sz * j0)))) ∈ _
    rw [this, Nat.zero_div, Nat.zero_mul, lb_zero]; exact .tail _ (.head _)
  · have : n / b ^ (sz * j0) = 0 := Nat.div_eq_of_lt (Nat.lt_of_lt_of_le (lb_lt hb2 n) (Nat.pow_le_pow_right (by omega) hj0lo))
    show (r0, il (lb b (n / b ^ (sz * j0) % x))) ∈ _
    rw [this, Nat.zero_mod, lb_zero]; exact .head _
  · obtain ⟨L, qr, rr, j⟩ := σ
    obtain ⟨p1, p2, p3, p4⟩ := hP
    have p1' : ∀ p ∈ H, p ∈ L := p1
    have p2' : (qr, il (lb b (n / b ^ (sz * j) / x * b ^ (sz * j)))) ∈ L := p2
    have p3' : (rr, il (lb b (n / b ^ (sz * j) % x))) ∈ L := p3
    have p4' : sz * j ≤ 70 := p4
    clear p1 p2 p3 p4
    have hb' : 0 < sz * j := Int.natCast_pos.mp (of_decide_eq_true hb)
    obtain ⟨i, rfl⟩ : ∃ i, j = i + 1 := ⟨j - 1, by rcases Nat.eq_zero_or_pos j with h | h; · subst h; simp at hb'
                                                   · omega⟩
    have esz : sz * (i + 1) = sz * i + sz := Nat.mul_succ _ _
    have ediv : n / b ^ (sz * (i + 1)) = n / b ^ (sz * i) / b ^ sz := by rw [esz, Nat.pow_add, Nat.div_div_eq_div_mul]
    refine x_aug G S7 (by walk_at "mem") (by walk_at "px") (by walk_at "bini") (by walk_at "put") fun s8 S8 => ?_
    have es : ((sz * (i + 1) : Nat) : Int) - sz = ((sz * i : Nat) : Int) := by omega
    replace S8 : St g B cx [((Str.ofString "a"), .val (.ref a)), ((Str.ofString "told"), .val (.ref t)), ((Str.ofString "w"), .int k), ((Str.ofString "mul"), .val (.ref (γ.fa 34))), ((Str.ofString "size"), .int sz), ((Str.ofString "quotient"), .val (.ref qr)), ((Str.ofString "rest"), .val (.ref rr)), ((Str.ofString "spot"), .int (((sz * (i + 1) : Nat) : Int) - sz)), ((Str.ofString "part"), .any)] L s8 := S8
    rw [es] at S8
    have haL := p1' _ ha
    generalize htt : n / b ^ (sz * i) = tt at *
    have htn : tt < 2 ^ 50 := by rw [← htt]; exact Nat.lt_of_le_of_lt (Nat.div_le_self _ _) hn
    rw [ediv] at p2' p3'
    refine x_twoS hA.hd S8 (ev_callG T 21 G S8 (by walk_at "mem") fun s9 S9 => sp_cons (ev_callG T 11 G S9 (by walk_at "mem") fun s10 S10 => sp_cons (ev_callG T 16 G S10 (by walk_at "mem") fun s11 S11 =>
      pxs G (vs := [.val (.ref a), .int ((sz * i : Nat) : Int), .int (((sz * i : Nat) : Int) + (sz : Int))]) (by walk_at "pxs") S11 fun xs s12 hxs S12 => ⟨⟨_, _, _, S12⟩, ?_⟩)))
    rw [← Int.natCast_add] at hxs
    refine ((piece_spec T hB haL (by omega)) xs hxs).use G hA (by omega) S12 fun v s13 H2 S13 hp => ?_
    obtain ⟨pc, rfl, hp1, hp2⟩ := hp
    rw [htt, Nat.add_sub_cancel_left] at hp1
    have hrr := hp2 _ p3'
    refine pxs G (vs := [.val (.ref rr), .int sz, .int k]) (by walk_at "pxs") S13 fun xs s14 hxs S14 => ⟨⟨_, _, _, S14⟩, ?_⟩
    have hz1 := bz_lt (t := tt) (S := b ^ sz) (x := x) (Nat.pow_pos (by omega)) hpos
    have hz2 : b ^ sz * x ≤ 256 * 256 * 256 := Nat.mul_le_mul hbs (by omega)
    have hpp : 0 < b ^ sz := Nat.pow_pos (by omega)
    have hm1 := Nat.mod_lt tt hpp
    have hm2 := Nat.mod_lt (tt / b ^ sz) hpos
    refine ((add_at_spec T hB (n := sz) hp1 hrr (by omega) (by omega) (by omega)) (.ref pc :: xs) ⟨rfl, hxs⟩).use G hA (by omega) S14 fun v s15 H3 S15 hp => ?_
    obtain ⟨zr, rfl, hp3, hp4⟩ := hp
    obtain ⟨e1, e2⟩ := bstep (t := tt) (S := b ^ sz) (x := x) hpos
    generalize hz : tt % b ^ sz + tt / b ^ sz % x * b ^ sz = z at *
    have base3 : ∀ p ∈ H, p ∈ H3 := fun p hp => hp4 _ (hp2 _ (p1' p hp))
    refine pxs G (vs := [.val (.ref t), .int k, .val (.ref (γ.fa 34))]) (by walk_at "pxs") S15 fun xs s16 hxs S16 => ⟨⟨_, _, _, S16⟩, ?_⟩
    refine ((barrett_once_spec T hB hM hp3 (base3 _ ht) (base3 _ hm) (by rw [hsz]; exact base3 _ hq) (by omega)) (.ref zr :: xs) ⟨rfl, hxs⟩).use G hA (by omega) S16 fun v s17 H4 S17 hp => ?_
    obtain ⟨t2, pr, r2, rfl, g1, g2, g3, g4⟩ := hp
    refine ⟨t2, _, _, H4, _, _, rfl, S17, g1, by walk_at "put", by walk_at "put", fun s18 S18 => ?_⟩
    have hq4 := g4 _ (hp4 _ (hp2 _ p2'))
    have hqb : tt / b ^ sz / x * b ^ (sz * (i + 1)) < 2 ^ 50 := by
      rw [← ediv]
      exact Nat.lt_of_le_of_lt (Nat.le_trans (Nat.mul_le_mul_right _ (Nat.div_le_self _ _)) (Nat.div_mul_le_self _ _)) hn
    have hzx : z / x < 2 ^ 50 := Nat.lt_of_le_of_lt (Nat.div_le_self _ _) (by omega)
    refine x_asgG (ev_callS T 11 2 4 G hA S18 (by walk_at "mem") (by walk_at "pxs") (add_at_spec T hB (n := sz * i) hq4 g2 (by omega) (by omega) (by omega)) fun v s19 H5 S19 hp => ?_)
    obtain ⟨q5, rfl, hq1, hq2⟩ := hp
    refine st_loc S19 (v := .val (.ref q5)) (by walk_at "put") rfl fun s20 S20 => ?_
    have eq5 : tt / b ^ sz / x * b ^ (sz * (i + 1)) + z / x * b ^ (sz * i) = tt / x * b ^ (sz * i) := by
      rw [esz, Nat.pow_add, ← e2]; grind
    rw [eq5, ← htt] at hq1
    rw [e1, ← htt] at g3
    refine x_nil ⟨(H5, q5, r2, i), S20.fit (by walk_at "weak") (List.Sublist.refl _), ⟨fun p hp => hq2 _ (g4 _ (base3 p hp)), hq1, hq2 _ g3, by show sz * i ≤ 70; omega⟩, by show i < i + 1; omega⟩
  · obtain ⟨L, qr, rr, j⟩ := σ
    obtain ⟨p1, p2, p3, p4⟩ := hP
    have p1' : ∀ p ∈ H, p ∈ L := p1
    have p2' : (qr, il (lb b (n / b ^ (sz * j) / x * b ^ (sz * j)))) ∈ L := p2
    have p3' : (rr, il (lb b (n / b ^ (sz * j) % x))) ∈ L := p3
    clear p1 p2 p3 p4
    have hb' : ¬ ((0 : Int) < ((sz * j : Nat) : Int)) := of_decide_eq_false hb
    have hz : sz * j = 0 := by omega
    rw [hz, Nat.pow_zero, Nat.div_one, Nat.mul_one] at p2'
    rw [hz, Nat.pow_zero, Nat.div_one] at p3'
    refine x_retG (ev_tupP (vs := [.val (.ref qr), .val (.ref rr)]) G S7 (by walk_at "pxs") (by simp [bigN]) fun r6 s19 S19 => ?_)
    exact ⟨_, _, _, S19, r6, qr, rr, rfl, .head _, .tail _ p2', .tail _ p3', fun p hp => .tail _ (p1' p hp)⟩

theorem barrett_rest_spec (T : Top γ) {k b x n : Nat} (hB : Bs k b) (hM : Md b x) {H : Led} {a t mm q : Addr} (ha : (a, il (lb b n)) ∈ H) (ht : (t, O.tup [.val (.ref mm), .val (.ref q)]) ∈ H) (hm : (mm, il (lb b x)) ∈ H)
    (hq : (q, il (lb b (b ^ (2 * (lb b x).length) / x))) ∈ H) (hn : n < 2 ^ 50) :
    SpecV prog w g γ 6 23 [.val (.ref a), .val (.ref t), .int k, .val (.ref (γ.fa 34))] H (RetL (lb b (n % x)) H) := by
  refine def_spec T 23 5 [((Str.ofString "a"), .val (.ref a)), ((Str.ofString "told"), .val (.ref t)), ((Str.ofString "w"), .int k), ((Str.ofString "mul"), .val (.ref (γ.fa 34)))] 4 [(Str.ofString "a"), (Str.ofString "told"), (Str.ofString "w"), (Str.ofString "mul")] [(Str.ofString "barrett_divrem")] rfl (fun cx A B s1 hA G hgs S1 => ?_) (by decide +kernel) (by exact rfl) (by exact rfl) (by exact rfl) (by exact Nat.le_of_ble_eq_true rfl) (by walk_at "bnd")
  have hg0 : (Str.ofString "barrett_divrem") ∈ cx.gs := by rw [hgs]; walk_at "mem"
  clear hgs
  refine x_retG (ev_itemT G S1 (ev_callS T 22 5 5 G hA S1 (by walk_at "mem") (by walk_at "pxs") (barrett_divrem_spec T hB hM ha ht hm hq hn) fun v s2 H2 S2 hp => ?_) (fun _ _ => rfl))
  obtain ⟨t, p, q, rfl, g1, g2, g3, g4⟩ := hp
  refine ⟨t, _, H2, 1, .val (.ref q), rfl, S2, g1, .int, by decide, rfl, fun val s11 hv S11 => ?_⟩
  cases hv
  exact ⟨_, _, _, S11, q, rfl, g3, g4⟩
end
end

section
open PySem PySem.Calls
section
variable {prog : Program} {w : World} {g s : Shared} {B : Heap} {c : Cx} {m : Loc} {H : Led} {A : Around} {E : Value → Shared → Prop} {γ : Gl}

theorem doubled_rest_spec (T : Top γ) {k b x y : Nat} (hB : Bs k b) (hM : Md b x) {H : Led} {a mm : Addr} (ha : (a, il (lb b y)) ∈ H) (hm : (mm, il (lb b x)) ∈ H) (hy : y < x ∨ y = 1) :
    SpecV prog w g γ 3 25 [.val (.ref a), .val (.ref mm), .int k] H (RetL (lb b (if x ≤ 2 * y then 2 * y - x else 2 * y)) H) := by
  refine def_spec T 25 2 [((Str.ofString "a"), .val (.ref a)), ((Str.ofString "m"), .val (.ref mm)), ((Str.ofString "w"), .int k), ((Str.ofString "found"), V.any)] 3 [(Str.ofString "a"), (Str.ofString "m"), (Str.ofString "w"), (Str.ofString "found")] [(Str.ofString "shift_left"), (Str.ofString "compare"), (Str.ofString "sub")] rfl (fun cx A B s1 hA G hgs S1 => ?_) (by decide +kernel) (by exact rfl) (by exact rfl) (by exact rfl) (by exact Nat.le_of_ble_eq_true rfl) (by walk_at "bnd")
  have hg0 : (Str.ofString "shift_left") ∈ cx.gs := by rw [hgs]; walk_at "mem"
  have hg1 : (Str.ofString "compare") ∈ cx.gs := by rw [hgs]; walk_at "mem"
  have hg2 : (Str.ofString "sub") ∈ cx.gs := by rw [hgs]; walk_at "mem"
  clear hgs
  have hb2 := hB.two
  have hk1 := hB.k1
  have hhi := hM.hi
  have hpos := hM.pos
  have C := shift_left_spec (prog := prog) (w := w) (g := g) T hB (n := 1) ha (by omega) (by omega)
  rw [show ((1 : Nat) : Int) = 1 from rfl, show y * 2 ^ 1 = 2 * y by omega] at C
  refine x_asgG (ev_callS T 13 1 2 G hA S1 (by walk_at "mem") (by walk_at "pxs") C fun v s2 H2 S2 hp => ?_)
  obtain ⟨d, rfl, hd1, hd2⟩ := hp
  refine st_loc S2 (v := .val (.ref d)) (by walk_at "put") rfl fun s3 S3 => ?_
  have hm2 := hd2 _ hm
  refine x_retG (wpAny_IfExp (t_cmpGe T hB G hA S3 (by walk_at "mem") (by walk_at "pxs") hd1 hm2 (by omega) (by omega) (by omega) fun s4 S4 => ite_b (fun hb => ?_) fun hb => ?_))
  · simp only [decide_eq_true_eq] at hb
    rw [if_pos hb]
    refine ev_callS T 9 2 2 G hA S4 (by walk_at "mem") (by walk_at "pxs") (sub_spec T hB hd1 hm2 (by omega) hb) fun v s5 H3 S5 hp => ?_
    obtain ⟨e, rfl, he1, he2⟩ := hp
    exact ⟨_, _, _, S5, e, rfl, he1, fun p hp => he2 _ (hd2 _ hp)⟩
  · simp only [decide_eq_false_iff_not] at hb
    rw [if_neg hb]
    exact px_u G S4 (by walk_at "px") fun s5 S5 => ⟨_, _, _, S5, d, rfl, hd1, hd2⟩

theorem taken_once_spec (T : Top γ) {k b x y : Nat} (hB : Bs k b) (hM : Md b x) {H : Led} {a mm : Addr} (ha : (a, il (lb b y)) ∈ H) (hm : (mm, il (lb b x)) ∈ H) (hy : y < 2 * x) :
    SpecV prog w g γ 3 28 [.val (.ref a), .val (.ref mm), .int k] H (RetL (lb b (y % x)) H) := by
  refine def_spec T 28 2 [((Str.ofString "a"), .val (.ref a)), ((Str.ofString "m"), .val (.ref mm)), ((Str.ofString "w"), .int k)] 3 [(Str.ofString "a"), (Str.ofString "m"), (Str.ofString "w")] [(Str.ofString "compare"), (Str.ofString "sub")] rfl (fun cx A B s1 hA G hgs S1 => ?_) (by decide +kernel) (by exact rfl) (by exact rfl) (by exact rfl) (by exact Nat.le_of_ble_eq_true rfl) (by walk_at "bnd")
  have hg0 : (Str.ofString "compare") ∈ cx.gs := by rw [hgs]; walk_at "mem"
  have hg1 : (Str.ofString "sub") ∈ cx.gs := by rw [hgs]; walk_at "mem"
  clear hgs
  have hhi := hM.hi
  refine x_retG (wpAny_IfExp (t_cmpGe T hB G hA S1 (by walk_at "mem") (by walk_at "pxs") ha hm (by omega) (by omega) (by omega) fun s4 S4 => ite_b (fun hb => ?_) fun hb => ?_))
  · simp only [decide_eq_true_eq] at hb
    have e0 : y % x = y - x := by rw [Nat.mod_eq_sub_mod hb, Nat.mod_eq_of_lt (by omega)]
    rw [e0]
    refine ev_callS T 9 2 2 G hA S4 (by walk_at "mem") (by walk_at "pxs") (sub_spec T hB ha hm (by omega) hb) fun v s5 H3 S5 hp => ?_
    obtain ⟨e, rfl, he1, he2⟩ := hp
    exact ⟨_, _, _, S5, e, rfl, he1, he2⟩
  · simp only [decide_eq_false_iff_not] at hb
    rw [Nat.mod_eq_of_lt (by omega)]
    exact px_u G S4 (by walk_at "px") fun s5 S5 => ⟨_, _, _, S5, a, rfl, ha, fun _ hp => hp⟩

theorem add_row_spec (T : Top γ) {k b n : Nat} (hB : Bs k b) {H : Led} {r y : Addr} {rs ys : List Int} {l : Int} (hy : (y, il ys) ∈ H) (hrs : Lim b rs) (hys : Lim b ys) (hl : rs.length ≤ 1000) (hlen : n + ys.length ≤ rs.length) (hl0 : 0 ≤ l) (hlb : l < b)
    (hlt : vl b rs + b ^ n * (l * vl b ys) < b ^ rs.length) :
    SpecV prog w g γ 1 27 [.val (.ref r), .val (.ref y), .int l, .int n, .int k] ((r, il rs) :: H) (fun v H' => v = .none ∧ ∃ rs', H' = (r, il rs') :: H ∧ rs'.length = rs.length ∧ Lim b rs' ∧ vl b rs' = vl b rs + b ^ n * (l * vl b ys)) := by
  refine def_spec T 27 0 [((Str.ofString "rest"), .val (.ref r)), ((Str.ofString "m"), .val (.ref y)), ((Str.ofString "limb"), .int l), ((Str.ofString "at"), .int n), ((Str.ofString "w"), .int k), ((Str.ofString "carry"), V.any), ((Str.ofString "mask"), V.any), ((Str.ofString "one"), V.any)] 5 [(Str.ofString "rest"), (Str.ofString "m"), (Str.ofString "limb"), (Str.ofString "at"), (Str.ofString "w"), (Str.ofString "carry"), (Str.ofString "mask"), (Str.ofString "one")] [] rfl (fun cx A B s1 hA G hgs S1 => ?_) (by decide +kernel) (by exact rfl) (by exact rfl) (by exact rfl) (by exact Nat.le_of_ble_eq_true rfl) (by walk_at "bnd")
  clear hgs
  have hb2 := hB.two
  have hhi := hB.hi
  have hbp : (0 : Int) < b := by omega
  refine x_swapP2 G hA.hd S1 (by walk_at "px") (by walk_at "px") (by walk_at "put") (by walk_at "put") (fun s2 S2 => ?_) rfl rfl rfl rfl rfl (fun _ => rfl) (fun _ => rfl)
  refine x_forList (σ := List Int × Int × Nat) (l := y) (ns := ys) (fun σ v => [((Str.ofString "rest"), .val (.ref r)), ((Str.ofString "m"), .val (.ref y)), ((Str.ofString "limb"), .int l), ((Str.ofString "at"), .int σ.2.2), ((Str.ofString "w"), .int k), ((Str.ofString "carry"), .int σ.2.1), ((Str.ofString "mask"), .int (b - 1)), ((Str.ofString "one"), v)]) (fun σ => (r, il σ.1) :: H)
    (fun i σ => σ.1.length = rs.length ∧ Lim b σ.1 ∧ 0 ≤ σ.2.1 ∧ σ.2.1 < b ∧ σ.2.2 = n + i ∧ vl b σ.1 + b ^ σ.2.2 * σ.2.1 = vl b rs + b ^ n * (l * vl b (ys.take i))) (σ₀ := (rs, 0, n)) G hA.hd S2
    ⟨rfl, hrs, Int.le_refl 0, hbp, rfl, by simp [vl]⟩ (by walk_at "px") (fun i σ _ => .tail _ hy) (fun _ v => by walk_at "put") (fun i σ s4 I it hi hP S4 => ?_) (fun σ s4 hP S4 => ?_)
  · obtain ⟨h1, h2, h3, h4, h5, h6⟩ := hP
    obtain ⟨f, carry, pos⟩ := σ
    replace h1 : f.length = rs.length := h1
    replace h2 : Lim b f := h2
    replace h3 : 0 ≤ carry := h3
    replace h4 : carry < b := h4
    replace h5 : pos = n + i := h5
    replace h6 : vl b f + b ^ pos * carry = vl b rs + b ^ n * (l * vl b (ys.take i)) := h6
    dsimp only at S4
    have lo := hys.get hbp i
    have lg := h2.get hbp pos
    generalize ho : ys.getD i 0 = o at *
    have t1 : ((pos : Int)).toNat = pos := rfl
    refine x_aug G S4 (by walk_at "mem") (.bin (by walk_at "px") (.bin (by walk_at "px") (by walk_at "px") (.mul (by omega))) (.add _ _)) (.add _ _) (by walk_at "put") fun s5 S5 => ?_
    rw [t1] at S5
    generalize hc0 : carry + (f.getD pos 0 + o * l) = c0 at S5
    obtain ⟨k1, k2, k3⟩ := mul_step hbp lg ⟨h3, h4⟩ lo ⟨hl0, hlb⟩ hc0.symm
    refine x_setI G S5 (by walk_at "px") (by walk_at "px") (by walk_at "px") (by walk_at "mem") (by omega) (by omega) (by walk_at "put") fun s6 S6 => ?_
    rw [t1] at S6
    refine x_aug G S6 (by walk_at "mem") (by walk_at "px") (by walk_at "bini") (by walk_at "put") fun s7 S7 => ?_
    refine x_aug G S7 (by walk_at "mem") (by walk_at "px") (by walk_at "bini") (by walk_at "put") fun s8 S8 => ?_
    rw [show (pos : Int) + 1 = ((pos + 1 : Nat) : Int) from rfl] at S8
    refine x_nil ⟨(f.set pos (c0 % b), c0 / b, pos + 1), S8.fit (by walk_at "weak") (List.Sublist.refl _), by simp [h1], h2.set _ (emod_lim hbp), k2, k3, by show pos + 1 = n + (i + 1); omega, ?_⟩
    have := vl_mul_step (x := f) (i := pos) (b := b) (c := c0) (carry := carry) (d := o * l) (by omega) hc0.symm
    show vl b (f.set pos (c0 % b)) + b ^ (pos + 1) * (c0 / b) = _
    rw [this, h6, vl_take_succ, ho, h5, Int.pow_add]
    grind
  · obtain ⟨h1, h2, h3, h4, h5, h6⟩ := hP
    rw [take_ge (Nat.le_refl ys.length)] at h6
    refine x_whileP (σ := List Int × Int × Nat) (bb := fun σ => decide (0 < σ.2.1)) (fun σ => [((Str.ofString "rest"), .val (.ref r)), ((Str.ofString "m"), .val (.ref y)), ((Str.ofString "limb"), .int l), ((Str.ofString "at"), .int σ.2.2), ((Str.ofString "w"), .int k), ((Str.ofString "carry"), .int σ.2.1), ((Str.ofString "mask"), .int (b - 1)), ((Str.ofString "one"), .any)]) (fun σ => (r, il σ.1) :: H)
      (fun σ => σ.1.length = rs.length ∧ Lim b σ.1 ∧ 0 ≤ σ.2.1 ∧ σ.2.1 < b ∧ vl b σ.1 + b ^ σ.2.2 * σ.2.1 = vl b rs + b ^ n * (l * vl b ys)) (fun σ => rs.length - σ.2.2) (σ₀ := σ) G S4
      ⟨h1, h2, h3, h4, h6⟩ (fun σ hP => by walk_at "px") (fun σ s5 hP hb S5 => ?_) (fun σ s5 hP hb S5 => ?_)
    · obtain ⟨h1, h2, h3, h4, h6⟩ := hP
      obtain ⟨f, carry, pos⟩ := σ
      replace h1 : f.length = rs.length := h1
      replace h2 : Lim b f := h2
      replace h3 : 0 ≤ carry := h3
      replace h4 : carry < b := h4
      replace h6 : vl b f + b ^ pos * carry = vl b rs + b ^ n * (l * vl b ys) := h6
      have hc : 0 < carry := of_decide_eq_true hb
      have hpl : pos < rs.length := by
        rcases Nat.lt_or_ge pos rs.length with h | h
        · exact h
        · exfalso
          have e1 : (b : Int) ^ rs.length ≤ (b : Int) ^ pos := by
            rw [← natpow, ← natpow]
            exact Int.ofNat_le.mpr (Nat.pow_le_pow_right (by omega) h)
          have e2 := Int.mul_le_mul_of_nonneg_left (show 1 ≤ carry by omega) (Int.le_of_lt (pow_pos' hbp pos))
          have e3 := vl_nonneg hbp h2
          omega
      dsimp only at S5
      have lg := h2.get hbp pos
      have t1 : ((pos : Int)).toNat = pos := rfl
      refine x_aug G S5 (by walk_at "mem") (by walk_at "px") (by walk_at "bini") (by walk_at "put") fun s6 S6 => ?_
      rw [t1] at S6
      generalize hc0 : carry + f.getD pos 0 = c0 at S6
      obtain ⟨k1, k2, k3⟩ := mul_step (c := c0) (l := 0) (o := 0) hbp lg ⟨h3, h4⟩ ⟨Int.le_refl 0, hbp⟩ ⟨Int.le_refl 0, hbp⟩ (by omega)
      refine x_setI G S6 (by walk_at "px") (by walk_at "px") (by walk_at "px") (by walk_at "mem") (by omega) (by omega) (by walk_at "put") fun s7 S7 => ?_
      rw [t1] at S7
      refine x_aug G S7 (by walk_at "mem") (by walk_at "px") (by walk_at "bini") (by walk_at "put") fun s8 S8 => ?_
      refine x_aug G S8 (by walk_at "mem") (by walk_at "px") (by walk_at "bini") (by walk_at "put") fun s9 S9 => ?_
      rw [show (pos : Int) + 1 = ((pos + 1 : Nat) : Int) from rfl] at S9
      refine x_nil ⟨(f.set pos (c0 % b), c0 / b, pos + 1), S9, ⟨by simp [h1], h2.set _ (emod_lim hbp), k2, k3, ?_⟩, by show rs.length - (pos + 1) < rs.length - pos; omega⟩
      have := vl_mul_step (x := f) (i := pos) (b := b) (c := c0) (carry := carry) (d := 0) (by omega) (by omega)
      show vl b (f.set pos (c0 % b)) + b ^ (pos + 1) * (c0 / b) = _
      rw [this, h6]; simp
    · obtain ⟨h1, h2, h3, h4, h6⟩ := hP
      have hc : ¬ 0 < σ.2.1 := of_decide_eq_false hb
      have hc0 : σ.2.1 = 0 := by omega
      rw [hc0, Int.mul_zero, Int.add_zero] at h6
      exact x_nil ⟨_, _, _, S5, rfl, σ.1, rfl, h1, h2, h6⟩
end
end

section
open PySem PySem.Calls PySem.W
inductive Ents : List DictEntry → List (Str × V) → Prop
  | nil : Ents [] []
  | cons {e es nm v fs} : v.Is (some e.val) → (∃ tk, e.key = .str nm tk) → Ents es fs → Ents (e :: es) ((nm, v) :: fs)

theorem isStr_str (a b : Str) (tk : Tok) : (Value.str a tk).isStr b = (a == b) := rfl

theorem Ents.put {nm : Str} {h : Int} {val : Value} {V0 : V} {tk : Tok} (hv : V0.Is (some val)) : ∀ {es : List DictEntry} {fs : List (Str × V)}, Ents es fs → nm ∉ fs.map (·.1) → Ents (putL nm h (.str nm tk) val es) (fs ++ [(nm, V0)])
  | _, _, .nil, _ => .cons hv ⟨tk, rfl⟩ .nil
  | _, _, .cons (e := e) (nm := n2) (fs := fs) h1 ⟨tk2, h2⟩ h3, hn => by
    rw [List.map_cons, List.mem_cons, not_or] at hn
    have : (e.key.isStr nm) = false := by
      rw [h2, isStr_str]
      exact beq_eq_false_iff_ne.mpr fun q => hn.1 q.symm
    unfold putL
    rw [this]
    exact .cons h1 ⟨tk2, h2⟩ (Ents.put hv h3 hn.2)
theorem Ents.len : ∀ {es : List DictEntry} {fs : List (Str × V)}, Ents es fs → es.length = fs.length
  | _, _, .nil => rfl
  | _, _, .cons _ _ h => by rw [List.length_cons, List.length_cons, h.len]
theorem Ents.noref : ∀ {es : List DictEntry} {fs : List (Str × V)}, Ents es fs → es.any (·.refKey) = false
  | _, _, .nil => rfl
  | _, _, .cons (e := e) _ ⟨tk, h⟩ r => by
    rw [List.any_cons, r.noref, Bool.or_false]
    unfold DictEntry.refKey
    rw [h]
theorem Ents.getNone {nm : Str} {es : List DictEntry} {fs : List (Str × V)} (h : Ents es fs) : (getL nm es).isSome = true := by
  unfold getL
  split
  · rfl
  · rw [h.noref]; rfl
theorem Ents.get {nm : Str} {v : V} : ∀ {es : List DictEntry} {fs : List (Str × V)}, Ents es fs → (fs.map (·.1)).Nodup → (nm, v) ∈ fs → ∃ val, getL nm es = some (some val) ∧ v.Is (some val)
  | _, _, .nil, _, hm => by cases hm
  | _, _, .cons (e := e) (es := es) (nm := n2) (v := v2) (fs := fs) h1 ⟨tk, h2⟩ h3, nd, hm => by
    rw [List.map_cons, List.nodup_cons] at nd
    rcases List.mem_cons.mp hm with q | hm
    · cases q
      refine ⟨e.val, ?_, h1⟩
      unfold getL
      rw [List.find?_cons, h2, isStr_str, beq_self_eq_true]
    · have hne : (n2 == nm) = false := beq_eq_false_iff_ne.mpr fun q => nd.1 (q ▸ List.mem_map_of_mem (f := (·.1)) hm)
      obtain ⟨val, k1, k2⟩ := Ents.get h3 nd.2 hm
      refine ⟨val, ?_, k2⟩
      unfold getL at k1 ⊢
      rw [List.find?_cons, h2, isStr_str, hne]
      simp only []
      split at k1
      · exact k1
      · rename_i he
        split at k1 <;> cases k1

/-- a dict of attributes -/
noncomputable def dO (fs : List (Str × V)) : O := .pred fun o => ∃ es n, o = dictOf es n ∧ Ents es fs ∧ fs.length ≤ 1000

noncomputable def mNames : List Str := ["modulus", "minus", "one", "square"]

/-- the class Montgomery as the top left it -/
structure MC (γ : Gl) : Prop where
  made : makesIn γ.K γ.C = true
  ini : findIn γ.K (.ref γ.C) "__init__" = some (some (.ref γ.fI))
  isf : isFn γ.K (.ref γ.fI) = true
  dic : hasDictIn γ.K γ.C = true
  get : ∀ n, plainGet γ.K γ.C n = true
  fnd : ∀ n ∈ mNames, findIn γ.K (.ref γ.C) n = some none
  ng : noGet γ.K none = true
  tak : ∀ n ∈ mNames, takerIn γ.K γ.C n = some none
  ov : plainOver γ.K γ.C = true
  set : findIn γ.K (.ref γ.C) "__setattr__" = some (some (.builtin "object.__setattr__"))

section
variable {prog : Program} {w : World} {g s : Shared} {B : Heap} {c : Cx} {m : Loc} {H : Led} {A : Around} {E : Value → Shared → Prop} {γ : Gl}

theorem St.news2 (S : St g B c m H s) : ∃ objs : List (Addr × Obj), PyProof.Rows.News B c.L s.heap objs ∧ (∀ p ∈ H, ∃ ob, (p.1, ob) ∈ objs ∧ p.2.Is ob) ∧ objs.map (·.1) = H.map (·.1) := by
  have gen : ∀ H' : Led, (∀ p ∈ H', p ∈ H) → ∃ objs : List (Addr × Obj), PyProof.Rows.News B c.L s.heap objs ∧ (∀ p ∈ H', ∃ ob, (p.1, ob) ∈ objs ∧ p.2.Is ob) ∧ objs.map (·.1) = H'.map (·.1) := by
    intro H'
    induction H' with
    | nil => exact fun _ => ⟨[], ⟨(fun p hp => by cases hp), fun p hp => (by cases hp), rfl⟩⟩
    | cons p r ih =>
      intro hs
      obtain ⟨objs, h1, h2, h3⟩ := ih fun q hq => hs q (.tail _ hq)
      obtain ⟨⟨ob, a1, a2⟩, a3, a4⟩ := S.led p (hs p (.head _))
      refine ⟨(p.1, ob) :: objs, fun q hq => ?_, fun q hq => ?_, by rw [List.map_cons, List.map_cons, h3]⟩
      · rcases List.mem_cons.mp hq with rfl | hq
        · exact ⟨a1, a3, a4⟩
        · exact h1 q hq
      · rcases List.mem_cons.mp hq with rfl | hq
        · exact ⟨ob, .head _, a2⟩
        · obtain ⟨ob', b1, b2⟩ := h2 q hq
          exact ⟨ob', .tail _ b1, b2⟩
  exact gen H fun _ h => h

/-- told.name -/
theorem ev_attr {x nm : Str} {p p' : Pos} {o dx : Addr} {fs : List (Str × V)} {v : V} {Q : Value → Shared → Prop} (M : MC γ) (G : GW γ B) (S : St g B c m H s) (P : PX c m H false (.Name x p) (.val (.ref o))) (h1 : (o, O.obj (instObj γ.C dx)) ∈ H) (h2 : (dx, dO fs) ∈ H)
    (hf : (nm, v) ∈ fs) (hnd : (fs.map (·.1)).Nodup) (hm : nm ∈ mNames) (hv : ∀ val, v.Is (some val) → handedIn val = true) (k : ∀ val s', v.Is (some val) → St g B c m H s' → Q val s')
    (he : eval (.Attribute (.Name x p) nm p') c.env = (do
      let o ← eval (.Name x p) c.env
      standAt p'.atName
      let r ← holding [o] (getAttr o nm true)
      letTemporaryGo (.Name x p) o r
      pure r) := by with_unfolding_all rfl) :
    wpAny (model prog w) A (eval (.Attribute (.Name x p) nm p') c.env) Q E s := by
  refine PyProof.Rows.Attribute_Name_ (px_u G S P fun s1 S1 => ?_) he
  obtain ⟨mm, F, hM⟩ := id S1.fr
  obtain ⟨ob, a1, a2⟩ := S1.get h1
  obtain ⟨od, b1, es, n, b2, b3, b4⟩ := S1.get h2
  have a2' : ob = instObj γ.C dx := a2
  subst a2' b2
  obtain ⟨val, e1, e2⟩ := b3.get hnd hf
  exact get_own F G.X ⟨a1, rfl, rfl, b1⟩ (M.get nm) M.dic (M.fnd nm hm) M.ng e1 (hv val e2) (k val _ e2 (S1.toks _))

/-- self.name = value -/
theorem st_attr {nm : Str} {x dx : Addr} {fs : List (Str × V)} {v : V} {val : Value} {Q : Unit → Shared → Prop} (M : MC γ) (G : GW γ B) (S : St g B c m ((x, O.obj (instObj γ.C dx)) :: (dx, dO fs) :: H) s) (hn : nm ∉ fs.map (·.1)) (hm : nm ∈ mNames) (hlen : fs.length < 1000) (hv : v.Is (some val))
    (k : ∀ s', St g B c m ((x, O.obj (instObj γ.C dx)) :: (dx, dO (fs ++ [(nm, v)])) :: H) s' → Q () s') : wpAny (model prog w) A (setAttr (.ref x) nm val) Q E s := by
  obtain ⟨mm, F, hM⟩ := id S.fr
  obtain ⟨ob, a1, a2⟩ := S.get (.head _)
  obtain ⟨od, b1, es, n, b2, b3, b4⟩ := S.get (.tail _ (.head _))
  have a2' : ob = instObj γ.C dx := a2
  subst a2' b2
  obtain ⟨objs, N, hobj, hmap⟩ := S.tail.tail.news2
  have nd := S.nd
  rw [List.map_cons, List.map_cons, List.nodup_cons, List.nodup_cons] at nd
  have hx := S.led _ (.head _)
  have hd := S.led _ (.tail _ (.head _))
  have N2 : PyProof.Rows.News B c.L s.heap ((x, instObj γ.C dx) :: (dx, dictOf es n) :: objs) := fun q hq => by
    rcases List.mem_cons.mp hq with rfl | hq
    · exact ⟨a1, hx.2⟩
    rcases List.mem_cons.mp hq with rfl | hq
    · exact ⟨b1, hd.2⟩
    · exact N q hq
  have hne : x ≠ dx := fun q => nd.1 (by rw [q]; exact .head _)
  have hoff : ∀ p ∈ objs, p.1 ≠ dx := fun p hp q => nd.2.1 (by rw [← hmap, ← q]; exact List.mem_map_of_mem (f := (·.1)) hp)
  refine set_dict F G.X N2 ⟨a1, rfl, rfl, b1⟩ rfl M.set M.ov (M.tak nm hm) M.dic b3.getNone rfl (.tail hne (.head hoff)) ?_ fun h' F' N' => ?_
  · rw [(b3.put hv hn).len, List.length_append, List.length_singleton]; omega
  · refine k _ ⟨S.same, ⟨mm, F', hM⟩, fun p hp => ?_, S.nd, S.kx⟩
    rcases List.mem_cons.mp hp with rfl | hp
    · have := N' (x, instObj γ.C dx) (.head _)
      exact ⟨⟨_, this.1, rfl⟩, this.2⟩
    rcases List.mem_cons.mp hp with rfl | hp
    · have := N' _ (.tail _ (.head _))
      exact ⟨⟨_, this.1, _, _, rfl, b3.put hv hn, by rw [List.length_append, List.length_singleton]; omega⟩, this.2⟩
    · obtain ⟨ob, c1, c2⟩ := hobj p hp
      have := N' _ (.tail _ (.tail _ c1))
      exact ⟨⟨ob, this.1, c2⟩, this.2⟩

theorem x_attr {o : Expr} {nm : Str} {p' p : Pos} {e : Expr} {x dx : Addr} {fs : List (Str × V)} {v : V} {rest : List Stmt} {Q : Flow → Shared → Prop} (M : MC γ) (G : GW γ B) (S : St g B c m ((x, O.obj (instObj γ.C dx)) :: (dx, dO fs) :: H) s)
    (P : PX c m ((x, O.obj (instObj γ.C dx)) :: (dx, dO fs) :: H) false e v) (P1 : PX c m ((x, O.obj (instObj γ.C dx)) :: (dx, dO fs) :: H) false o (.val (.ref x))) (hn : nm ∉ fs.map (·.1)) (hm : nm ∈ mNames) (hlen : fs.length < 1000)
    (k : ∀ s', St g B c m ((x, O.obj (instObj γ.C dx)) :: (dx, dO (fs ++ [(nm, v)])) :: H) s' → wpAny (model prog w) A (execs rest c.env) Q E s')
    (hs : swapsWith e (some (.Attribute o nm p')) p.line c.env = pure false := by rfl) :
    wpAny (model prog w) A (execs (.Assign [.Attribute o nm p'] e p :: rest) c.env) Q E s :=
  wpAny_execs_cons (plainObj_wpAny_Assign_Attribute (px_v G S P fun val s1 hv S1 => px_u G S1 P1 fun s2 S2 => st_attr M G S2 hn hm hlen hv k) hs)
end
end

section
open PySem PySem.Calls PySem.W
theorem under_type (A : Around) (a : Addr) (l : List Value) : (A.under (.builtin "type.__call__" ⟨.ref a :: l, []⟩)).handled = A.handled ∧ (A.under (.builtin "type.__call__" ⟨.ref a :: l, []⟩)).depth = A.depth + 1 ∧ (A.under (.builtin "type.__call__" ⟨.ref a :: l, []⟩)).units = A.units + 1 := ⟨rfl, rfl, rfl⟩

/-- the method __init__ of Montgomery -/
noncomputable def dI : DefRec := match PySem.Challenge.pw_sj0085_01.main.body[24]? with
  | some (Stmt.ClassDef _ _ _ (Stmt.FunctionDef name a b _ _ _ sc _ _ pos :: _) _ _ _ _ _ _ _) => ⟨name, a, b, sc, pos⟩
  | _ => ⟨Str.empty, ⟨[], [], none, [], [], none, []⟩, [], { kind := .function, names := [], isGenerator := false, isCoroutine := false }, default⟩

/-- the class as a thing to call -/
structure MI (γ : Gl) : Prop extends MC γ where
  kp : keepIn γ.K (.ref γ.C) = true
  fnI : ∃ oc od osl doc pm an cdv ct, γ.K.lookup γ.fI = some ⟨oc, od, .func (fnOf dI.name "Montgomery.__init__" dI.params dI.body dI.scope .none .none doc pm an cdv ct), osl⟩ ∧ codeIn γ.K cdv "Montgomery.__init__" = true

section
variable {prog : Program} {w : World} {g s : Shared} {B : Heap} {c : Cx} {m : Loc} {H : Led} {A : Around} {E : Value → Shared → Prop} {γ : Gl}

/-- the frame rule's two halves -/
theorem St.lift (S : St g B c m H s) : ∃ B', (∀ b o, B.get? b = some o → B'.get? b = some o) ∧ LS g B' H s ∧ ∀ H' s', LS g B' H' s' → St g B c m H' s' := by
  obtain ⟨mm, F, hm⟩ := S.fr
  obtain ⟨oL, es, ep, hL, hLd, hLk, hLf⟩ := id F.ns
  have nB : ∀ b o, B.get? b = some o → b ∉ H.map (·.1) := fun b o e q => by
    obtain ⟨p, hp, rfl⟩ := List.mem_map.mp q
    have := (S.led p hp).2.2
    rw [this] at e; cases e
  have nL : c.L ∉ H.map (·.1) := fun q => by
    obtain ⟨p, hp, e⟩ := List.mem_map.mp q
    exact (S.led p hp).2.1 e
  have up : ∀ b o, B.get? b = some o → (PySem.W.hideAll s.heap (H.map (·.1))).get? b = some o := fun b o e => PySem.W.hideAll_get _ (F.keep b o e) (nB b o e)
  have hL' := PySem.W.hideAll_get (H.map (·.1)) hL nL
  refine ⟨PySem.W.hideAll s.heap (H.map (·.1)), up, ⟨S.same, fun b o e => PySem.W.of_hideAll _ e,
    fun p hp => ⟨(S.led p hp).1, PySem.W.hideAll_none _ (List.mem_map_of_mem hp)⟩, S.nd, Nat.le_of_eq (PySem.W.hideAll_size _ _)⟩, fun H' s' S' => ?_⟩
  refine ⟨S'.same, ⟨mm, ⟨⟨oL, es, ep, S'.base _ _ hL', hLd, hLk, hLf⟩, fun b o e => S'.base b o (up b o e), F.above⟩, hm⟩, fun p hp => ⟨(S'.led p hp).1, fun q => ?_, ?_⟩, S'.nd, S.kx⟩
  · have := (S'.led p hp).2; rw [q, hL'] at this; cases this
  · cases q : B.get? p.1 with
    | none => rfl
    | some o => have := (S'.led p hp).2; rw [up _ _ q] at this; cases this

theorem init_walk (M : MC γ) (G : GW γ B) {x dx : Addr} {w1 w3 w4 : Value} {i2 : Int} {st : Stmt} {sts : List Stmt} (hb : dI.body = st :: sts) {Q : Flow → Shared → Prop}
    (S : St g B c [((Str.ofString "self"), .val (.ref x)), ((Str.ofString "modulus"), .val w1), ((Str.ofString "minus"), .int i2), ((Str.ofString "one"), .val w3), ((Str.ofString "square"), .val w4)] ((x, O.obj (instObj γ.C dx)) :: (dx, dO []) :: H) s)
    (k : ∀ s', St g B c [((Str.ofString "self"), .val (.ref x)), ((Str.ofString "modulus"), .val w1), ((Str.ofString "minus"), .int i2), ((Str.ofString "one"), .val w3), ((Str.ofString "square"), .val w4)] ((x, O.obj (instObj γ.C dx)) :: (dx, dO [((Str.ofString "modulus"), .val w1), ((Str.ofString "minus"), .int i2), ((Str.ofString "one"), .val w3), ((Str.ofString "square"), .val w4)]) :: H) s' → Q .next s') :
    wpAny (model prog w) A (execs dI.body c.env) Q E s := by
  rw [hb]
  cases hb
  refine x_attr M G S (by walk_at "px") (by walk_at "px") (by decide) (by decide) (by decide) fun s2 S2 => ?_
  refine x_attr M G S2 (by walk_at "px") (by walk_at "px") (by show _ ∉ [(Str.ofString "modulus")]; decide) (by decide) (by show 1 < 1000; decide) fun s3 S3 => ?_
  refine x_attr M G S3 (by walk_at "px") (by walk_at "px") (by show _ ∉ [(Str.ofString "modulus"), (Str.ofString "minus")]; decide) (by decide) (by show 2 < 1000; decide) fun s4 S4 => ?_
  refine x_attr M G S4 (by walk_at "px") (by walk_at "px") (by show _ ∉ [(Str.ofString "modulus"), (Str.ofString "minus"), (Str.ofString "one")]; decide) (by decide) (by show 3 < 1000; decide) fun s5 S5 => ?_
  exact x_nil (k s5 S5)

/-- Montgomery(..): the object stands with its four attributes -/
theorem call_make (M : MI γ) (G : GW γ B) (hA : AOk A 2) (S : St g B c m H s) {w1 w3 w4 : Value} {i2 : Int} {vals : List Value} {Q : Value → Shared → Prop} (ha : AllIs [.val w1, .int i2, .val w3, .val w4] vals)
    (k : ∀ x dx s', St g B c m ((x, O.obj (instObj γ.C dx)) :: (dx, dO [((Str.ofString "modulus"), .val w1), ((Str.ofString "minus"), .int i2), ((Str.ofString "one"), .val w3), ((Str.ofString "square"), .val w4)]) :: H) s' → Q (.ref x) s') :
    wpAny (model prog w) A (call (.ref γ.C) vals) Q E s := by
  obtain ⟨mm, F, hM⟩ := id S.fr
  obtain ⟨objs, N, hobj, hmap⟩ := S.news2
  refine call_cls F G.X N M.made M.ini M.isf fun x dx h' F' N' hlo hlt => ?_
  have hfr : ∀ p ∈ H, p.1 < dx := fun p hp => by
    have : p.1 ∈ objs.map (·.1) := by rw [hmap]; exact List.mem_map_of_mem hp
    obtain ⟨q, hq, e⟩ := List.mem_map.mp this
    rw [← e]; exact hlo q hq
  have S1 : St g B c m ((x, O.obj (instObj γ.C dx)) :: (dx, dO []) :: H) { s with heap := h' } := by
    refine ⟨S.same, ⟨mm, F', hM⟩, fun p hp => ?_, ?_, S.kx⟩
    · rcases List.mem_cons.mp hp with rfl | hp
      · have := N' (x, instObj γ.C dx) (.head _)
        exact ⟨⟨_, this.1, rfl⟩, this.2⟩
      rcases List.mem_cons.mp hp with rfl | hp
      · have := N' _ (.tail _ (.head _))
        exact ⟨⟨_, this.1, [], 0, rfl, .nil, by decide⟩, this.2⟩
      · obtain ⟨ob, c1, c2⟩ := hobj p hp
        have := N' _ (.tail _ (.tail _ c1))
        exact ⟨⟨ob, this.1, c2⟩, this.2⟩
    · rw [List.map_cons, List.map_cons, List.nodup_cons, List.nodup_cons]
      refine ⟨fun q => ?_, fun q => ?_, S.nd⟩
      · rcases List.mem_cons.mp q with q | q
        · exact absurd hlt (by rw [show x = dx from q]; exact Nat.lt_irrefl _)
        · obtain ⟨p, hp, e⟩ := List.mem_map.mp q
          have := hfr p hp
          rw [e] at this; exact absurd hlt (Nat.not_lt.mpr (Nat.le_of_lt this))
      · obtain ⟨p, hp, e⟩ := List.mem_map.mp q
        have := hfr p hp
        rw [e] at this; exact Nat.lt_irrefl _ this
  obtain ⟨B', hB', L1, back⟩ := S1.lift
  have G' := G.keeps hB'
  obtain ⟨oc, od, osl, doc, pm, an, cdv, ct, hf1, hf2⟩ := M.fnI
  obtain ⟨a1, a2, a3, a4, rfl, hv1, hv2, hv3, hv4⟩ := ha.l4
  obtain ⟨u1, u2, u3⟩ := under_type A γ.C [a1, a2, a3, a4]
  have hcell : ∀ y ∈ dI.scope.names, y.2 ≠ .cell := by decide +kernel
  have hloc : ∀ y ∈ [(Str.ofString "self"), (Str.ofString "modulus"), (Str.ofString "minus"), (Str.ofString "one"), (Str.ofString "square")], dI.scope.names.lookup y = some .local ∧ (y == ("__debug__" : Str)) = false := by decide +kernel
  have hbody : dI.body = dI.body := rfl
  refine codeAny_call_plain (fd := fnOf dI.name "Montgomery.__init__" dI.params dI.body dI.scope .none .none doc pm an cdv ct) (body := dI.body) (binds := [((Str.ofString "self"), .ref x), ((Str.ofString "modulus"), a1), ((Str.ofString "minus"), a2), ((Str.ofString "one"), a3), ((Str.ofString "square"), a4)]) (by have := hA.dp; rw [u2]; show A.depth + 1 < 1000; omega)
    (L1.base _ _ (G'.X _ _ hf1)) rfl (G'.nolimit.keeps L1.base) ((codeRec_of G'.X hf2).keeps L1.base) rfl rfl hcell (fun y hy => (hloc y.1 (by
      rcases List.mem_cons.mp hy with rfl | hy
      · exact .head _
      rcases List.mem_cons.mp hy with rfl | hy
      · exact .tail _ (.head _)
      rcases List.mem_cons.mp hy with rfl | hy
      · exact .tail _ (.tail _ (.head _))
      rcases List.mem_cons.mp hy with rfl | hy
      · exact .tail _ (.tail _ (.tail _ (.head _)))
      rcases List.mem_cons.mp hy with rfl | hy
      · exact .tail _ (.tail _ (.tail _ (.tail _ (.head _))))
      · cases hy)).1) (fun h₀ hns hk₀ => ?_) rfl rfl rfl
  have S2 : St g B' ⟨callEnv (fnOf dI.name "Montgomery.__init__" dI.params dI.body dI.scope .none .none doc pm an cdv ct) h'.objs.size γ.fI, [], []⟩ [((Str.ofString "self"), .val (.ref x)), ((Str.ofString "modulus"), .val w1), ((Str.ofString "minus"), .int i2), ((Str.ofString "one"), .val w3), ((Str.ofString "square"), .val w4)] ((x, O.obj (instObj γ.C dx)) :: (dx, dO []) :: H) { s with heap := h₀, toks := s.toks + 5 } := by
    refine ⟨S.same, ⟨_, ⟨hns, fun b o e => hk₀ _ _ (L1.base b o e), L1.size⟩, by show [(Str.ofString "self"), (Str.ofString "modulus"), (Str.ofString "minus"), (Str.ofString "one"), (Str.ofString "square")].Nodup; decide, fun p hp => ?_⟩, fun p hp => ?_, L1.nd, ⟨rfl, rfl, rfl, (fun y hy => nomatch hy), (fun y hy => hloc y hy), (fun p hp => nomatch hp)⟩⟩
    · exact zip_is (vs := [.val (.ref x), .val w1, .int i2, .val w3, .val w4]) (vals := [.ref x, a1, a2, a3, a4]) (ps := [(Str.ofString "self"), (Str.ofString "modulus"), (Str.ofString "minus"), (Str.ofString "one"), (Str.ofString "square")]) ⟨rfl, hv1, hv2, hv3, hv4, trivial⟩ (by decide) p hp
    · obtain ⟨⟨ob, c1, c2⟩, c3⟩ := L1.led p hp
      exact ⟨⟨ob, hk₀ _ _ c1, c2⟩, Nat.ne_of_lt (Heap.lt_size c1), c3⟩
  refine init_walk M.toMC G' (c := ⟨callEnv (fnOf dI.name "Montgomery.__init__" dI.params dI.body dI.scope .none .none doc pm an cdv ct) h'.objs.size γ.fI, [], []⟩) rfl S2 fun s' S' => ?_
  exact ⟨rfl, k x dx s' (back _ _ S'.ls)⟩
end
end

section

theorem odd_dvd {x y : Int} (hx : x % 2 = 1) (h : x ∣ 2 * y) : x ∣ y := by
  obtain ⟨q, hq⟩ := h
  have : q % 2 = 0 := by
    rcases Int.emod_two_eq q with h | h
    · exact h
    · exfalso
      have e1 : x = 2 * (x / 2) + 1 := by omega
      have e2 : q = 2 * (q / 2) + 1 := by omega
      rw [e1, e2] at hq
      have : (2 * (x / 2) + 1) * (2 * (q / 2) + 1) = 2 * (2 * (x / 2) * (q / 2) + x / 2 + q / 2) + 1 := by grind
      omega
  refine ⟨q / 2, ?_⟩
  have e : q = 2 * (q / 2) := by omega
  rw [e, Int.mul_left_comm] at hq
  omega
theorem odd_dvd_pow {x y : Int} (hx : x % 2 = 1) : ∀ j : Nat, x ∣ 2 ^ j * y → x ∣ y
  | 0, h => by simpa using h
  | j + 1, h => by
    rw [Int.pow_succ, Int.mul_comm (2 ^ j), Int.mul_assoc] at h
    exact odd_dvd_pow hx j (odd_dvd hx h)
theorem mod_cancel {x j r n : Nat} (hx : x % 2 = 1) (h : r * 2 ^ j % x = n * 2 ^ j % x) : r % x = n % x := by
  have h1 : ((x : Nat) : Int) ∣ 2 ^ j * ((r : Int) - n) := by
    have e : ((r * 2 ^ j : Nat) : Int) % x = ((n * 2 ^ j : Nat) : Int) % x := by
      rw [← Int.natCast_emod, ← Int.natCast_emod, h]
    have := Int.dvd_of_emod_eq_zero (Int.emod_eq_emod_iff_emod_sub_eq_zero.mp e)
    have e2 : ((r * 2 ^ j : Nat) : Int) - ((n * 2 ^ j : Nat) : Int) = 2 ^ j * ((r : Int) - n) := by
      rw [Int.natCast_mul, Int.natCast_mul, Int.natCast_pow, Int.mul_sub, Int.mul_comm (r : Int), Int.mul_comm (n : Int)]; rfl
    rwa [e2] at this
  have h2 := odd_dvd_pow (by omega) j h1
  have h3 := Int.emod_eq_emod_iff_emod_sub_eq_zero.mpr (Int.emod_eq_zero_of_dvd h2)
  rw [← Int.natCast_emod, ← Int.natCast_emod] at h3
  exact Int.ofNat_inj.mp h3
/-- one step of a reduction -/
theorem redc_dvd {b U f t mi x : Int} (hU : U = f + b * t) (hm : b ∣ mi * x + 1) : b ∣ U + (f * mi % b) * x := by
  have h1 := Int.emod_add_mul_ediv (f * mi) b
  obtain ⟨q, hq⟩ := hm
  refine ⟨t + f * q - f * mi / b * x, ?_⟩
  generalize f * mi % b = l at *
  generalize f * mi / b = d at *
  have e : l = f * mi - b * d := by omega
  subst hU e
  have : mi * x = b * q - 1 := by omega
  have e2 : f + b * t + (f * mi - b * d) * x = f + b * t + f * (mi * x) - b * d * x := by grind
  rw [e2, this]; grind
theorem low_zero {b low T : Int} (h : b ∣ low + b * T) (h0 : 0 ≤ low) (h1 : low < b) : low = 0 := by
  have h2 : b ∣ low := by
    have := Int.dvd_sub h (Int.dvd_mul_right b T)
    rwa [Int.add_sub_cancel] at this
  have := Int.emod_eq_zero_of_dvd h2
  rwa [Int.emod_eq_of_lt h0 h1] at this
end

section
open PySem PySem.Calls PySem.W
section
variable {prog : Program} {w : World} {g s : Shared} {B : Heap} {c : Cx} {m : Loc} {H : Led} {A : Around} {E : Value → Shared → Prop} {γ : Gl}

theorem x_expr {e : Expr} {p : Pos} {rest : List Stmt} {Q : Flow → Shared → Prop} (S : St g B c m H s)
    (h : wpAny (model prog w) A (eval e c.env) (fun v s₁ => v = .none ∧ wpAny (model prog w) A (execs rest c.env) Q E s₁) E s) (hs : swapsWith e none p.line c.env = pure false := by rfl) :
    wpAny (model prog w) A (execs (.Expr e p :: rest) c.env) Q E s :=
  wpAny_execs_cons (wpAny_Expr (wpAny_mono h (fun v s₁ hq => by obtain ⟨rfl, hq⟩ := hq; exact hq) fun _ _ e => e) (by unfold interactive; rw [S.kx.kind]; rfl) hs)

theorem St.drop2 {p q : Addr × O} (S : St g B c m (p :: q :: H) s) : St g B c m (p :: H) s := S.fit (by
  have : ∀ l : Loc, Weak l l := fun l => by induction l with | nil => exact .nil | cons _ _ ih => exact .same ih
  exact this m) (.cons₂ _ (.cons _ (List.Sublist.refl _)))

theorem ev_attrV {x nm : Str} {p p' : Pos} {o dx : Addr} {fs : List (Str × V)} {u : Value} {Q : Value → Shared → Prop} (M : MC γ) (G : GW γ B) (S : St g B c m H s) (P : PX c m H false (.Name x p) (.val (.ref o))) (h1 : (o, O.obj (instObj γ.C dx)) ∈ H) (h2 : (dx, dO fs) ∈ H)
    (hf : (nm, .val u) ∈ fs) (hnd : (fs.map (·.1)).Nodup) (hm : nm ∈ mNames) (hv : handedIn u = true) (k : ∀ s', St g B c m H s' → Q u s')
    (he : eval (.Attribute (.Name x p) nm p') c.env = (do
      let o ← eval (.Name x p) c.env
      standAt p'.atName
      let r ← holding [o] (getAttr o nm true)
      letTemporaryGo (.Name x p) o r
      pure r) := by with_unfolding_all rfl) :
    wpAny (model prog w) A (eval (.Attribute (.Name x p) nm p') c.env) Q E s :=
  ev_attr M G S P h1 h2 hf hnd hm (fun val h => by cases h; exact hv) (fun val s' h S' => by cases h; exact k s' S') he
theorem ev_attrI {x nm : Str} {p p' : Pos} {o dx : Addr} {fs : List (Str × V)} {i : Int} {Q : Value → Shared → Prop} (M : MC γ) (G : GW γ B) (S : St g B c m H s) (P : PX c m H false (.Name x p) (.val (.ref o))) (h1 : (o, O.obj (instObj γ.C dx)) ∈ H) (h2 : (dx, dO fs) ∈ H)
    (hf : (nm, .int i) ∈ fs) (hnd : (fs.map (·.1)).Nodup) (hm : nm ∈ mNames) (k : ∀ t s', St g B c m H s' → Q (.int i t) s')
    (he : eval (.Attribute (.Name x p) nm p') c.env = (do
      let o ← eval (.Name x p) c.env
      standAt p'.atName
      let r ← holding [o] (getAttr o nm true)
      letTemporaryGo (.Name x p) o r
      pure r) := by with_unfolding_all rfl) :
    wpAny (model prog w) A (eval (.Attribute (.Name x p) nm p') c.env) Q E s :=
  ev_attr M G S P h1 h2 hf hnd hm (fun val h => by obtain ⟨t, e⟩ := h; cases e; rfl) (fun val s' h S' => by obtain ⟨t, e⟩ := h; cases e; exact k t s' S') he
theorem mNd {a b c d : V} : (([((Str.ofString "modulus"), a), ((Str.ofString "minus"), b), ((Str.ofString "one"), c), ((Str.ofString "square"), d)] : List (Str × V)).map (·.1)).Nodup := by show [(Str.ofString "modulus"), (Str.ofString "minus"), (Str.ofString "one"), (Str.ofString "square")].Nodup; decide

/-- the Montgomery object of a modulus -/
noncomputable def TM (γ : Gl) (b x : Nat) (H : Led) (o mm : Addr) : Prop := ∃ dx mi one sq, (o, O.obj (instObj γ.C dx)) ∈ H ∧ (dx, dO [((Str.ofString "modulus"), .val (.ref mm)), ((Str.ofString "minus"), .int mi), ((Str.ofString "one"), .val (.ref one)), ((Str.ofString "square"), .val (.ref sq))]) ∈ H ∧
  (mm, il (lb b x)) ∈ H ∧ (sq, il (lb b (b ^ (lb b x).length * b ^ (lb b x).length % x))) ∈ H ∧ (b : Int) ∣ mi * x + 1 ∧ 0 ≤ mi ∧ mi < b
theorem TM.mono {b x : Nat} {H H' : Led} {o mm : Addr} (h : TM γ b x H o mm) (hs : ∀ p ∈ H, p ∈ H') : TM γ b x H' o mm := by
  obtain ⟨dx, mi, one, sq, h1, h2, h3, h4, h5⟩ := h
  exact ⟨dx, mi, one, sq, hs _ h1, hs _ h2, hs _ h3, hs _ h4, h5⟩

set_option maxHeartbeats 400000 in
theorem redc_spec (T : Top γ) (M : MC γ) {k b x y d : Nat} (hB : Bs k b) (hM : Md b x) {H : Led} {a o mm : Addr} (ha : (a, il (lb b y)) ∈ H) (hT : TM γ b x H o mm) (hy : y < x * b ^ (lb b x).length) (hd : y % x = d * b ^ (lb b x).length % x) (hodd : x % 2 = 1) :
    SpecV prog w g γ 4 29 [.val (.ref a), .val (.ref o), .int k] H (RetL (lb b (d % x)) H) := by
  refine def_spec T 29 3 [((Str.ofString "a"), .val (.ref a)), ((Str.ofString "told"), .val (.ref o)), ((Str.ofString "w"), .int k), ((Str.ofString "m"), V.any), ((Str.ofString "size"), V.any), ((Str.ofString "rest"), V.any), ((Str.ofString "mask"), V.any), ((Str.ofString "at"), V.any)] 3 [(Str.ofString "a"), (Str.ofString "told"), (Str.ofString "w"), (Str.ofString "m"), (Str.ofString "size"), (Str.ofString "rest"), (Str.ofString "mask"), (Str.ofString "at")] [(Str.ofString "len"), (Str.ofString "compare"), (Str.ofString "lifted"), (Str.ofString "OutOfRange"), (Str.ofString "add_row"), (Str.ofString "taken_once"), (Str.ofString "normal"), (Str.ofString "range")] rfl (fun cx A B s1 hA G hgs S1 => ?_) (by decide +kernel) (by exact rfl) (by exact rfl) (by exact rfl) (by exact Nat.le_of_ble_eq_true rfl) (by walk_at "bnd")
  have hg0 : (Str.ofString "len") ∈ cx.gs := by rw [hgs]; walk_at "mem"
  have hg1 : (Str.ofString "compare") ∈ cx.gs := by rw [hgs]; walk_at "mem"
  have hg2 : (Str.ofString "lifted") ∈ cx.gs := by rw [hgs]; walk_at "mem"
  have hg3 : (Str.ofString "OutOfRange") ∈ cx.gs := by rw [hgs]; walk_at "mem"
  have hg4 : (Str.ofString "add_row") ∈ cx.gs := by rw [hgs]; walk_at "mem"
  have hg5 : (Str.ofString "taken_once") ∈ cx.gs := by rw [hgs]; walk_at "mem"
  have hg6 : (Str.ofString "normal") ∈ cx.gs := by rw [hgs]; walk_at "mem"
  have hg7 : (Str.ofString "range") ∈ cx.gs := by rw [hgs]; walk_at "mem"
  clear hgs
  have hb2 := hB.two
  have hbhi := hB.hi
  have hbp : (0 : Int) < b := by omega
  obtain ⟨hl1, hl2⟩ := hM.len hB
  have hpos := hM.pos
  have hhi := hM.hi
  have hxR : x < b ^ (lb b x).length := lb_lt hb2 x
  obtain ⟨dx, mi, one, sq, t1, t2, t3, t4, t5, t6, t7⟩ := hT
  refine x_asgG (ev_attrV M G S1 (by walk_at "px") t1 t2 (.head _) mNd (by decide) rfl fun s2 S2 => st_loc S2 (v := .val (.ref mm)) (by walk_at "put") rfl fun s3 S3 => ?_)
  refine x_asg G S3 (by walk_at "px") (by walk_at "put") fun s4 S4 => ?_
  have hRbits : b ^ (lb b x).length ≤ 65536 := by
    have h1 : b ^ (lb b x).length ≤ b ^ 2 := Nat.pow_le_pow_right (by omega) hl2
    have h2 := pow_le_256 (n := 2) hB
    omega
  have hxx : x * b ^ (lb b x).length ≤ 256 * 65536 := Nat.mul_le_mul (by omega) hRbits
  have hlen2 : (lb b y).length ≤ 2 * (lb b x).length := by
    refine lb_len_le hb2 ?_
    rw [Nat.two_mul, Nat.pow_add]
    exact Nat.lt_of_lt_of_le hy (Nat.mul_le_mul_right _ (Nat.le_of_lt hxR))
  have hxl := lb_vl hb2 x
  have hxlim := lb_lim hb2 x
  generalize hsz : (lb b x).length = sz at *
  refine x_ifG (wpAny_isTrue_Compare1 (ev_callG T 7 G S4 (by walk_at "mem") fun s5 S5 => sp_cons (px_u G S5 (by walk_at "px") fun s6 S6 => sp_cons (ev_callS T 10 1 3 G hA S6 (by walk_at "mem") (by walk_at "pxs") (lifted_spec T hB (n := sz) t3 (by omega) (by omega)) fun v s7 H2 S7 hp => ?_))) rfl)
  obtain ⟨lf, rfl, hp1, hp2⟩ := hp
  refine sp_nil _ ⟨⟨_, _, _, S7⟩, ?_⟩
  refine ((compare_spec T hB (hp2 _ ha) hp1 (by omega) (by omega)) [.ref a, .ref lf] ⟨rfl, rfl, trivial⟩).use G hA (by omega) S7 fun v s8 H3 S8 hp => ?_
  obtain ⟨⟨tk, rfl⟩, rfl⟩ := hp
  refine px_i G S8 .int fun u s9 S9 => cmp_int (.ge _ _) (wpAny_truthy_bool ?_)
  rw [if_pos hy]
  rw [if_neg (by decide)]
  refine x_nil ?_
  have base3 := hp2
  have ha3 := base3 _ ha
  have t1' := base3 _ t1
  have t2' := base3 _ t2
  have t3' := base3 _ t3
  refine x_swapL2 (o := il (lb b y ++ List.replicate (2 * sz + 1 - (lb b y).length) 0)) G hA.hd S9 (fun E Q kk => wpAny_BinOp (px_u G S9 (by walk_at "px") fun s10 S10 => ev_rep (n := 2 * sz + 1 - (lb b y).length) G S10 .int (by
      rw [show ((2 * sz + 1 - (lb b y).length : Nat) : Int) = 2 * (sz : Int) + 1 - (lb b y).length by omega]; walk_at "px") (by unfold bigN; omega) (fun _ => rfl) fun z s11 S11 => bo_concatI S11 (.tail _ ha3) (.head _) (by rw [List.length_replicate]; unfold bigN; omega) fun r s12 S12 => kk r s12 S12.drop2))
    (by walk_at "px") (by walk_at "put") (fun r => by walk_at "put") (fun r s13 S13 => ?_) rfl rfl rfl rfl rfl (fun _ => rfl) (fun _ => rfl)
  generalize hrs : lb b y ++ List.replicate (2 * sz + 1 - (lb b y).length) 0 = rs0 at S13
  have hrl : rs0.length = 2 * sz + 1 := by rw [← hrs, List.length_append, List.length_replicate]; omega
  have hrv : vl b rs0 = y := by rw [← hrs, vl_append, vl_zeros, lb_vl hb2]; simp
  have hrlim : Lim b rs0 := by rw [← hrs]; exact (lb_lim hb2 _).append (.zeros hbp _)
  refine x_forN (σ := List Int × Nat) (fun σ v => [((Str.ofString "a"), .val (.ref a)), ((Str.ofString "told"), .val (.ref o)), ((Str.ofString "w"), .int k), ((Str.ofString "m"), .val (.ref mm)), ((Str.ofString "size"), .int sz), ((Str.ofString "rest"), .val (.ref r)), ((Str.ofString "mask"), .int (b - 1)), ((Str.ofString "at"), v)]) (fun σ => (r, il σ.1) :: H3)
    (fun i σ => σ.1.length = 2 * sz + 1 ∧ Lim b σ.1 ∧ vl b σ.1 = ((y + σ.2 * x : Nat) : Int) ∧ σ.2 < b ^ i ∧ (b : Int) ^ i ∣ vl b σ.1) sz (σ₀ := (rs0, 0)) G hA.hd (by walk_at "mem") S13
    ⟨hrl, hrlim, by rw [hrv]; simp, by simp, by simp⟩ (by walk_at "pxs") (by omega) (by omega) (fun _ v => by walk_at "put") (fun i σ s14 I it hi hP S14 => ?_) (fun σ s14 hP S14 => ?_)
  · obtain ⟨rs, kk⟩ := σ
    obtain ⟨h1, h2, h3, h4, h5⟩ := hP
    dsimp only at h1 h2 h3 h4 h5 S14
    have hsp := vl_split (b := b) rs i
    have hlow := vl_nonneg hbp (h2.take i)
    have hlow2 := vl_lt hbp (h2.take i)
    rw [List.length_take, Nat.min_eq_left (by omega)] at hlow2
    have hl0 : vl b (rs.take i) = 0 := low_zero (hsp ▸ h5) hlow hlow2
    rw [hl0, Int.zero_add] at hsp
    have hU := vl_drop_succ (b := b) (x := rs) (i := i)
    have lf := h2.get hbp i
    have hdv := redc_dvd hU t5
    have hlm := emod_lim (c := rs.getD i 0 * mi) hbp
    generalize hf : rs.getD i 0 = f at *
    generalize hU0 : vl b (rs.drop i) = U at *
    generalize hl' : f * mi % b = l at *
    obtain ⟨ln, rfl⟩ := Int.eq_ofNat_of_zero_le hlm.1
    have hk1 : kk + ln * b ^ i < b ^ (i + 1) := by
      have e1 : ln + 1 ≤ b := by omega
      have e2 := Nat.mul_le_mul_right (b ^ i) e1
      rw [Nat.add_mul, Nat.one_mul] at e2
      rw [Nat.pow_succ, Nat.mul_comm (b ^ i)]
      omega
    have hk2 : b ^ (i + 1) ≤ b ^ sz := Nat.pow_le_pow_right (by omega) (by omega)
    have hv' : vl b rs + b ^ i * (ln * x) = ((y + (kk + ln * b ^ i) * x : Nat) : Int) := by
      rw [h3, ← natpow, ← Int.natCast_mul, ← Int.natCast_mul, ← Int.natCast_add]
      congr 1
      grind
    have hlt : vl b rs + b ^ i * (ln * vl b (lb b x)) < b ^ rs.length := by
      rw [hxl, hv', h1, ← natpow]
      have e1 : (kk + ln * b ^ i) * x ≤ b ^ sz * x := Nat.mul_le_mul_right _ (by omega)
      have e2 : x * b ^ sz ≤ b ^ sz * b ^ sz := Nat.mul_le_mul_right _ (Nat.le_of_lt hxR)
      have e3 : b ^ (2 * sz + 1) = b ^ sz * b ^ sz * b := by rw [Nat.pow_succ, Nat.two_mul, Nat.pow_add]
      have e4 : b ^ sz * b ^ sz * 2 ≤ b ^ sz * b ^ sz * b := Nat.mul_le_mul_left _ hb2
      have e5 : b ^ sz * x = x * b ^ sz := Nat.mul_comm _ _
      omega
    have ti : ((i : Int)).toNat = i := rfl
    refine x_expr S14 (ev_callG T 27 G S14 (by walk_at "mem") fun s15 S15 => sp_cons (px_u G S15 (by walk_at "px") fun s16 S16 => sp_cons (px_u G S16 (by walk_at "px") fun s17 S17 => sp_cons (wpAny_BinOp (wpAny_BinOp (px_i G S17 (by walk_at "px") fun u1 s18 S18 =>
      ev_attrI M G S18 (by walk_at "px") (.tail _ (.tail _ t1')) (.tail _ (.tail _ t2')) (.tail _ (.head _)) mNd (by decide) fun u2 s19 S19 => ?_))))))
    rw [ti, hf]
    refine binop_int (.mul (by omega)) fun u3 tk1 => px_i G (S19.toks tk1) (by walk_at "px") fun u4 s20 S20 => binop_int (.maskB hB) fun u5 tk2 => ?_
    rw [hl']
    refine pxs G (vs := [.int i, .int k]) (by walk_at "pxs") (S20.toks tk2) fun xs s21 hxs S21 => ⟨⟨_, _, _, S21⟩, ?_⟩
    refine ((add_row_spec T hB (n := i) (l := ln) (H := (I, it) :: H3) (rs := rs) (.tail _ t3') h2 hxlim (by omega) (by rw [hsz]; omega) (by omega) hlm.2 hlt) (.ref r :: .ref mm :: .int ln u5 :: xs) ⟨rfl, rfl, ⟨u5, rfl⟩, hxs⟩).use G hA (by omega) (S21.perm pm1) fun v s22 H4 S22 hp => ?_
    obtain ⟨rfl, rs', rfl, g1, g2, g3⟩ := hp
    rw [hxl, hv'] at g3
    refine ⟨rfl, x_nil ⟨(rs', kk + ln * b ^ i), (S22.perm pm1).fit (by walk_at "weak") (List.Sublist.refl _), by rw [← h1]; exact g1, g2, g3, hk1, ?_⟩⟩
    show (b : Int) ^ (i + 1) ∣ vl b rs'
    rw [g3, ← hv', hsp, ← Int.mul_add, Int.pow_succ]
    exact Int.mul_dvd_mul_left _ hdv
  · obtain ⟨rs, kk⟩ := σ
    obtain ⟨h1, h2, h3, h4, h5⟩ := hP
    dsimp only at h1 h2 h3 h4 h5 S14
    have hsp := vl_split (b := b) rs sz
    have hlow := vl_nonneg hbp (h2.take sz)
    have hlow2 := vl_lt hbp (h2.take sz)
    rw [List.length_take, Nat.min_eq_left (by omega)] at hlow2
    have hl0 : vl b (rs.take sz) = 0 := low_zero (hsp ▸ h5) hlow hlow2
    rw [hl0, Int.zero_add] at hsp
    obtain ⟨u, hu⟩ := Int.eq_ofNat_of_zero_le (vl_nonneg hbp (h2.drop sz))
    have huR : b ^ sz * u = y + kk * x := by
      rw [hsp, hu, ← natpow, ← Int.natCast_mul] at h3
      exact Int.ofNat_inj.mp h3
    have hu2 : u < 2 * x := by
      have e1 : kk * x < b ^ sz * x := Nat.mul_lt_mul_of_pos_right h4 hpos
      have e2 : b ^ sz * u < b ^ sz * (2 * x) := by
        rw [huR, Nat.mul_left_comm, Nat.mul_comm x] at *
        omega
      exact Nat.lt_of_mul_lt_mul_left e2
    have hum : u % x = d % x := by
      refine mod_cancel (j := k * sz) hodd ?_
      have e : (2 : Nat) ^ (k * sz) = b ^ sz := by rw [Nat.pow_mul, ← hB.e]
      rw [e, Nat.mul_comm u, huR, Nat.add_mul_mod_self_right, hd]
    refine x_retL (ev_callG T 28 G S14 (by walk_at "mem") fun s15 S15 => sp_cons (ev_callG T 5 G S15 (by walk_at "mem") fun s16 S16 => sp_cons (ev_sliceI (l := some (sz : Int)) (u := none) G S16 (by walk_at "px") (.head _) (by walk_at "pe") .none (fun i h => by cases h; omega) (fun i h => by cases h) fun r2 s17 S17 => sp_nil _ ⟨⟨_, _, _, S17⟩, ?_⟩)))
    have ecut : cutL rs (some (sz : Int)) none = rs.drop sz := rfl
    rw [ecut] at S17
    refine ((normal_lb T hB (n := u) (H := (r2, il (rs.drop sz)) :: (r, il rs) :: H3) (.head _) (by rw [List.length_drop]; omega) (h2.drop sz) hu) [.ref r2] ⟨rfl, trivial⟩).use G hA (by omega) S17 fun v s18 H4 S18 hp => ?_
    obtain ⟨r3, rfl, q1, q2⟩ := hp
    refine pxs G (vs := [.val (.ref mm), .int k]) (by walk_at "pxs") S18 fun xs s19 hxs S19 => ⟨⟨_, _, _, S19⟩, ?_⟩
    refine ((taken_once_spec T hB hM q1 (q2 _ (.tail _ (.tail _ t3'))) hu2) (.ref r3 :: xs) ⟨rfl, hxs⟩).use G hA (by omega) S19 fun v s20 H5 S20 hp => ?_
    obtain ⟨r4, rfl, q3, q4⟩ := hp
    rw [hum] at q3
    exact ⟨r4, _, _, rfl, S20, q3, fun p hp => q4 _ (q2 _ (.tail _ (.tail _ (base3 p hp))))⟩
end
end

section
open PySem PySem.Calls PySem.W
/-- the ledger without one address -/
noncomputable def del (I : Addr) (H : Led) : Led := H.filter (fun p => decide (p.1 ≠ I))
theorem mem_del {I : Addr} {H : Led} {p : Addr × O} (h : p ∈ H) (hn : p.1 ≠ I) : p ∈ del I H := List.mem_filter.mpr ⟨h, decide_eq_true hn⟩

section
variable {prog : Program} {w : World} {g s : Shared} {B : Heap} {c : Cx} {m : Loc} {H : Led} {A : Around} {E : Value → Shared → Prop} {γ : Gl}

theorem St.del {I : Addr} {it : O} (S : St g B c m H s) (h : (I, it) ∈ H) : St g B c m ((I, it) :: del I H) s := by
  refine S.mono (fun p hp => ?_) ?_
  · rcases List.mem_cons.mp hp with rfl | hp
    · exact h
    · exact (List.mem_filter.mp hp).1
  · rw [List.map_cons, List.nodup_cons]
    refine ⟨fun q => ?_, (List.filter_sublist.map _).nodup S.nd⟩
    obtain ⟨p, hp, e⟩ := List.mem_map.mp q
    exact absurd e (of_decide_eq_true (List.mem_filter.mp hp).2)
theorem St.same_entry {r : Addr} {o o' : O} (S : St g B c m H s) (h1 : (r, o) ∈ H) (h2 : (r, o') ∈ H) : o = o' := by
  have nd := S.nd
  have key : ∀ {l : Led}, (l.map (·.1)).Nodup → (r, o) ∈ l → (r, o') ∈ l → o = o' := by
    intro l
    induction l with
    | nil => intro _ h; cases h
    | cons p l ih =>
      intro nd a b
      rw [List.map_cons, List.nodup_cons] at nd
      rcases List.mem_cons.mp a with a | a <;> rcases List.mem_cons.mp b with b | b
      · rw [← a] at b; cases b; rfl
      · exact absurd (List.mem_map_of_mem (f := (·.1)) b) (by rw [← a] at nd; exact nd.1)
      · exact absurd (List.mem_map_of_mem (f := (·.1)) a) (by rw [← b] at nd; exact nd.1)
      · exact ih nd.2 a b
  exact key nd h1 h2
theorem St.off {I : Addr} {it : O} (S : St g B c m ((I, it) :: H) s) {p : Addr × O} (hp : p ∈ H) : p.1 ≠ I := fun q => by
  have nd := S.nd
  rw [List.map_cons, List.nodup_cons] at nd
  exact nd.1 (q ▸ List.mem_map_of_mem (f := (·.1)) hp)

/-- for over range(n), the ledger told as a whole -/
theorem x_forNL {σ : Type} {x : Str} {px p p1 p2 : Pos} {e1 : Expr} {body rest : List Stmt} {Q : Flow → Shared → Prop} (M : σ → V → Loc) (Hf : σ → Led) (P : Nat → σ → Prop) {b : Int} (n : Nat) {σ₀ : σ} (G : GW γ B) (hA : A.handled = none)
    (hr : Str.ofString "range" ∈ c.gs) (S : St g B c (M σ₀ .any) (Hf σ₀) s) (h0 : P 0 σ₀) (PP : PXs c (M σ₀ .any) (Hf σ₀) [e1] [.int b]) (hb : b.natAbs < 2 ^ 61) (hn : n = b.toNat)
    (hu : ∀ σ v, Put (M σ .any) x v (M σ v))
    (turn : ∀ (i : Nat) σ s (I : Addr) (it : O), i < n → P i σ → (∀ vs, it ≠ .list vs) → St g B c (M σ (.int i)) ((I, it) :: Hf σ) s → wpAny (model prog w) A (execs body c.env) (fun f s' => match f with
      | .next | .cont => ∃ σ' H', St g B c (M σ' .any) H' s' ∧ (I, it) ∈ H' ∧ Hf σ' = del I H' ∧ P (i + 1) σ'
      | .brk => wpAny (model prog w) A (execs rest c.env) Q NoE s'
      | .ret v => Q (.ret v) s') NoE s)
    (exit : ∀ σ s, P n σ → St g B c (M σ .any) (Hf σ) s → wpAny (model prog w) A (execs rest c.env) Q NoE s) :
    wpAny (model prog w) A (execs (.For (.Name x px) (.Call (.Name (Str.ofString "range") p1) [e1] [] p2) body [] p :: rest) c.env) Q NoE s := by
  refine x_for (ev_range1 G S hr PP hb fun I s1 S1 => ?_)
  rw [← hn] at S1
  refine for_core (itr_range hA I x px 0 1 n) (fun σ => M σ .any) (fun i σ => M σ (.int (0 + i * 1))) Hf P (fun _ _ _ => trivial) (fun i σ => hu σ _) (σ₀ := σ₀) (by simpa using S1) h0 (fun i σ s2 hi hP S2 => ?_) (fun σ s2 hP S2 => exit σ s2 hP S2)
  rw [Int.mul_one, Int.zero_add] at S2
  refine wpAny_mono (turn i σ s2 I _ hi hP (fun vs h => by cases h) S2) (fun f s' hf => ?_) fun _ _ e => e
  cases f with
  | next => obtain ⟨σ', H', S', h1, h2, h3⟩ := hf; exact ⟨σ', by rw [h2]; exact S'.del h1, h3⟩
  | cont => obtain ⟨σ', H', S', h1, h2, h3⟩ := hf; exact ⟨σ', by rw [h2]; exact S'.del h1, h3⟩
  | brk => exact hf
  | ret v => exact hf
end
end

section
open PySem PySem.Calls PySem.W
section
variable {prog : Program} {w : World} {g s : Shared} {B : Heap} {c : Cx} {m : Loc} {H : Led} {A : Around} {E : Value → Shared → Prop} {γ : Gl}

theorem Md.r16 {k b x : Nat} (hB : Bs k b) (hM : Md b x) : b ^ (lb b x).length ≤ 65536 := by
  obtain ⟨hl1, hl2⟩ := hM.len hB
  have hb2 := hB.two
  have h1 : b ^ (lb b x).length ≤ b ^ 2 := Nat.pow_le_pow_right (by omega) hl2
  have h2 := pow_le_256 (n := 2) hB
  omega

theorem from_mont_spec (T : Top γ) (M : MC γ) {k b x y d : Nat} (hB : Bs k b) (hM : Md b x) {H : Led} {a o mm : Addr} (ha : (a, il (lb b y)) ∈ H) (hT : TM γ b x H o mm) (hy : y < x) (hd : y = d * b ^ (lb b x).length % x) (hodd : x % 2 = 1) :
    SpecV prog w g γ 5 31 [.val (.ref a), .val (.ref o), .int k] H (RetL (lb b (d % x)) H) := by
  refine def_spec T 31 4 [((Str.ofString "a"), .val (.ref a)), ((Str.ofString "told"), .val (.ref o)), ((Str.ofString "w"), .int k)] 3 [(Str.ofString "a"), (Str.ofString "told"), (Str.ofString "w")] [(Str.ofString "redc")] rfl (fun cx A B s1 hA G hgs S1 => ?_) (by decide +kernel) (by exact rfl) (by exact rfl) (by exact rfl) (by exact Nat.le_of_ble_eq_true rfl) (by walk_at "bnd")
  have hg0 : (Str.ofString "redc") ∈ cx.gs := by rw [hgs]; walk_at "mem"
  clear hgs
  have hb2 := hB.two
  have hR : 0 < b ^ (lb b x).length := Nat.pow_pos (by omega)
  refine x_retL (ev_callS T 29 4 4 G hA S1 (by walk_at "mem") (by walk_at "pxs") (redc_spec T M hB hM (d := d) ha hT (Nat.lt_of_lt_of_le hy (Nat.le_mul_of_pos_right _ hR)) (by rw [hd, Nat.mod_mod]) hodd) fun v s2 H2 S2 hp => ?_)
  obtain ⟨r, rfl, h1, h2⟩ := hp
  exact ⟨r, _, _, rfl, S2, h1, h2⟩

theorem mont_mul_spec (T : Top γ) (M : MC γ) {k b x y z d e : Nat} (hB : Bs k b) (hM : Md b x) {H : Led} {a c o mm : Addr} (ha : (a, il (lb b y)) ∈ H) (hc : (c, il (lb b z)) ∈ H) (hT : TM γ b x H o mm) (hy : y < x) (hz : z < x) (hd : y = d * b ^ (lb b x).length % x) (he : z = e * b ^ (lb b x).length % x) (hodd : x % 2 = 1) :
    SpecV prog w g γ 5 32 [.val (.ref a), .val (.ref c), .val (.ref o), .int k, .val (.ref (γ.fa 34))] H (RetL (lb b (d * e * b ^ (lb b x).length % x)) H) := by
  refine def_spec T 32 4 [((Str.ofString "a"), .val (.ref a)), ((Str.ofString "b"), .val (.ref c)), ((Str.ofString "told"), .val (.ref o)), ((Str.ofString "w"), .int k), ((Str.ofString "mul"), .val (.ref (γ.fa 34)))] 5 [(Str.ofString "a"), (Str.ofString "b"), (Str.ofString "told"), (Str.ofString "w"), (Str.ofString "mul")] [(Str.ofString "redc")] rfl (fun cx A B s1 hA G hgs S1 => ?_) (by decide +kernel) (by exact rfl) (by exact rfl) (by exact rfl) (by exact Nat.le_of_ble_eq_true rfl) (by walk_at "bnd")
  have hg0 : (Str.ofString "redc") ∈ cx.gs := by rw [hgs]; walk_at "mem"
  clear hgs
  have hb2 := hB.two
  have hhi := hM.hi
  have hxR : x < b ^ (lb b x).length := lb_lt hb2 x
  have hyz : y * z < x * b ^ (lb b x).length := Nat.mul_lt_mul_of_lt_of_le hy (by omega) (by omega)
  refine x_retL (ev_callG T 29 G S1 (by walk_at "mem") fun s5 S5 => sp_cons (ev_callLS T 34 2 4 G hA S5 (by walk_at "px") (by walk_at "pxs") (mul_school_spec T hB ha hc (by omega) (by omega)) fun v s6 H2 S6 hp => ?_))
  obtain ⟨r, rfl, h1, h2⟩ := hp
  refine pxs G (vs := [.val (.ref o), .int k]) (by walk_at "pxs") S6 fun xs s7 hxs S7 => ⟨⟨_, _, _, S7⟩, ?_⟩
  refine ((redc_spec T M hB hM (d := d * e * b ^ (lb b x).length) h1 (hT.mono h2) hyz ?_ hodd) (.ref r :: xs) ⟨rfl, hxs⟩).use G hA (by omega) S7 fun v s8 H3 S8 hp => ?_
  · rw [hd, he, ← Nat.mul_mod]
    congr 1
    generalize b ^ (lb b x).length = R
    grind
  · obtain ⟨r2, rfl, h3, h4⟩ := hp
    exact ⟨r2, _, _, rfl, S8, h3, fun p hp => h4 _ (h2 _ hp)⟩

theorem to_mont_spec (T : Top γ) (M : MC γ) {k b x n : Nat} (hB : Bs k b) (hM : Md b x) {H : Led} {a o mm : Addr} (ha : (a, il (lb b n)) ∈ H) (hT : TM γ b x H o mm) (hn : n < x) (hodd : x % 2 = 1) :
    SpecV prog w g γ 5 30 [.val (.ref a), .val (.ref o), .int k, .val (.ref (γ.fa 34))] H (RetL (lb b (n * b ^ (lb b x).length % x)) H) := by
  refine def_spec T 30 4 [((Str.ofString "a"), .val (.ref a)), ((Str.ofString "told"), .val (.ref o)), ((Str.ofString "w"), .int k), ((Str.ofString "mul"), .val (.ref (γ.fa 34)))] 4 [(Str.ofString "a"), (Str.ofString "told"), (Str.ofString "w"), (Str.ofString "mul")] [(Str.ofString "compare"), (Str.ofString "OutOfRange"), (Str.ofString "redc")] rfl (fun cx A B s1 hA G hgs S1 => ?_) (by decide +kernel) (by exact rfl) (by exact rfl) (by exact rfl) (by exact Nat.le_of_ble_eq_true rfl) (by walk_at "bnd")
  have hg0 : (Str.ofString "compare") ∈ cx.gs := by rw [hgs]; walk_at "mem"
  have hg1 : (Str.ofString "OutOfRange") ∈ cx.gs := by rw [hgs]; walk_at "mem"
  have hg2 : (Str.ofString "redc") ∈ cx.gs := by rw [hgs]; walk_at "mem"
  clear hgs
  have hb2 := hB.two
  have hhi := hM.hi
  have hpos := hM.pos
  have hxR : x < b ^ (lb b x).length := lb_lt hb2 x
  have hT' := hT
  obtain ⟨dx, mi, one, sq, t1, t2, t3, t4, t5, t6, t7⟩ := hT
  refine x_ifG (wpAny_isTrue_Compare1 (ev_callG T 7 G S1 (by walk_at "mem") fun s5 S5 => sp_cons (px_u G S5 (by walk_at "px") fun s6 S6 => sp_cons (ev_attrV M G S6 (by walk_at "px") t1 t2 (.head _) mNd (by decide) rfl fun s7 S7 => sp_nil _ ⟨⟨_, _, _, S7⟩, ?_⟩))) rfl)
  refine ((compare_spec T hB ha t3 (by omega) (by omega)) [.ref a, .ref mm] ⟨rfl, rfl, trivial⟩).use G hA (by omega) S7 fun v s8 H3 S8 hp => ?_
  obtain ⟨⟨tk, rfl⟩, rfl⟩ := hp
  refine px_i G S8 .int fun u s9 S9 => cmp_int (.ge _ _) (wpAny_truthy_bool ?_)
  rw [if_pos hn]
  rw [if_neg (by decide)]
  refine x_nil ?_
  have hsq : b ^ (lb b x).length * b ^ (lb b x).length % x < x := Nat.mod_lt _ hpos
  have hyz : n * (b ^ (lb b x).length * b ^ (lb b x).length % x) < x * b ^ (lb b x).length := Nat.mul_lt_mul_of_lt_of_le hn (by omega) (by omega)
  refine x_retL (ev_callG T 29 G S9 (by walk_at "mem") fun s10 S10 => sp_cons (ev_callLG T 34 G S10 (by walk_at "px") fun s11 S11 => sp_cons (px_u G S11 (by walk_at "px") fun s12 S12 => sp_cons (ev_attrV M G S12 (by walk_at "px") t1 t2 (.tail _ (.tail _ (.tail _ (.head _)))) mNd (by decide) rfl fun s13 S13 => ?_))))
  refine pxs G (vs := [.int k]) (by walk_at "pxs") S13 fun xs s14 hxs S14 => ⟨⟨_, _, _, S14⟩, ?_⟩
  refine ((mul_school_spec T hB ha t4 (by omega) (by omega)) (.ref a :: .ref sq :: xs) ⟨rfl, rfl, hxs⟩).use G hA (by omega) S14 fun v s15 H4 S15 hp => ?_
  obtain ⟨r, rfl, h1, h2⟩ := hp
  refine pxs G (vs := [.val (.ref o), .int k]) (by walk_at "pxs") S15 fun xs s16 hxs S16 => ⟨⟨_, _, _, S16⟩, ?_⟩
  refine ((redc_spec T M hB hM (d := n * b ^ (lb b x).length) h1 (hT'.mono h2) hyz ?_ hodd) (.ref r :: xs) ⟨rfl, hxs⟩).use G hA (by omega) S16 fun v s17 H5 S17 hp => ?_
  · rw [Nat.mul_mod_mod, Nat.mul_assoc]
  · obtain ⟨r2, rfl, h3, h4⟩ := hp
    exact ⟨r2, _, _, rfl, S17, h3, fun p hp => h4 _ (h2 _ hp)⟩
end
end

section
open PySem PySem.Calls PySem.W
theorem dbl {x i : Nat} (hx : 0 < x) : (if x ≤ 2 * (2 ^ i % x) then 2 * (2 ^ i % x) - x else 2 * (2 ^ i % x)) = 2 ^ (i + 1) % x := by
  have h := Nat.mod_lt (2 ^ i) hx
  have e : 2 ^ (i + 1) % x = 2 * (2 ^ i % x) % x := by rw [Nat.pow_succ, Nat.mul_comm, Nat.mul_mod, Nat.mul_mod 2 (2 ^ i % x), Nat.mod_mod]
  rw [e]
  clear e
  generalize 2 ^ i % x = y at *
  split
  · rename_i h1; rw [Nat.mod_eq_sub_mod h1, Nat.mod_eq_of_lt (by omega)]
  · rename_i h1; rw [Nat.mod_eq_of_lt (by omega)]
theorem minus_ok {b x f : Int} {d : Int} (hd : ∃ q, x = d + b * q) (hf : b ∣ d * f - 1) : b ∣ (-f) % b * x + 1 := by
  obtain ⟨q, hq⟩ := hd
  obtain ⟨r, hr⟩ := hf
  have h1 := Int.emod_add_mul_ediv (-f) b
  generalize (-f) % b = mi at *
  generalize (-f) / b = t at *
  have e : mi = -f - b * t := by omega
  refine ⟨-(t * x) - r - f * q, ?_⟩
  subst e hq
  have : d * f = 1 + b * r := by omega
  have e2 : (-f - b * t) * (d + b * q) + 1 = 1 - d * f - b * (t * (d + b * q)) - b * (f * q) := by grind
  rw [e2, this]; grind

section
variable {prog : Program} {w : World} {g s : Shared} {B : Heap} {c : Cx} {m : Loc} {H : Led} {A : Around} {E : Value → Shared → Prop} {γ : Gl}

theorem ev_cls {x : Str} {p p' : Pos} (M : MI γ) {e : Expr} {es : List Expr} {Q : Value → Shared → Prop} (G : GW γ B) (hcl : γ.mg x = some (.ref γ.C)) (S : St g B c m H s) (hx : x ∈ c.gs)
    (h : wpAny (model prog w) A (spliced (backTo p' (starEach (e :: es) c.env))) (fun vs s₁ => (∃ c' m' H', St g B c' m' H' s₁) ∧ wpAny (model prog w) A (call (.ref γ.C) vs) Q E s₁) E s)
    (he : starEach (e :: es) c.env = (false, eval e c.env) :: starEach es c.env := by rfl) (hpl : ((backTo p' (starEach es c.env)).any fun x => x.1) = false := by rfl) :
    wpAny (model prog w) A (eval (.Call (.Name x p) (e :: es) [] p') c.env) Q E s := by
  refine wpAny_Call_Name_kw ?_
  have hk := S.base
  refine Name_function_global S.kx.kind (S.kx.gl x hx).1 ?_ (S.kx.gl x hx).2
  refine loadGlobal_global (mg := γ.mg) (by rw [S.kx.glo]; exact G.g.keeps hk) hcl ?_
  refine callWith_K G.X M.kp (wpAny_mono h (fun vs s₁ hq => ?_) fun _ _ e => e) he hpl
  obtain ⟨⟨c', m', H', S'⟩, hq⟩ := hq
  exact ⟨G.X.keeps S'.base, by simpa using hq⟩

theorem mont_make_spec (T : Top γ) (M : MI γ) (hcl : γ.mg (Str.ofString "Montgomery") = some (.ref γ.C)) {k b x : Nat} (hB : Bs k b) (hM : Md b x) (hodd : x % 2 = 1) (hx3 : 3 ≤ x) {H : Led} {mm : Addr} (hm : (mm, il (lb b x)) ∈ H) :
    SpecV prog w g γ 4 26 [.val (.ref mm), .int k] H (fun v H' => ∃ o, v = .ref o ∧ TM γ b x H' o mm ∧ ∀ p ∈ H, p ∈ H') := by
  refine def_spec T 26 3 [((Str.ofString "m"), .val (.ref mm)), ((Str.ofString "w"), .int k), ((Str.ofString "one"), V.any), ((Str.ofString "turn"), V.any), ((Str.ofString "square"), V.any)] 2 [(Str.ofString "m"), (Str.ofString "w"), (Str.ofString "one"), (Str.ofString "turn"), (Str.ofString "square")] [(Str.ofString "is_even"), (Str.ofString "OutOfRange"), (Str.ofString "range"), (Str.ofString "len"), (Str.ofString "doubled_rest"), (Str.ofString "Montgomery"), (Str.ofString "inverse_limb")] rfl (fun cx A B s1 hA G hgs S1 => ?_) (by decide +kernel) (by exact rfl) (by exact rfl) (by exact rfl) (by exact Nat.le_of_ble_eq_true rfl) (by walk_at "bnd")
  have hg0 : (Str.ofString "is_even") ∈ cx.gs := by rw [hgs]; walk_at "mem"
  have hg1 : (Str.ofString "OutOfRange") ∈ cx.gs := by rw [hgs]; walk_at "mem"
  have hg2 : (Str.ofString "range") ∈ cx.gs := by rw [hgs]; walk_at "mem"
  have hg3 : (Str.ofString "len") ∈ cx.gs := by rw [hgs]; walk_at "mem"
  have hg4 : (Str.ofString "doubled_rest") ∈ cx.gs := by rw [hgs]; walk_at "mem"
  have hg5 : (Str.ofString "Montgomery") ∈ cx.gs := by rw [hgs]; walk_at "mem"
  have hg6 : (Str.ofString "inverse_limb") ∈ cx.gs := by rw [hgs]; walk_at "mem"
  clear hgs
  have hb2 := hB.two
  have hbhi := hB.hi
  have hk1 := hB.k1
  have hk2 := hB.k2
  have hbp : (0 : Int) < b := by omega
  have hhi := hM.hi
  have hpos := hM.pos
  obtain ⟨hl1, hl2⟩ := hM.len hB
  refine x_ifG (wpAny_isTrue_value (ev_callS T 6 1 3 G hA S1 (by walk_at "mem") (by walk_at "pxs") (is_even_spec T hB hm (by omega)) fun v s2 H2 S2 hp => ?_))
  obtain ⟨rfl, rfl⟩ := hp
  refine wpAny_truthy_bool ?_
  rw [if_neg (by rw [decide_eq_true_eq]; omega)]
  refine x_nil ?_
  have hmk : k * (lb b x).length ≤ 16 := Nat.mul_le_mul hk2 hl2
  have eR : (2 : Nat) ^ ((lb b x).length * k) = b ^ (lb b x).length := by rw [Nat.mul_comm, Nat.pow_mul, ← hB.e]
  have hlk : (lb b x).length * k ≤ 16 := by rw [Nat.mul_comm]; exact hmk
  refine x_asgG (wpAny_IfExp (t_eqL (ms := [1]) G hA.u64 S2 (by walk_at "px") hm (.cons (by walk_at "px") .nil (fun _ => rfl)) (by simp [bigN]) (fun r s3 S3 => ite_b (fun hb => ?_) fun hb => ?_) rfl))
  · exfalso
    have h1 : lb b x = [1] := of_decide_eq_true hb
    rw [lb_1 hb2] at h1
    have := lb_inj hb2 h1
    omega
  refine ev_listI (ns := [1]) G S3 (.cons (by walk_at "px") .nil (fun _ => rfl)) (by simp [bigN]) fun r1 s4 S4 => st_loc S4 (v := .val (.ref r1)) (by walk_at "put") rfl fun s5 S5 => ?_
  rw [lb_1 hb2] at S5
  have h1x : (1 : Nat) = 2 ^ 0 % x := by rw [Nat.pow_zero, Nat.mod_eq_of_lt (by omega)]
  refine x_forNL (σ := Led × Addr) (fun σ v => [((Str.ofString "m"), .val (.ref mm)), ((Str.ofString "w"), .int k), ((Str.ofString "one"), .val (.ref σ.2)), ((Str.ofString "turn"), v), ((Str.ofString "square"), .any)]) (fun σ => σ.1) (fun i σ => (∀ p ∈ H2, p ∈ σ.1) ∧ (σ.2, il (lb b (2 ^ i % x))) ∈ σ.1) ((lb b x).length * k) (σ₀ := (_, r1)) G hA.hd (by walk_at "mem") S5
    ⟨fun p hp => .tail _ (.tail _ hp), by rw [← h1x]; exact .head _⟩ (.cons (.bin (.lenI (a := mm) (ns := lb b x) (by walk_at "mem") (by walk_at "px") (.tail _ (.tail _ hm)) rfl) (by walk_at "px") (.mul (by omega))) .nil (fun _ => rfl)) (by rw [← Int.natCast_mul]; omega) (by rw [← Int.natCast_mul]; rfl) (fun _ v => by walk_at "put") (fun i σ s6 I it hi hP hit S6 => ?_) (fun σ s6 hP S6 => ?_)
  · obtain ⟨L, ro⟩ := σ
    obtain ⟨p1, p2⟩ := hP
    dsimp only at p1 p2 S6
    have hy : 2 ^ i % x < x := Nat.mod_lt _ hpos
    refine x_asgG (ev_callS T 25 3 3 G hA S6 (by walk_at "mem") (by walk_at "pxs") (doubled_rest_spec T hB hM (.tail _ p2) (.tail _ (p1 _ hm)) (.inl hy)) fun v s7 H3 S7 hp => ?_)
    obtain ⟨r2, rfl, g1, g2⟩ := hp
    rw [dbl hpos] at g1
    refine st_loc S7 (v := .val (.ref r2)) (by walk_at "put") rfl fun s8 S8 => ?_
    refine x_nil ⟨(del I H3, r2), H3, S8.fit (by walk_at "weak") (List.Sublist.refl _), g2 _ (.head _), rfl, fun p hp => mem_del (g2 _ (.tail _ (p1 p hp))) (S6.off (p1 p hp)), mem_del g1 fun q => ?_⟩
    have q' : r2 = I := q
    rw [q'] at g1
    exact hit _ (S8.same_entry (g2 _ (.head _)) g1)
  · obtain ⟨L, ro⟩ := σ
    obtain ⟨p1, p2⟩ := hP
    dsimp only at p1 p2 S6
    refine x_asg G S6 (by walk_at "px") (by walk_at "put") fun s7 S7 => ?_
    refine x_forNL (σ := Led × Addr) (fun σ v => [((Str.ofString "m"), .val (.ref mm)), ((Str.ofString "w"), .int k), ((Str.ofString "one"), .val (.ref ro)), ((Str.ofString "turn"), v), ((Str.ofString "square"), .val (.ref σ.2))]) (fun σ => σ.1) (fun i σ => (∀ p ∈ H2, p ∈ σ.1) ∧ (σ.2, il (lb b (2 ^ ((lb b x).length * k + i) % x))) ∈ σ.1) ((lb b x).length * k) (σ₀ := (L, ro)) G hA.hd (by walk_at "mem") S7
      ⟨p1, p2⟩ (.cons (.bin (.lenI (a := mm) (ns := lb b x) (by walk_at "mem") (by walk_at "px") (p1 _ hm) rfl) (by walk_at "px") (.mul (by omega))) .nil (fun _ => rfl)) (by rw [← Int.natCast_mul]; omega) (by rw [← Int.natCast_mul]; rfl) (fun _ v => by walk_at "put") (fun i σ s8 I it hi hP hit S8 => ?_) (fun σ s8 hP S8 => ?_)
    · obtain ⟨L', sq⟩ := σ
      obtain ⟨q1, q2⟩ := hP
      dsimp only at q1 q2 S8
      have hy : 2 ^ ((lb b x).length * k + i) % x < x := Nat.mod_lt _ hpos
      refine x_asgG (ev_callS T 25 3 3 G hA S8 (by walk_at "mem") (by walk_at "pxs") (doubled_rest_spec T hB hM (.tail _ q2) (.tail _ (q1 _ hm)) (.inl hy)) fun v s9 H3 S9 hp => ?_)
      obtain ⟨r2, rfl, g1, g2⟩ := hp
      rw [dbl hpos] at g1
      refine st_loc S9 (v := .val (.ref r2)) (by walk_at "put") rfl fun s10 S10 => ?_
      refine x_nil ⟨(del I H3, r2), H3, S10.fit (by walk_at "weak") (List.Sublist.refl _), g2 _ (.head _), rfl, fun p hp => mem_del (g2 _ (.tail _ (q1 p hp))) (S8.off (q1 p hp)), mem_del g1 fun q => ?_⟩
      have q' : r2 = I := q
      rw [q'] at g1
      exact hit _ (S10.same_entry (g2 _ (.head _)) g1)
    · obtain ⟨L', sq⟩ := σ
      obtain ⟨q1, q2⟩ := hP
      dsimp only at q1 q2 S8
      have hmL := q1 _ hm
      have e0 : (lb b x).getD (0 : Int).toNat 0 = ((x % b : Nat) : Int) := by
        rw [show (0 : Int).toNat = 0 from rfl, lb_get hb2, Nat.pow_zero, Nat.div_one]
      have hdd : x % b % 2 = 1 := by
        rw [Nat.mod_mod_of_dvd x ⟨2 ^ (k - 1), by rw [hB.e, ← Nat.pow_succ']; congr 1; omega⟩]; exact hodd
      have hd2 : x % b < 256 := Nat.lt_of_lt_of_le (Nat.mod_lt _ (by omega)) hbhi
      have C := inverse_limb_spec (prog := prog) (w := w) (g := g) T (H := L') hB hdd hd2
      rw [← e0] at C
      refine x_retG (ev_cls M G hcl S8 (by walk_at "mem") (sp_cons (px_u G S8 (by walk_at "px") fun s9 S9 => sp_cons (wpAny_BinOp (wpAny_UnaryOp (ev_callS T 18 1 3 G hA S9 (by walk_at "mem") (by walk_at "pxs") C fun v s10 H3 S10 hp => ?_))))))
      obtain ⟨f, t, rfl, f1, f2, f3, rfl⟩ := hp
      rw [e0] at f3
      refine PyProof.Rows.neg_int (px_i G (S10.toks _) (by walk_at "px") fun u s11 S11 => binop_int (.maskB hB) fun u2 tk => ?_)
      refine pxs G (vs := [.val (.ref ro), .val (.ref sq)]) (by walk_at "pxs") (S11.toks tk) fun xs s12 hxs S12 => ⟨⟨_, _, _, S12⟩, ?_⟩
      refine call_make M G (hA.le (by omega)) S12 (w1 := .ref mm) (w3 := .ref ro) (w4 := .ref sq) (i2 := (-f) % b) (vals := .ref mm :: .int ((-f) % b) u2 :: xs) ⟨rfl, ⟨u2, rfl⟩, hxs⟩ fun o dx s13 S13 => ?_
      refine ⟨_, _, _, S13, o, rfl, ⟨dx, (-f) % b, ro, sq, .head _, .tail _ (.head _), .tail _ (.tail _ hmL), .tail _ (.tail _ ?_), minus_ok ⟨((x / b : Nat) : Int), ?_⟩ f3, Int.emod_nonneg _ (by omega), Int.emod_lt_of_pos _ hbp⟩, fun p hp => .tail _ (.tail _ (q1 p hp))⟩
      · rw [Nat.pow_add, eR] at q2; exact q2
      · have := Nat.mod_add_div x b
        rw [← Int.natCast_mul, ← Int.natCast_add, this]
end
end

section
open PySem PySem.Calls PySem.W
section
variable {prog : Program} {w : World} {g s : Shared} {B : Heap} {c : Cx} {m : Loc} {H : Led} {A : Around} {E : Value → Shared → Prop} {γ : Gl}

theorem geared_spec (T : Top γ) {H : Led} {cg t : Addr} {ts : List Int} {n many : Int} (ht : (t, il ts) ∈ H) (hn : 0 ≤ n) (hm : 0 < many) (hl : ts.length ≤ 1000) :
    SpecV prog w g γ 1 42 [.val (.ref cg), .int many] ((cg, O.list [.int n, .val (.ref t)]) :: H) (fun v H' => ∃ r tk, v = .int r tk ∧ 0 ≤ r ∧ r < many ∧ H' = (cg, O.list [.int (n + 1), .val (.ref t)]) :: H) := by
  refine def_spec T 42 0 [((Str.ofString "cog"), .val (.ref cg)), ((Str.ofString "many"), .int many)] 2 [(Str.ofString "cog"), (Str.ofString "many")] [(Str.ofString "len")] rfl (fun cx A B s1 hA G hgs S1 => ?_) (by decide +kernel) (by exact rfl) (by exact rfl) (by exact rfl) (by exact Nat.le_of_ble_eq_true rfl) (by walk_at "bnd")
  have hg0 : (Str.ofString "len") ∈ cx.gs := by rw [hgs]; walk_at "mem"
  clear hgs
  have P0 : ∀ {p q kk p' n}, PX cx [((Str.ofString "cog"), .val (.ref cg)), ((Str.ofString "many"), .int many)] ((cg, O.list [.int n, .val (.ref t)]) :: H) false (.Subscript (.Name (Str.ofString "cog") p) (.Constant (.int 0) kk q) p') (.int n) := fun {p q kk p' n} =>
    .item (vs := [.int n, .val (.ref t)]) (by walk_at "px") .int (.head _) (by decide) rfl (fun _ _ => rfl)
  have P1 : ∀ {p q kk p' n}, PX cx [((Str.ofString "cog"), .val (.ref cg)), ((Str.ofString "many"), .int many)] ((cg, O.list [.int n, .val (.ref t)]) :: H) false (.Subscript (.Name (Str.ofString "cog") p) (.Constant (.int 1) kk q) p') (.val (.ref t)) := fun {p q kk p' n} =>
    .item (vs := [.int n, .val (.ref t)]) (by walk_at "px") .int (.head _) (by decide) rfl (fun _ _ => rfl)
  refine x_setitem (vs := [.int n, .val (.ref t)]) (v := .int (n + 1)) G S1 (.bin P0 .int (.add _ _)) (by walk_at "px") .int (.head _) (by decide) (by show (0 : Int) < 2; decide) .head fun s2 S2 => ?_
  replace S2 : St g B cx [((Str.ofString "cog"), .val (.ref cg)), ((Str.ofString "many"), .int many)] ((cg, O.list [.int (n + 1), .val (.ref t)]) :: H) s2 := S2
  refine x_if G S2 (.cmp (c := decide (n + 1 ≤ ts.length)) P0 (.lenI (by walk_at "mem") P1 (.tail _ ht) rfl) (.le _ _) rfl) (fun hb s3 S3 => ?_) fun hb s3 S3 => x_nil ?_
  · simp only [decide_eq_true_eq] at hb
    refine x_ret G S3 (.bin (.itemI P1 (.bin P0 .int (.sub _ _)) (.tail _ ht) (by omega) (by omega) (fun _ _ => rfl)) (by walk_at "px") (.mod hm)) fun val s4 hv S4 => ?_
    obtain ⟨tk, e⟩ := hv
    cases e
    exact ⟨_, _, _, S4, _, tk, rfl, Int.emod_nonneg _ (by omega), Int.emod_lt_of_pos _ hm, rfl⟩
  · refine x_ret G S3 (.bin (.bin (.bin (.bin .int P0 (.mul (by decide))) (.bin P0 .int (.fdiv (by decide) (by decide))) (.add _ _)) .int (.add _ _)) (by walk_at "px") (.mod hm)) fun val s4 hv S4 => ?_
    obtain ⟨tk, e⟩ := hv
    cases e
    exact ⟨_, _, _, S4, _, tk, rfl, Int.emod_nonneg _ (by omega), Int.emod_lt_of_pos _ hm, rfl⟩

theorem limbs_spec (T : Top γ) {k b n : Nat} (hB : Bs k b) {H : Led} (hn : n < 2 ^ 60) :
    SpecV prog w g γ 1 43 [.int n, .int k] H (RetL (lb b n) H) := by
  refine def_spec T 43 0 [((Str.ofString "number"), .int n), ((Str.ofString "w"), .int k), ((Str.ofString "found"), V.any)] 2 [(Str.ofString "number"), (Str.ofString "w"), (Str.ofString "found")] [] rfl (fun cx A B s1 hA G hgs S1 => ?_) (by decide +kernel) (by exact rfl) (by exact rfl) (by exact rfl) (by exact Nat.le_of_ble_eq_true rfl) (by walk_at "bnd")
  clear hgs
  have hb2 := hB.two
  have hbhi := hB.hi
  have hk2 := hB.k2
  have hi := hB.i
  have hln := hB.len (n := n) (by omega)
  refine x_asgG (ev_listI (ns := []) G S1 .nil (by decide) fun r s2 S2 => st_loc S2 (v := .val (.ref r)) (by walk_at "put") rfl fun s3 S3 => ?_)
  refine x_whileP (σ := List Int × Nat) (bb := fun σ => decide ((0 : Int) < σ.2)) (fun σ => [((Str.ofString "number"), .int σ.2), ((Str.ofString "w"), .int k), ((Str.ofString "found"), .val (.ref r))]) (fun σ => (r, il σ.1) :: H) (fun σ => σ.1 ++ lb b σ.2 = lb b n ∧ σ.2 ≤ n) (fun σ => σ.2) (σ₀ := ([], n)) G S3
    ⟨rfl, Nat.le_refl _⟩ (fun σ hP => by walk_at "px") (fun σ s4 hP hb S4 => ?_) (fun σ s4 hP hb S4 => ?_)
  · obtain ⟨rs, q⟩ := σ
    obtain ⟨h1, h2⟩ := hP
    dsimp only at h1 h2 S4
    have hq : 0 < q := Int.natCast_pos.mp (of_decide_eq_true hb)
    have hlen : rs.length ≤ 64 := by rw [← h1, List.length_append] at hln; omega
    refine x_appendI G S4 (by walk_at "px") (by walk_at "mem") (.bin (by walk_at "px") (.bin .int (by walk_at "px") (.pow k rfl (by omega) (by decide))) (.mod (by rw [hi]; omega))) (by unfold bigN; omega) (by walk_at "put") fun s5 S5 => ?_
    refine x_asg G S5 (.bin (by walk_at "px") (.bin .int (by walk_at "px") (.pow k rfl (by omega) (by decide))) (.fdiv (by rw [hi]; omega) (by rw [hi]; omega))) (by walk_at "put") fun s6 S6 => ?_
    rw [hi, ← Int.natCast_emod, ← Int.natCast_ediv] at S6
    refine x_nil ⟨(rs ++ [((q % b : Nat) : Int)], q / b), S6, ⟨?_, Nat.le_trans (Nat.div_le_self _ _) h2⟩, Nat.div_lt_self hq (by omega)⟩
    show rs ++ [((q % b : Nat) : Int)] ++ lb b (q / b) = lb b n
    rw [← h1, lb_pos hb2 hq, List.append_assoc]; rfl
  · obtain ⟨rs, q⟩ := σ
    obtain ⟨h1, h2⟩ := hP
    dsimp only at h1 h2 S4
    have hq0 : ¬ (0 : Int) < q := of_decide_eq_false hb
    have hq : q = 0 := by omega
    rw [hq, lb_zero, List.append_nil] at h1
    rw [h1] at S4
    exact x_retL (px_u G S4 (by walk_at "px") fun s5 S5 => ⟨r, _, _, rfl, S5, .head _, fun p hp => .tail _ hp⟩)
end
end

section
open PySem PySem.Calls PySem.W
noncomputable def plain (f : Nat) (a b m : Int) : Int := [a + b, a - b, a * b, a * a, 2 * a, 0 - a].getD f 0 % m

section
variable {prog : Program} {w : World} {g s : Shared} {B : Heap} {c : Cx} {m : Loc} {H : Led} {A : Around} {E : Value → Shared → Prop} {γ : Gl}

/-- an item of a list that an expression gives -/
theorem ev_itemL {o i : Expr} {p : Pos} {Q : Value → Shared → Prop} (G : GW γ B) (_S : St g B c m H s)
    (h : wpAny (model prog w) A (eval o c.env) (fun v s₁ => ∃ a vs H1 k u, v = .ref a ∧ St g B c m H1 s₁ ∧ (a, O.list vs) ∈ H1 ∧ PX c m H1 false i (.int k) ∧ 0 ≤ k ∧ vs[k.toNat]? = some u ∧ ∀ val s', u.Is (some val) → St g B c m H1 s' → Q val s') E s)
    (hs : ∀ x y, subscripted i false x y = operate [x, y] (getItem x y)) : wpAny (model prog w) A (eval (.Subscript o i p) c.env) Q E s := by
  refine PyProof.Rows.Subscript_ (wpAny_mono h (fun v s₁ hq => ?_) fun _ _ e => e)
  obtain ⟨a, vs, H1, k', u, rfl, S1, hm, P, h0, hx, hk⟩ := hq
  refine px_i G S1 P fun t s2 S2 => ?_
  obtain ⟨xs, n, hg, hl, ha, hb, hlen⟩ := S2.isList hm
  obtain ⟨x, hx1, hx2⟩ := ha.get hx
  have hlt : _ < xs.length := (List.getElem?_eq_some_iff.mp hx1).1
  have hbig : bigN = 100000 := rfl
  exact PyProof.Rows.tail_any hl.typeIs slot_list_getitem.lookup (wpAny_getItem_list hl h0 (by omega) (by simpa using hx1) (hk x s2 hx2 S2)) (hs _ _)

theorem plainly_spec (T : Top γ) {H : Led} {f : Nat} {a b mm : Int} (hf : f < 6) (ha : a.natAbs < 2 ^ 60) (hb : b.natAbs < 2 ^ 60) (hm : 0 < mm) :
    SpecV prog w g γ 1 47 [.int f, .int a, .int b, .int mm] H (RetI (plain f a b mm) H) := by
  refine def_spec T 47 0 [((Str.ofString "form"), .int f), ((Str.ofString "number"), .int a), ((Str.ofString "other"), .int b), ((Str.ofString "m"), .int mm)] 4 [(Str.ofString "form"), (Str.ofString "number"), (Str.ofString "other"), (Str.ofString "m")] [] rfl (fun cx A B s1 hA G hgs S1 => ?_) (by decide +kernel) (by exact rfl) (by exact rfl) (by exact rfl) (by exact Nat.le_of_ble_eq_true rfl) (by walk_at "bnd")
  clear hgs
  refine x_retG (wpAny_BinOp (ev_itemL G S1 (ev_listI (ns := [a + b, a - b, a * b, a * a, 2 * a, 0 - a]) G S1 (.cons (.bin (by walk_at "px") (by walk_at "px") (.add _ _)) (.cons (.bin (by walk_at "px") (by walk_at "px") (.sub _ _)) (.cons (.bin (by walk_at "px") (by walk_at "px") (.mul (by omega))) (.cons (.bin (by walk_at "px") (by walk_at "px") (.mul (by omega))) (.cons (.bin .int (by walk_at "px") (.mul (by decide))) (.cons (.bin .int (by walk_at "px") (.sub _ _)) .nil (fun _ => rfl)) (fun _ => rfl)) (fun _ => rfl)) (fun _ => rfl)) (fun _ => rfl)) (fun _ => rfl)) (by simp [bigN]) fun r s2 S2 => ?_) (fun _ _ => rfl)))
  refine ⟨r, _, _, f, .int ([a + b, a - b, a * b, a * a, 2 * a, 0 - a].getD f 0), rfl, S2, .head _, by walk_at "px", by omega, getI (k := f) (by simpa using hf), fun val s3 hv S3 => ?_⟩
  obtain ⟨t, e⟩ := hv
  cases e
  refine px_i G S3 (by walk_at "px") fun u s4 S4 => binop_int (.mod hm) fun u2 tk => ?_
  exact ⟨_, _, H, (S4.toks tk).tail, ⟨u2, rfl⟩, rfl⟩
end
end

section
open PySem PySem.Calls PySem.W
section
variable {prog : Program} {w : World} {A : Around} {R : Result → Shared → Prop} {s : Shared}

theorem compLoop_g {elt target iter : Expr} {scope : Scope} {pos : Pos} {it acc : Value} {env : Env} (I : Nat → Shared → Prop)
    (turn : ∀ n s, I n s → wpAny (model prog w) A (pyNext it) (fun r s₁ => match r with
      | none => R (.ok .next) s₁
      | some v => wpAny (model prog w) A (letOwnedTupleGo target it v) (fun _ s₂ => wpAny (model prog w) A (assign target env v) (fun _ s₃ => wpAny (model prog w) A (eval elt env) (fun x s₄ =>
          wpAny (model prog w) A (call (.builtin "list.append") [acc, x]) (fun _ s₅ => ∃ m, m < n ∧ I m s₅) NoE s₄) NoE s₃) NoE s₂) NoE s₁) NoE s)
    (n : Nat) (h : I n s) :
    codeAny (model prog w) A (.compLoop (.ListComp elt [⟨target, iter, [], 0⟩] scope pos) 0 it acc env) R s := by
  refine codeAny_loop rfl I (fun n s hI => ?_) n h
  show wpAny _ _ ((compTurn (.ListComp elt [⟨target, iter, [], 0⟩] scope pos) 0 it acc env).onRaise (fun x => do noteFrame x env; theTreesLotGoes x)) _ _ s
  refine wpAny_noted ?_
  rw [compTurn_list1]
  refine wpAny_bind (wpAny_standAt (wpAny_bind (wpAny_mono (turn n s hI) (fun r s₁ h₁ => ?_) fun _ _ h' => h'.elim)))
  cases r with
  | none => exact wpAny_pure h₁
  | some v =>
    exact wpAny_bind (wpAny_mono h₁ (fun _ s₁ h₁ => wpAny_bind (wpAny_mono h₁ (fun _ s₂ h₂ => wpAny_bind (wpAny_bind (wpAny_mono h₂ (fun x s₃ h₃ => wpAny_bind (wpAny_mono h₃
      (fun _ s₄ h₄ => wpAny_pure (wpAny_pure ⟨rfl, h₄⟩)) fun _ _ h' => h'.elim)) fun _ _ h' => h'.elim))) fun _ _ h' => h'.elim)) fun _ _ h' => h'.elim)
end
end

section
open PySem PySem.Calls PySem.W
theorem bindL_keep {kd : Str → Option NameKind} {x : Str} : ∀ {r : List (Str × Value)} {m : Str → Option Value}, x ∉ r.map (·.1) → bindL kd r m x = m x
  | [], _, _ => rfl
  | (n, v) :: r, m, h => by
    rw [List.map_cons, List.mem_cons, not_or] at h
    unfold bindL
    rw [bindL_keep h.2]
    split
    · exact if_neg h.1
    · rfl
theorem bindL_get {kd : Str → Option NameKind} {x : Str} {v : Value} (hk : kd x = some .local) : ∀ {r : List (Str × Value)} {m : Str → Option Value}, (r.map (·.1)).Nodup → (x, v) ∈ r → bindL kd r m x = some v
  | [], _, _, h => by cases h
  | (n, u) :: r, m, nd, h => by
    rw [List.map_cons, List.nodup_cons] at nd
    unfold bindL
    rcases List.mem_cons.mp h with e | h
    · cases e
      rw [bindL_keep nd.1, if_pos hk]
      exact if_pos rfl
    · exact bindL_get hk nd.2 h
theorem bindC_keep {kd : Str → Option NameKind} {x : Str} : ∀ {r : List (Str × Value)} {m : Str → Option Value}, x ∉ r.map (·.1) → bindC kd r m x = m x
  | [], _, _ => rfl
  | (n, v) :: r, m, h => by
    rw [List.map_cons, List.mem_cons, not_or] at h
    unfold bindC
    rw [bindC_keep h.2]
    split
    · rfl
    · exact if_neg h.1
theorem bindC_get {kd : Str → Option NameKind} {x : Str} {v : Value} (hk : ¬ kd x = some .local) : ∀ {r : List (Str × Value)} {m : Str → Option Value}, (r.map (·.1)).Nodup → (x, v) ∈ r → bindC kd r m x = some v
  | [], _, _, h => by cases h
  | (n, u) :: r, m, nd, h => by
    rw [List.map_cons, List.nodup_cons] at nd
    unfold bindC
    rcases List.mem_cons.mp h with e | h
    · cases e
      rw [bindC_keep nd.1, if_neg hk]
      exact if_pos rfl
    · exact bindC_get hk nd.2 h

noncomputable def chkC (d : DefRec) (ls cs ps gs : List Str) : Bool :=
  (gs.all fun x => decide (d.scope.names.lookup x = some .globalImplicit) && !(x == ("__debug__" : Str))) &&
  (ls.all fun x => decide (d.scope.names.lookup x = some .local) && !(x == ("__debug__" : Str))) &&
  (cs.all fun x => decide (d.scope.names.lookup x = some .cell) && !(x == ("__debug__" : Str)) && !(x == ("__classdict__" : Str))) &&
  (ps.all fun x => ls.contains x || cs.contains x) &&
  decide (ls.Nodup) && decide (cs.Nodup) && decide (ps.Nodup) && !d.scope.isCoroutine && !d.scope.isGenerator && decide (d.scope.kind = .function)

theorem lookup_zip {x : Str} {a : Addr} : ∀ {xs : List Str} {as : List Addr}, xs.Nodup → (x, a) ∈ xs.zip as → (xs.zip as).lookup x = some a
  | [], _, _, h => by simp at h
  | _ :: _, [], _, h => by simp at h
  | y :: ys, b :: bs, nd, h => by
    rw [List.nodup_cons] at nd
    rw [List.zip_cons_cons] at h ⊢
    rw [List.lookup_cons]
    rcases List.mem_cons.mp h with e | h
    · cases e; simp
    · have : (x == y) = false := beq_eq_false_iff_ne.mpr fun e => nd.1 (e ▸ (List.of_mem_zip h).1)
      rw [this]
      exact lookup_zip nd.2 h
theorem zip_self {α β : Type} : ∀ (l : List (α × β)), (l.map (·.1)).zip (l.map (·.2)) = l
  | [] => rfl
  | p :: r => by rw [List.map_cons, List.map_cons, List.zip_cons_cons, zip_self r]
end

section
open PySem PySem.Calls PySem.W
theorem zip_cell : ∀ {cs : List (Str × Addr)} {cells : List (Str × V)} {p : Addr × O}, cs.map (·.1) = cells.map (·.1) → p ∈ (cs.map (·.2)).zip (cells.map fun q => O.cell q.2) → ∃ x v, p.2 = O.cell v ∧ (x, p.1) ∈ cs ∧ (x, v) ∈ cells
  | [], _, _, _, h => by simp at h
  | _ :: _, [], _, e, _ => by simp at e
  | (x, a) :: cs, (y, v) :: cells, p, e, h => by
    rw [List.map_cons, List.map_cons, List.cons.injEq] at e
    have e1 : x = y := e.1
    subst e1
    rw [List.map_cons, List.map_cons, List.zip_cons_cons] at h
    rcases List.mem_cons.mp h with q | h
    · exact ⟨x, v, by rw [q], by rw [q]; exact .head _, .head _⟩
    · obtain ⟨x', v', h1, h2, h3⟩ := zip_cell e.2 h
      exact ⟨x', v', h1, .tail _ h2, .tail _ h3⟩
theorem zip_val {vs : List V} {vals : List Value} {x : Str} {v : V} : ∀ {ps : List Str}, AllIs vs vals → (x, v) ∈ ps.zip vs → ∃ val, (x, val) ∈ ps.zip vals ∧ v.Is (some val) := by
  intro ps
  induction ps generalizing vs vals with
  | nil => intro _ h; simp at h
  | cons y ys ih =>
    intro ha h
    match vs, vals, ha with
    | u :: us, z :: zs, ha =>
      rw [List.zip_cons_cons] at h
      rcases List.mem_cons.mp h with e | h
      · cases e; exact ⟨z, .head _, ha.1⟩
      · obtain ⟨val, h1, h2⟩ := ih ha.2 h
        exact ⟨val, .tail _ h1, h2⟩
    | [], _, _ => simp at h

section
variable {prog : Program} {w : World} {g s : Shared} {B : Heap} {c : Cx} {m : Loc} {H : Led} {A : Around} {E : Value → Shared → Prop} {γ : Gl}

/-- what the i-th def does, a def that has cells -/
theorem code_specB (T : Top γ) (i n : Nat) (ps : List Str) (vs : List V) (m0 : Loc) (cells : List (Str × V)) (ls cn gs : List Str) {Post : Value → Led → Prop} {st : Stmt} {sts : List Stmt} {vals : List Value} (hv : AllIs vs vals) (hA : AOk A (n + 1)) (G : GW γ B) (S : LS g B H s) (hbody : (dr i).body = st :: sts)
    (h : ∀ (c : Cx) (A : Around) s (as : List Addr), AOk A n → GW γ B → (∃ o pm code doc, B.get? (γ.fa i) = some o ∧ o.data = .func (docDef (dr i).name (dr i).params (dr i).body (dr i).scope pm code doc) ∧ c.env.code = code) → c.gs = gs → as.length = cells.length → c.cs = (cells.map (·.1)).zip as → St g B c m0 (as.zip (cells.map fun q => O.cell q.2) ++ H) s →
      wpAny (model prog w) A (execs (st :: sts) c.env) (Ends g B Post) NoE s)
    (hchk : chkC (dr i) ls cn ps gs = true) (hls : m0.map (·.1) = ls) (hcn : cells.map (·.1) = cn) (hlen : ps.length = vs.length)
    (hm : ∀ p ∈ m0, p.2 = .any ∨ p ∈ ps.zip vs) (hc : ∀ p ∈ cells, p.2 = .any ∨ p ∈ ps.zip vs)
    (hcells : ∀ k, (cellsFrom k (dr i).scope.names []).map (·.1) = cn)
    (hbind : ∀ vals : List Value, vals.length = ps.length → ∀ pm code doc, bindArgs (docDef (dr i).name (dr i).params (dr i).body (dr i).scope pm code doc) ⟨vals, []⟩ = pure (ps.zip vals))
    (hi : i ∈ theIx := by decide) : codeAny (model prog w) A (.call (.ref (γ.fa i)) ⟨vals, []⟩) (fun r s' => ∃ v H', r = .ok (.ret v) ∧ LS g B H' s' ∧ Post v H') s := by
  have hf := G.fn i (by rw [T.ix]; exact hi)
  rw [T.D] at hf
  obtain ⟨o, pm, code, doc, f1, f2, f3⟩ := hf.2
  have e1 : vals.length = ps.length := by rw [hv.length, hlen]
  simp only [chkC, Bool.and_eq_true, decide_eq_true_eq, Bool.not_eq_true'] at hchk
  obtain ⟨⟨⟨⟨⟨⟨⟨⟨⟨k1, k2⟩, k3⟩, k4⟩, k5⟩, k6⟩, k7⟩, k8⟩, k9⟩, k10⟩ := hchk
  have lo : ∀ x ∈ ls, (dr i).scope.names.lookup x = some .local ∧ (x == ("__debug__" : Str)) = false := fun x hx => by
    have := List.all_eq_true.mp k2 x hx
    rw [Bool.and_eq_true] at this
    exact ⟨of_decide_eq_true this.1, by simpa using this.2⟩
  have co : ∀ x ∈ cn, (dr i).scope.names.lookup x = some .cell ∧ (x == ("__debug__" : Str)) = false ∧ (x == ("__classdict__" : Str)) = false := fun x hx => by
    have := List.all_eq_true.mp k3 x hx
    rw [Bool.and_eq_true, Bool.and_eq_true] at this
    exact ⟨of_decide_eq_true this.1.1, by simpa using this.1.2, by simpa using this.2⟩
  have hzk : ((ps.zip vals).map (·.1)) = ps := by rw [List.map_fst_zip]; rw [e1]; exact Nat.le_refl _
  have hkeys : ∀ k, (cellsFrom k (dr i).scope.names []) = cn.zip ((cellsFrom k (dr i).scope.names []).map (·.2)) := fun k => by
    conv => lhs; rw [← zip_self (cellsFrom k (dr i).scope.names []), hcells k]
  refine (codeAny_call_cells (fd := docDef (dr i).name (dr i).params (dr i).body (dr i).scope pm code doc) (body := (dr i).body) (binds := ps.zip vals) (by have := hA.dp; show A.depth < 1000; omega) (S.base _ _ f1) f2 (G.nolimit.keeps S.base) (f3.keeps S.base) rfl (hbind vals e1 pm code doc) rfl
    (fun x hx => ?_) (fun s₁ X => ?_) k8 k9 k10)
  · have hx' : x.1 ∈ ps := (List.of_mem_zip hx).1
    have := List.all_eq_true.mp k4 _ hx'
    rw [Bool.or_eq_true] at this
    rcases this with h | h
    · exact .inl (lo _ (by simpa using h)).1
    · have hc' : x.1 ∈ cn := by simpa using h
      refine .inr ⟨(co _ hc').1, ?_⟩
      have : x.1 ∈ (cellsFrom (s.heap.objs.size + 1) (dr i).scope.names []).map (·.1) := by rw [hcells]; exact hc'
      obtain ⟨p, hp, e⟩ := List.mem_map.mp this
      have hk := hkeys (s.heap.objs.size + 1)
      show ((cellsFrom (s.heap.objs.size + 1) (dr i).scope.names []).lookup x.1).isSome = true
      rw [hk] at hp ⊢
      rw [← e, lookup_zip k6 hp]; rfl
  · have hk := hkeys (s.heap.objs.size + 1)
    have hcsmap : (cellsFrom (s.heap.objs.size + 1) (dr i).scope.names []).map (·.1) = cn := hcells _
    generalize henv : callEnvC (docDef (dr i).name (dr i).params (dr i).body (dr i).scope pm code doc) s.heap.objs.size (γ.fa i) = env at X
    have hcells' : env.cells = cellsFrom (s.heap.objs.size + 1) (dr i).scope.names [] := by rw [← henv]; rfl
    have hkind : ∀ x, env.kindOf x = (dr i).scope.names.lookup x := fun x => by rw [← henv]; rfl
    have hloc : env.locals = s.heap.objs.size := by rw [← henv]; rfl
    have hg : env.globals = mainGlobals := by rw [← henv]; rfl
    have hbi : env.builtins = builtinsNs := by rw [← henv]; rfl
    have hsk : env.scope.kind = .function := by rw [← henv]; exact k10
    rw [← hcells'] at hk hcsmap
    have hkc : env.cells.map (·.1) = cells.map (·.1) := by rw [hcsmap, hcn]
    have hoffB : ∀ a, s.heap.objs.size ≤ a → B.get? a = none := fun a hle => by
      cases qq : B.get? a with
      | none => rfl
      | some o' => exact absurd (Heap.lt_size (S.base _ _ qq)) (Nat.not_lt.mpr hle)
    have S1 : St g B ⟨env, gs, (cells.map (·.1)).zip (env.cells.map (·.2))⟩ m0 ((env.cells.map (·.2)).zip (cells.map fun q => O.cell q.2) ++ H) s₁ := by
      obtain ⟨h', tk, hs⟩ := X.toInCall.same
      refine ⟨by rw [hs]; exact S.same, ⟨_, ⟨X.toInCall.ns, fun b o e => X.toInCall.keep _ _ (S.base b o e), by rw [show Cx.L ⟨env, gs, _⟩ = env.locals from rfl, hloc]; exact S.size⟩, by rw [hls]; exact k5, fun p hp => ?_⟩, fun p hp => ?_, ?_, ?_⟩
      · rcases hm p hp with e | e
        · rw [e]; trivial
        · obtain ⟨val, v1, v2⟩ := zip_val hv e
          have hl : env.kindOf p.1 = some .local := by rw [hkind]; exact (lo _ (by rw [← hls]; exact List.mem_map_of_mem hp)).1
          rw [bindL_get hl (by rw [hzk]; exact k7) v1]; exact v2
      · rcases List.mem_append.mp hp with hp | hp
        · obtain ⟨x, v, q1, q2, q3⟩ := zip_cell hkc hp
          have hxc : x ∈ cn := by rw [← hcn]; exact List.mem_map_of_mem (f := (·.1)) q3
          have hlk : env.cells.lookup x = some p.1 := by
            have := lookup_zip (x := x) (a := p.1) (xs := cn) (as := env.cells.map (·.2)) k6 (by rw [← hcsmap, zip_self]; exact q2)
            rwa [← hcsmap, zip_self] at this
          obtain ⟨ob, c1, c2⟩ := X.cell x p.1 hlk
          have habove := X.above x p.1 q2
          refine ⟨⟨ob, c1, ?_⟩, Nat.ne_of_gt habove, hoffB _ (by rw [← hloc]; exact Nat.le_of_lt habove)⟩
          rw [q1]
          refine ⟨_, c2, ?_⟩
          rcases hc _ q3 with e | e
          · have e' : v = V.any := e
            rw [e']; trivial
          · obtain ⟨val, v1, v2⟩ := zip_val hv e
            have hnl : ¬ env.kindOf x = some .local := by rw [hkind, (co x hxc).1]; decide
            rw [bindC_get hnl (by rw [hzk]; exact k7) v1]; exact v2
        · obtain ⟨⟨ob, c1, c2⟩, c3⟩ := S.led p hp
          exact ⟨⟨ob, X.toInCall.keep _ _ c1, c2⟩, by show p.1 ≠ env.locals; rw [hloc]; exact Nat.ne_of_lt (Heap.lt_size c1), c3⟩
      · rw [List.map_append, List.map_fst_zip (by rw [List.length_map, List.length_map]; have := congrArg List.length hkc; simpa using Nat.le_of_eq this)]
        refine List.nodup_append.mpr ⟨?_, S.nd, fun a ha b hb e => ?_⟩
        · have := X.apart
          exact List.pairwise_map.mpr this
        · obtain ⟨p, hp, rfl⟩ := List.mem_map.mp ha
          obtain ⟨q, hq, rfl⟩ := List.mem_map.mp hb
          have h1 := X.above p.1 p.2 hp
          obtain ⟨⟨ob, c1, _⟩, _⟩ := S.led q hq
          have h2 := Heap.lt_size c1
          rw [hloc] at h1
          rw [e] at h1
          exact absurd h1 (Nat.not_lt.mpr (Nat.le_of_lt h2))
      · refine ⟨hg, hbi, hsk, fun x hx => ?_, fun x hx => ?_, fun p hp => ?_⟩
        · have := List.all_eq_true.mp k1 x hx
          rw [Bool.and_eq_true] at this
          exact ⟨by show env.kindOf x = _; rw [hkind]; exact of_decide_eq_true this.1, by simpa using this.2⟩
        · rw [hls] at hx
          exact ⟨by show env.kindOf x = _; rw [hkind]; exact (lo x hx).1, (lo x hx).2⟩
        · have hp' : p ∈ env.cells := by
            have : p ∈ (env.cells.map (·.1)).zip (env.cells.map (·.2)) := by rw [hkc]; exact hp
            rwa [zip_self] at this
          have hxc : p.1 ∈ cn := by rw [← hcsmap]; exact List.mem_map_of_mem hp'
          have hlk : env.cells.lookup p.1 = some p.2 := by
            have := lookup_zip (x := p.1) (a := p.2) (xs := cn) (as := env.cells.map (·.2)) k6 (by rw [← hcsmap, zip_self]; exact hp')
            rwa [← hcsmap, zip_self] at this
          exact ⟨.inl (by show env.kindOf p.1 = _; rw [hkind]; exact (co _ hxc).1), hlk, (co _ hxc).2.1, (co _ hxc).2.2⟩
    have hcode' : ∃ o pm code doc, B.get? (γ.fa i) = some o ∧ o.data = .func (docDef (dr i).name (dr i).params (dr i).body (dr i).scope pm code doc) ∧ env.code = code := ⟨o, pm, code, doc, f1, f2, by rw [← henv]; rfl⟩
    rw [hbody]
    have hle : (env.cells.map (·.2)).length = cells.length := by have := congrArg List.length hkc; simpa using this
    refine wpAny_mono (h _ _ s₁ (env.cells.map (·.2)) (hA.deeper env) G hcode' rfl hle rfl S1) (fun fl s' hq => ?_) fun _ _ e => e.elim
    obtain ⟨c', m', H', S', P⟩ := hq
    exact ⟨_, H', rfl, S'.ls, by cases fl <;> exact P⟩

theorem def_specB (T : Top γ) (i n : Nat) (ps : List Str) (vs : List V) (m0 : Loc) (cells : List (Str × V)) (ls cn gs : List Str) {Post : Value → Led → Prop} {st : Stmt} {sts : List Stmt} {vals : List Value} (hv : AllIs vs vals) (hA : AOk A (n + 1)) (G : GW γ B) (S : LS g B H s) (hbody : (dr i).body = st :: sts)
    (h : ∀ (c : Cx) (A : Around) s (as : List Addr), AOk A n → GW γ B → (∃ o pm code doc, B.get? (γ.fa i) = some o ∧ o.data = .func (docDef (dr i).name (dr i).params (dr i).body (dr i).scope pm code doc) ∧ c.env.code = code) → c.gs = gs → as.length = cells.length → c.cs = (cells.map (·.1)).zip as → St g B c m0 (as.zip (cells.map fun q => O.cell q.2) ++ H) s →
      wpAny (model prog w) A (execs (st :: sts) c.env) (Ends g B Post) NoE s)
    (hchk : chkC (dr i) ls cn ps gs = true) (hls : m0.map (·.1) = ls) (hcn : cells.map (·.1) = cn) (hlen : ps.length = vs.length)
    (hm : ∀ p ∈ m0, p.2 = .any ∨ p ∈ ps.zip vs) (hc : ∀ p ∈ cells, p.2 = .any ∨ p ∈ ps.zip vs)
    (hcells : ∀ k, (cellsFrom k (dr i).scope.names []).map (·.1) = cn)
    (hbind : ∀ vals : List Value, vals.length = ps.length → ∀ pm code doc, bindArgs (docDef (dr i).name (dr i).params (dr i).body (dr i).scope pm code doc) ⟨vals, []⟩ = pure (ps.zip vals))
    (hi : i ∈ theIx := by decide) : wpAny (model prog w) A (call (.ref (γ.fa i)) vals) (fun v s' => ∃ H', LS g B H' s' ∧ Post v H') NoE s :=
  wpAny_call (codeAny_mono (code_specB T i n ps vs m0 cells ls cn gs hv hA G S hbody h hchk hls hcn hlen hm hc hcells hbind hi) fun r s' hq => by
    obtain ⟨v, H', rfl, S', P⟩ := hq
    exact ⟨H', S', P⟩)

theorem def_specCC (T : Top γ) (i n : Nat) (ps : List Str) (vs : List V) (m0 : Loc) (cells : List (Str × V)) (ls cn gs : List Str) {Post : Value → Led → Prop} {st : Stmt} {sts : List Stmt} (hbody : (dr i).body = st :: sts)
    (h : ∀ (c : Cx) (A : Around) (B : Heap) s (as : List Addr), AOk A n → GW γ B → (∃ o pm code doc, B.get? (γ.fa i) = some o ∧ o.data = .func (docDef (dr i).name (dr i).params (dr i).body (dr i).scope pm code doc) ∧ c.env.code = code) → c.gs = gs → as.length = cells.length → c.cs = (cells.map (·.1)).zip as → St g B c m0 (as.zip (cells.map fun q => O.cell q.2) ++ H) s →
      wpAny (model prog w) A (execs (st :: sts) c.env) (Ends g B Post) NoE s)
    (hchk : chkC (dr i) ls cn ps gs = true) (hls : m0.map (·.1) = ls) (hcn : cells.map (·.1) = cn) (hlen : ps.length = vs.length)
    (hm : ∀ p ∈ m0, p.2 = .any ∨ p ∈ ps.zip vs) (hc : ∀ p ∈ cells, p.2 = .any ∨ p ∈ ps.zip vs)
    (hcells : ∀ k, (cellsFrom k (dr i).scope.names []).map (·.1) = cn)
    (hbind : ∀ vals : List Value, vals.length = ps.length → ∀ pm code doc, bindArgs (docDef (dr i).name (dr i).params (dr i).body (dr i).scope pm code doc) ⟨vals, []⟩ = pure (ps.zip vals))
    (hi : i ∈ theIx := by decide) : SpecV prog w g γ (n + 1) i vs H Post :=
  fun vals hv A s B hA G S => def_specB T i n ps vs m0 cells ls cn gs hv hA G S hbody (fun c A s as h1 h2 h3 h4 h5 h6 h7 => h c A B s as h1 h2 h3 h4 h5 h6 h7) hchk hls hcn hlen hm hc hcells hbind hi

theorem def_specC (T : Top γ) (i n : Nat) (ps : List Str) (vs : List V) (m0 : Loc) (cells : List (Str × V)) (ls cn gs : List Str) {Post : Value → Led → Prop} {st : Stmt} {sts : List Stmt} (hbody : (dr i).body = st :: sts)
    (h : ∀ (c : Cx) (A : Around) (B : Heap) s (as : List Addr), AOk A n → GW γ B → c.gs = gs → as.length = cells.length → c.cs = (cells.map (·.1)).zip as → St g B c m0 (as.zip (cells.map fun q => O.cell q.2) ++ H) s →
      wpAny (model prog w) A (execs (st :: sts) c.env) (Ends g B Post) NoE s)
    (hchk : chkC (dr i) ls cn ps gs = true) (hls : m0.map (·.1) = ls) (hcn : cells.map (·.1) = cn) (hlen : ps.length = vs.length)
    (hm : ∀ p ∈ m0, p.2 = .any ∨ p ∈ ps.zip vs) (hc : ∀ p ∈ cells, p.2 = .any ∨ p ∈ ps.zip vs)
    (hcells : ∀ k, (cellsFrom k (dr i).scope.names []).map (·.1) = cn)
    (hbind : ∀ vals : List Value, vals.length = ps.length → ∀ pm code doc, bindArgs (docDef (dr i).name (dr i).params (dr i).body (dr i).scope pm code doc) ⟨vals, []⟩ = pure (ps.zip vals))
    (hi : i ∈ theIx := by decide) : SpecV prog w g γ (n + 1) i vs H Post :=
  def_specCC T i n ps vs m0 cells ls cn gs hbody (fun c A B s as h1 h2 _ h3 h4 h5 h6 => h c A B s as h1 h2 h3 h4 h5 h6) hchk hls hcn hlen hm hc hcells hbind hi
end
end

section
open PySem PySem.Calls PySem.W
noncomputable def clOf (env : Env) (names : List (Str × NameKind)) (cs : List (Str × Addr)) : List (Str × Addr) := names.foldl (fun cs x => if x.2 == .free then (x.1, (env.cells.lookup x.1).getD 0) :: cs else cs) cs

theorem forIn_yield {α β : Type} {l : List α} {f : α → β → Sem (ForInStep β)} (g : β → α → β) (h : ∀ x ∈ l, ∀ c, f x c = pure (.yield (g c x))) : ∀ c, forIn l c f = pure (l.foldl g c) := by
  induction l with
  | nil => intro c; rfl
  | cons x l ih =>
    intro c
    rw [List.forIn_cons, h x List.mem_cons_self, pure_bind]
    exact ih (fun y hy => h y (List.mem_cons_of_mem _ hy)) _

theorem closure_cells {scope : Scope} {env : Env} (h : ∀ x ∈ scope.names, x.2 = .free → ∃ a, env.cells.lookup x.1 = some a) : closureFor scope env = pure (clOf env scope.names []) := by
  simp only [closureFor]
  rw [forIn_yield (fun cs (x : Str × NameKind) => if x.2 == .free then (x.1, (env.cells.lookup x.1).getD 0) :: cs else cs) (fun x hx c => by
    obtain ⟨n, kind⟩ := x
    cases hk : kind == NameKind.free with
    | true =>
      obtain ⟨a, ha⟩ := h _ hx (by simpa using hk)
      have ha' : env.cells.lookup n = some a := ha
      simp only [if_true, cellOf, ha', hk, Option.getD_some]
      rfl
    | false => simp only [hk, Bool.false_eq_true, if_false])]
  rfl

theorem clOf_lookup {env : Env} {x : Str} {a : Addr} (he : env.cells.lookup x = some a) : ∀ {names : List (Str × NameKind)} {cs : List (Str × Addr)}, ((x, NameKind.free) ∈ names ∨ cs.lookup x = some a) → (clOf env names cs).lookup x = some a
  | [], cs, h => by
    rcases h with h | h
    · cases h
    · exact h
  | (n, k) :: r, cs, h => by
    show (clOf env r (if k == .free then _ else _)).lookup x = _
    refine clOf_lookup he ?_
    cases hk : k == NameKind.free with
    | true =>
      simp only [if_true]
      by_cases e : x = n
      · subst e
        right
        rw [List.lookup_cons]; simp [he]
      · rcases h with h | h
        · rcases List.mem_cons.mp h with q | h
          · cases q; exact absurd rfl e
          · exact .inl h
        · right
          rw [List.lookup_cons, beq_eq_false_iff_ne.mpr e]; exact h
    | false =>
      simp only [Bool.false_eq_true, if_false]
      rcases h with h | h
      · rcases List.mem_cons.mp h with q | h
        · cases q; exact absurd hk (by decide)
        · exact .inl h
      · exact .inr h

noncomputable def chkComp (scope : Scope) (ls gs fs : List Str) : Bool :=
  (gs.all fun x => decide (scope.names.lookup x = some .globalImplicit) && !(x == ("__debug__" : Str))) &&
  (ls.all fun x => decide (scope.names.lookup x = some .local) && !(x == ("__debug__" : Str))) &&
  (fs.all fun x => decide (scope.names.lookup x = some .free) && !(x == ("__debug__" : Str)) && !(x == ("__classdict__" : Str)) && scope.names.contains (x, .free)) &&
  (scope.names.all fun x => decide (x.2 ≠ .cell) && (decide (x.2 ≠ .free) || fs.contains x.1) && (decide (x.2 ≠ .local) || decide (scope.names.lookup x.1 = some .local))) &&
  decide (ls.Nodup) && decide (scope.kind = .function)

theorem relabel_glob {env : Env} : ∀ {names : List (Str × NameKind)} {x : Str} {k0 : NameKind}, k0 ≠ .free → names.lookup x = some k0 →
    (names.map fun (n, k) => if (k == NameKind.free && env.scope.kind == .function && env.kindOf n == some .cell) then (n, NameKind.cell) else (n, k)).lookup x = some k0
  | [], _, _, _, h => by simp at h
  | (n, k) :: r, x, k0, h0, h => by
    have ih := @relabel_glob env r x k0 h0
    show List.lookup x ((if (k == NameKind.free && env.scope.kind == .function && env.kindOf n == some .cell) = true then (n, NameKind.cell) else (n, k)) :: _) = _
    cases hx : x == n with
    | true =>
      simp only [List.lookup_cons, hx] at h
      cases h
      have hf : (k == NameKind.free) = false := by simpa using h0
      simp [List.lookup_cons, hx, hf]
    | false =>
      simp only [List.lookup_cons, hx] at h
      by_cases hc : (k == NameKind.free && env.scope.kind == .function && env.kindOf n == some .cell) = true
      · rw [if_pos hc]; simp only [List.lookup_cons, hx]; exact ih h
      · rw [if_neg hc]; simp only [List.lookup_cons, hx]; exact ih h
theorem relabel_free {env : Env} : ∀ {names : List (Str × NameKind)} {x : Str}, names.lookup x = some .free →
    (names.map fun (n, k) => if (k == NameKind.free && env.scope.kind == .function && env.kindOf n == some .cell) then (n, NameKind.cell) else (n, k)).lookup x = some .free ∨
    (names.map fun (n, k) => if (k == NameKind.free && env.scope.kind == .function && env.kindOf n == some .cell) then (n, NameKind.cell) else (n, k)).lookup x = some .cell
  | [], _, h => by simp at h
  | (n, k) :: r, x, h => by
    have ih := @relabel_free env r x
    show List.lookup x ((if (k == NameKind.free && env.scope.kind == .function && env.kindOf n == some .cell) = true then (n, NameKind.cell) else (n, k)) :: _) = _ ∨ List.lookup x ((if (k == NameKind.free && env.scope.kind == .function && env.kindOf n == some .cell) = true then (n, NameKind.cell) else (n, k)) :: _) = _
    cases hx : x == n with
    | true =>
      simp only [List.lookup_cons, hx] at h
      cases h
      by_cases hc : (NameKind.free == NameKind.free && env.scope.kind == .function && env.kindOf n == some .cell) = true
      · rw [if_pos hc]; right; simp [List.lookup_cons, hx]
      · rw [if_neg hc]; left; simp [List.lookup_cons, hx]
    | false =>
      simp only [List.lookup_cons, hx] at h
      by_cases hc : (k == NameKind.free && env.scope.kind == .function && env.kindOf n == some .cell) = true
      · rw [if_pos hc]; simp only [List.lookup_cons, hx]; exact ih h
      · rw [if_neg hc]; simp only [List.lookup_cons, hx]; exact ih h

section
variable {prog : Program} {w : World} {g s : Shared} {B : Heap} {c : Cx} {m : Loc} {H : Led} {A : Around} {E : Value → Shared → Prop} {γ : Gl}

theorem St.hideC {C : Addr} {oC : Obj} {h' : Heap} {tk : Nat} (S : St g B c m ((C, O.obj oC) :: H) s) (hs : Heap.SameBut C s.heap h') : St g B c m H { s with heap := h', toks := tk } := by
  have hC := S.led _ (.head _)
  have nd := S.nd
  rw [List.map_cons, List.nodup_cons] at nd
  refine S.tail.others (tk := tk) fun b o e hb => (hs.2 b (fun q => ?_)).trans e
  subst q
  rcases hb with hb | hb | hb
  · rw [hC.2.2] at hb; cases hb
  · exact hC.2.1 hb
  · exact nd.1 hb

/-- the frame of an inner block goes, its object stays on the ledger -/
theorem comp_block {elt tgt iter : Expr} {ifs : List Expr} {scope : Scope} {pos : Pos} {I : Addr} {cl : List (Str × Addr)} {RR : Value → Addr → Result → Shared → Prop} (G : GW γ B) (S : St g B c m H s)
    (ls gs : List Str) (fc : List (Str × Addr)) (K : Addr → Led → Prop) (hchk : chkComp scope ls gs (fc.map (·.1)) = true) (hfc : ∀ p ∈ fc, p ∈ c.cs) (hcl : cl = clOf c.env scope.names [])
    (self : ∀ (B' : Heap) (c' : Cx) m' D s' (Q : Value → Shared → Prop) E, St g B' c' m' ((D, il []) :: H) s' → Q (.ref I) s' → wpAny (model prog w) A (pyIter (.ref I)) Q E s')
    (loop : ∀ (B' : Heap) (c' : Cx) D s', GW γ B' → c'.gs = gs → c'.cs = fc → St g B' c' (ls.map fun x => (x, V.any)) ((D, il []) :: H) s' →
      codeAny (model prog w) A (.compLoop (.ListComp elt [⟨tgt, iter, ifs, 0⟩] scope pos) 0 (.ref I) (.ref D) c'.env) (fun r s5 => r = .ok .next ∧ ∃ m3 H3, St g B' c' m3 H3 s5 ∧ K D H3) s')
    (fin : ∀ D C oC H3 s', (∀ h : Heap, h.get? C = some oC → ∃ m, h.Ns C m) → St g B c m ((C, O.obj oC) :: H3) s' → K D H3 → RR (.ref D) C (.ok .next) s') :
    wpAny (model prog w) A (newList []) (fun acc s₃ => wpAny (model prog w) A (newFunctionEnv scope c.env.globals cl [] c.env.qual none .none (some c.env)) (fun cenv s₄ =>
      codeAny (model prog w) A (.compStart (.ListComp elt [⟨tgt, iter, ifs, 0⟩] scope pos) 0 (.ref I) acc { cenv with scope := relabel scope c.env }) (RR acc cenv.locals) s₄) E s₃) E s := by
  simp only [chkComp, Bool.and_eq_true, decide_eq_true_eq, Bool.not_eq_true'] at hchk
  obtain ⟨⟨⟨⟨⟨k1, k2⟩, k3⟩, k4⟩, k5⟩, k6⟩ := hchk
  have hcell : ∀ y ∈ scope.names, y.2 ≠ .cell := fun y hy => by
    have := List.all_eq_true.mp k4 y hy
    rw [Bool.and_eq_true, Bool.and_eq_true] at this
    exact of_decide_eq_true this.1.1
  refine ev_newList (vs := []) S trivial (by decide) fun D s3 S3 => ?_
  obtain ⟨B', up, L1, back⟩ := S3.lift
  refine wpAny_newFunctionEnv hcell (by intro y hy; simp at hy) (fun h₁ hns₁ hsb₁ => ?_) k6
  have hk₀ : ∀ b o, s3.heap.get? b = some o → h₁.get? b = some o := fun b o e => hsb₁.extBut b o (Nat.ne_of_lt (Heap.lt_size e)) (Heap.get?_push_of_some _ e)
  have loopS : ∀ s₃ : Shared, s₃ = { s3 with heap := h₁, toks := s3.toks + ([] : List (Str × Value)).length } →
      St g B' ⟨compEnvC scope cl s3.heap.objs.size c.env, gs, fc⟩ (ls.map fun x => (x, V.any)) ((D, il []) :: H) s₃ := by
    rintro s₃ rfl
    have hm : (ls.map fun x => (x, V.any)).map (·.1) = ls := by
      rw [List.map_map]
      have e : ((fun (x : Str × V) => x.1) ∘ fun x => (x, V.any)) = id := rfl
      rw [e, List.map_id]
    refine ⟨L1.same, ⟨_, ⟨hns₁, fun b o e => hk₀ _ _ (L1.base b o e), L1.size⟩, by rw [hm]; exact k5, fun p hp => ?_⟩, fun p hp => ?_, L1.nd, ⟨S.kx.glo, S.kx.bui, k6, fun x hx => ?_, fun x hx => ?_, fun p hp => ?_⟩⟩
    · obtain ⟨x, _, rfl⟩ := List.mem_map.mp hp
      trivial
    · obtain ⟨⟨ob, a1, a2⟩, a3⟩ := L1.led p hp
      exact ⟨⟨ob, hk₀ _ _ a1, a2⟩, Nat.ne_of_lt (Heap.lt_size a1), a3⟩
    · have := List.all_eq_true.mp k1 x hx
      rw [Bool.and_eq_true] at this
      exact ⟨relabel_glob (by decide) (of_decide_eq_true this.1), by simpa using this.2⟩
    · rw [hm] at hx
      have := List.all_eq_true.mp k2 x hx
      rw [Bool.and_eq_true] at this
      exact ⟨relabel_glob (by decide) (of_decide_eq_true this.1), by simpa using this.2⟩
    · have := List.all_eq_true.mp k3 p.1 (List.mem_map_of_mem hp)
      rw [Bool.and_eq_true, Bool.and_eq_true, Bool.and_eq_true] at this
      obtain ⟨⟨⟨q1, q2⟩, q3⟩, q4⟩ := this
      refine ⟨?_, ?_, by simpa using q2, by simpa using q3⟩
      · exact (relabel_free (env := c.env) (of_decide_eq_true q1)).symm
      · have hl := (S.kx.cl p (hfc p hp)).2.1
        show cl.lookup p.1 = some p.2
        rw [hcl]
        exact clOf_lookup hl (.inl (by simpa using q4))
  have run : ∀ s₃ : Shared, s₃ = { s3 with heap := h₁, toks := s3.toks + ([] : List (Str × Value)).length } →
      codeAny (model prog w) A (.compLoop (.ListComp elt [⟨tgt, iter, ifs, 0⟩] scope pos) 0 (.ref I) (.ref D) (compEnvC scope cl s3.heap.objs.size c.env)) (RR (.ref D) s3.heap.objs.size) s₃ := by
    intro s₃ e
    refine codeAny_mono (loop B' ⟨compEnvC scope cl s3.heap.objs.size c.env, gs, fc⟩ D s₃ (G.keeps up) rfl rfl (loopS s₃ e)) (fun r s5 h5 => ?_)
    obtain ⟨rfl, m3, H3, S5, hK⟩ := h5
    obtain ⟨mm, F, _⟩ := id S5.fr
    obtain ⟨oC, es, ep, ho, hr⟩ := id F.ns
    refine fin D _ oC H3 s5 (fun h e => ⟨_, oC, es, ep, e, hr⟩) (back _ _ ⟨S5.same, S5.base, fun p hp => ?_, ?_, S5.ls.size⟩) hK
    · rcases List.mem_cons.mp hp with rfl | hp
      · refine ⟨⟨oC, ho, rfl⟩, ?_⟩
        cases q : B'.get? s3.heap.objs.size with
        | none => rfl
        | some o' => exact absurd (Heap.lt_size (L1.base _ _ q)) (Nat.lt_irrefl _)
      · exact ⟨(S5.led p hp).1, (S5.led p hp).2.2⟩
    · rw [List.map_cons, List.nodup_cons]
      refine ⟨fun q => ?_, S5.nd⟩
      obtain ⟨p, hp, e⟩ := List.mem_map.mp q
      exact (S5.led p hp).2.1 e
  exact codeAny_compStart_list (run _ rfl) (self B' _ _ D _ _ _ (loopS _ rfl) (run _ rfl))

theorem comp_names {scope : Scope} {ls gs fs : List Str} (h : chkComp scope ls gs fs = true) : scope.kind = .function ∧ (∀ x ∈ scope.names, x.2 = .local → scope.names.lookup x.1 = some .local) ∧ (∀ x ∈ scope.names, x.2 = .free → x.1 ∈ fs) := by
  simp only [chkComp, Bool.and_eq_true, decide_eq_true_eq] at h
  obtain ⟨⟨_, k4⟩, _⟩ := h.1
  refine ⟨h.2, fun x hx hl => ?_, fun x hx hl => ?_⟩
  · have := List.all_eq_true.mp k4 x hx
    rw [Bool.and_eq_true, Bool.or_eq_true] at this
    rcases this.2 with h | h
    · exact absurd hl (of_decide_eq_true h)
    · exact of_decide_eq_true h
  · have := List.all_eq_true.mp k4 x hx
    rw [Bool.and_eq_true, Bool.and_eq_true, Bool.or_eq_true] at this
    rcases this.1.2 with h | h
    · exact absurd hl (of_decide_eq_true h)
    · simpa using h

/-- a list comprehension's value -/
theorem ev_comp {elt tgt iter : Expr} {ifs : List Expr} {scope : Scope} {pos : Pos} {Q : Value → Shared → Prop} (G : GW γ B) (S : St g B c m H s)
    (ls gs : List Str) (fc : List (Str × Addr)) (K : Addr → Led → Prop) (hchk : chkComp scope ls gs (fc.map (·.1)) = true) (hfc : ∀ p ∈ fc, p ∈ c.cs)
    (h : wpAny (model prog w) A (eval iter c.env) (fun x s₁ => wpAny (model prog w) A (pyIter x) (fun it s₂ => ∃ I H2, it = .ref I ∧ St g B c m H2 s₂ ∧
      (∀ (B' : Heap) (c' : Cx) m' D s' (Q : Value → Shared → Prop) E, St g B' c' m' ((D, il []) :: H2) s' → Q (.ref I) s' → wpAny (model prog w) A (pyIter (.ref I)) Q E s') ∧
      (∀ (B' : Heap) (c' : Cx) D s', GW γ B' → c'.gs = gs → c'.cs = fc → St g B' c' (ls.map fun x => (x, V.any)) ((D, il []) :: H2) s' →
        codeAny (model prog w) A (.compLoop (.ListComp elt [⟨tgt, iter, ifs, 0⟩] scope pos) 0 (.ref I) (.ref D) c'.env) (fun r s5 => r = .ok .next ∧ ∃ m3 H3, St g B' c' m3 H3 s5 ∧ K D H3) s')) E s₁) E s)
    (k : ∀ D H3 s', St g B c m H3 s' → K D H3 → Q (.ref D) s')
    (hs : ∀ x, foldedSetIterable iter c.env x = pure x := by intro _; rfl) :
    wpAny (model prog w) A (eval (.ListComp elt [⟨tgt, iter, ifs, 0⟩] scope pos) c.env) Q E s := by
  rw [eval_ListComp]
  obtain ⟨n1, n2, n3⟩ := comp_names hchk
  have hclos : closureFor scope c.env = pure (clOf c.env scope.names []) := closure_cells fun x hx hl => by
    obtain ⟨p, hp, e⟩ := List.mem_map.mp (n3 x hx hl)
    exact ⟨p.2, by rw [← e]; exact (S.kx.cl p (hfc p hp)).2.1⟩
  refine wpAny_comprehension_free (use := none) rfl hs hclos n1 n2 (wpAny_mono h (fun xv s₁ h₁ => wpAny_mono h₁ (fun it s₂ h₂ => ?_) fun _ _ e => e) fun _ _ e => e)
  obtain ⟨I, H2, rfl, S2, self, loop⟩ := h₂
  refine comp_block (RR := fun acc C => compPost (model prog w) A E none Q acc C) G S2 ls gs fc K hchk hfc rfl self loop fun D C oC H3 s' hC S3 hK => ?_
  obtain ⟨ob, e1, e2⟩ := S3.get (.head _)
  have e2' : ob = oC := e2
  subst e2'
  obtain ⟨mC, hN⟩ := hC _ e1
  exact ⟨mC, hN, fun h' hs' => k D H3 _ (S3.hideC hs') hK⟩

/-- a local takes a list comprehension -/
theorem x_asgComp {elt tgt iter : Expr} {ifs : List Expr} {scope : Scope} {pos spos py : Pos} {y : Str} {rest : List Stmt} {Q : Flow → Shared → Prop} (G : GW γ B) (S : St g B c m H s)
    (ls gs : List Str) (fc : List (Str × Addr)) (K : Addr → Led → Prop) (hchk : chkComp scope ls gs (fc.map (·.1)) = true) (hfc : ∀ p ∈ fc, p ∈ c.cs)
    (m' : Addr → Loc) (hp : ∀ D, Put m y (.val (.ref D)) (m' D))
    (h : wpAny (model prog w) A (eval iter c.env) (fun x s₁ => wpAny (model prog w) A (pyIter x) (fun it s₂ => ∃ I H2, it = .ref I ∧ St g B c m H2 s₂ ∧
      (∀ (B' : Heap) (c' : Cx) m' D s' (Q : Value → Shared → Prop) E, St g B' c' m' ((D, il []) :: H2) s' → Q (.ref I) s' → wpAny (model prog w) A (pyIter (.ref I)) Q E s') ∧
      (∀ (B' : Heap) (c' : Cx) D s', GW γ B' → c'.gs = gs → c'.cs = fc → St g B' c' (ls.map fun x => (x, V.any)) ((D, il []) :: H2) s' →
        codeAny (model prog w) A (.compLoop (.ListComp elt [⟨tgt, iter, ifs, 0⟩] scope pos) 0 (.ref I) (.ref D) c'.env) (fun r s5 => r = .ok .next ∧ ∃ m3 H3, St g B' c' m3 H3 s5 ∧ K D H3) s')) NoE s₁) NoE s)
    (k : ∀ D H3 s', St g B c (m' D) H3 s' → K D H3 → wpAny (model prog w) A (execs rest c.env) Q NoE s')
    (hs : ∀ x, foldedSetIterable iter c.env x = pure x := by intro _; rfl)
    (hline : (py.line == pos.line) = true := by rfl) (hnm : (!(scope.names.any fun (n, k) => n == y && (k == .local || k == .cell))) = true := by decide +kernel) :
    wpAny (model prog w) A (execs (.Assign [.Name y py] (.ListComp elt [⟨tgt, iter, ifs, 0⟩] scope pos) spos :: rest) c.env) Q NoE s := by
  obtain ⟨_, ⟨v0, hmem⟩, _⟩ := (hp 0).spec
  have hl := (S.kx.lo _ (List.mem_map_of_mem (f := (·.1)) hmem)).1
  have hsw : swapsWith (.ListComp elt [⟨tgt, iter, ifs, 0⟩] scope pos) (some (.Name y py)) spos.line c.env = pure true := by
    have hb : c.env.blockKind = .function := by
      unfold Env.blockKind
      rw [S.kx.kind]; rfl
    show pure (c.env.blockKind == .function && c.env.kindOf y == some .local && py.line == pos.line && !(scope.names.any fun (n, k) => n == y && (k == .local || k == .cell))) = pure true
    rw [hb, hl, hline, hnm]; rfl
  obtain ⟨n1, n2, n3⟩ := comp_names hchk
  have hclos : closureFor scope c.env = pure (clOf c.env scope.names []) := closure_cells fun x hx hl => by
    obtain ⟨p, hp, e⟩ := List.mem_map.mp (n3 x hx hl)
    exact ⟨p.2, by rw [← e]; exact (S.kx.cl p (hfc p hp)).2.1⟩
  refine wpAny_execs_cons ?_
  rw [exec_Assign_Name_used _ _ _ _ hsw]
  refine wpAny_bind (wpAny_standAt (wpAny_bind ?_))
  show wpAny _ A (do let _ ← comprehension (.ListComp elt [⟨tgt, iter, ifs, 0⟩] scope pos) scope c.env _ (newList []) false (eval iter c.env) (some (assign (.Name y py) c.env))) _ _ s
  refine wpAny_bind (wpAny_mono (wpAny_comprehension_free (use := some (assign (.Name y py) c.env)) (Q := fun _ s' => wpAny (model prog w) A (execs rest c.env) Q NoE s') rfl hs hclos n1 n2
    (wpAny_mono h (fun xv s₁ h₁ => wpAny_mono h₁ (fun it s₂ h₂ => ?_) fun _ _ e => e) fun _ _ e => e)) (fun _ s' hq => wpAny_pure (wpAny_pure hq)) fun _ _ e => e)
  obtain ⟨I, H2, rfl, S2, self, loop⟩ := h₂
  refine comp_block (RR := fun acc C => compPost (model prog w) A NoE (some (assign (.Name y py) c.env)) (fun _ s' => wpAny (model prog w) A (execs rest c.env) Q NoE s') acc C) G S2 ls gs fc K hchk hfc rfl self loop fun D C oC H3 s' hC S3 hK => ?_
  show wpAny _ A (assign (.Name y py) c.env (.ref D)) _ _ _
  refine wpAny_assign_Name (st_loc S3 (hp D) rfl fun s4 S4 => ?_)
  obtain ⟨ob, e1, e2⟩ := S4.get (.head _)
  have e2' : ob = oC := e2
  subst e2'
  obtain ⟨mC, hN⟩ := hC _ e1
  exact ⟨mC, hN, fun h' hs' => k D H3 _ (S4.hideC hs') hK⟩
end
end

section
open PySem PySem.Calls PySem.W
section
variable {prog : Program} {w : World} {g s : Shared} {B : Heap} {c : Cx} {m : Loc} {H : Led} {A : Around} {E : Value → Shared → Prop} {γ : Gl}

/-- a head part of the ledger turns and may grow -/
theorem St.redo {h' : Heap} {tk : Nat} {H1 H2 : Led} (S : St g B c m (H1 ++ H) s) (hk : ∀ b o, b ∉ H1.map (·.1) → s.heap.get? b = some o → h'.get? b = some o)
    (hl : ∀ p ∈ H2, (∃ o, h'.get? p.1 = some o ∧ p.2.Is o) ∧ (p.1 ∈ H1.map (·.1) ∨ s.heap.objs.size ≤ p.1)) (nd : (H2.map (·.1)).Nodup) : St g B c m (H2 ++ H) { s with heap := h', toks := tk } := by
  have ndS := S.nd
  rw [List.map_append, List.nodup_append] at ndS
  obtain ⟨n1, n2, n3⟩ := ndS
  have SH : St g B c m H s := S.mono (fun p hp => List.mem_append_right _ hp) n2
  have S2 := SH.others (h' := h') (tk := tk) fun b o e hb => hk b o (fun q => by
    obtain ⟨p, hp, rfl⟩ := List.mem_map.mp q
    have := S.led p (List.mem_append_left _ hp)
    rcases hb with hb | hb | hb
    · rw [this.2.2] at hb; cases hb
    · exact this.2.1 hb
    · exact n3 _ q _ hb rfl) e
  refine ⟨S2.same, S2.fr, fun p hp => ?_, ?_, S2.kx⟩
  · rcases List.mem_append.mp hp with hp | hp
    · obtain ⟨h1, h2⟩ := hl p hp
      refine ⟨h1, ?_⟩
      rcases h2 with h2 | h2
      · obtain ⟨q, hq, e⟩ := List.mem_map.mp h2
        have := (S.led q (List.mem_append_left _ hq)).2
        rw [e] at this; exact this
      · refine ⟨Nat.ne_of_gt (Nat.lt_of_lt_of_le S.lt h2), ?_⟩
        cases qq : B.get? p.1 with
        | none => rfl
        | some o' => exact absurd (Heap.lt_size (S.base _ _ qq)) (Nat.not_lt.mpr h2)
    · exact S2.led p hp
  · rw [List.map_append, List.nodup_append]
    refine ⟨nd, n2, fun a ha b hb e => ?_⟩
    subst e
    obtain ⟨p, hp, rfl⟩ := List.mem_map.mp ha
    rcases (hl p hp).2 with h2 | h2
    · exact n3 _ h2 _ hb rfl
    · exact SH.fresh h2 hb

/-! zip of two lists -/

noncomputable def zipO (TI TO : Addr) : O := .obj { cls := .type "zip", dict := none, data := .fields #[.none, .bool false, .bool false, .ref TI, .ref TO], slots := #[] }
noncomputable def pairO (a b : Value) : O := .obj { cls := .type "tuple", data := .seq #[a, b] }
noncomputable def somePair : O := .pred fun o => ∃ a b : Value, o = { cls := .type "tuple", data := .seq #[a, b] }
noncomputable def zipIts (z TI TO i1 i2 l1 l2 : Addr) (i : Nat) : Led := [(z, zipO TI TO), (TI, pairO (.ref i1) (.ref i2)), (TO, somePair), (i1, listIt l1 i), (i2, listIt l2 i)]

theorem itr_zip (hA : A.handled = none) (z TI TO i1 i2 l1 l2 : Addr) (vs us : List V) (x y : Str) (px py p : Pos) (q : Nat) (hlen : us.length = vs.length) :
    Itr prog w A g B c (.Tuple [.Name x px, .Name y py] q p) z vs.length (zipIts z TI TO i1 i2 l1 l2) (fun i m m' => ∀ v u, vs[i]? = some v → us[i]? = some u → ∃ m1, Put m x v m1 ∧ Put m1 y u m') (fun H => (l1, O.list vs) ∈ H ∧ (l2, O.list us) ∈ H) where
  item := fun i m m' H s hi hc S hu => by
    obtain ⟨hc1, hc2⟩ := hc
    have nd := S.nd
    have g1 := S.get (a := z) (o := zipO TI TO) (.head _)
    have g2 := S.get (a := TI) (o := pairO (.ref i1) (.ref i2)) (.tail _ (.head _))
    have g3 := S.get (a := TO) (o := somePair) (.tail _ (.tail _ (.head _)))
    have g4 := S.get (a := i1) (o := listIt l1 i) (.tail _ (.tail _ (.tail _ (.head _))))
    have g5 := S.get (a := i2) (o := listIt l2 i) (.tail _ (.tail _ (.tail _ (.tail _ (.head _)))))
    obtain ⟨o1, a1, e1⟩ := g1
    obtain ⟨o2, a2, e2⟩ := g2
    obtain ⟨o3, a3, va, vb, e3⟩ := g3
    obtain ⟨o4, a4, e4, e4'⟩ := g4
    obtain ⟨o5, a5, e5, e5'⟩ := g5
    cases e1; cases e2; subst e3
    obtain ⟨xs, n, hg, hl, ha, hb, hlx⟩ := S.isList (List.mem_append_right _ hc1)
    obtain ⟨ys, n', hg', hl', ha', hb', hly⟩ := S.isList (List.mem_append_right _ hc2)
    have off1 : l1 ∉ (zipIts z TI TO i1 i2 l1 l2 i).map (·.1) := fun qq => by
      rw [List.map_append, List.nodup_append] at nd
      exact nd.2.2 _ qq _ (List.mem_map_of_mem (f := (·.1)) hc1) rfl
    have off2 : l2 ∉ (zipIts z TI TO i1 i2 l1 l2 i).map (·.1) := fun qq => by
      rw [List.map_append, List.nodup_append] at nd
      exact nd.2.2 _ qq _ (List.mem_map_of_mem (f := (·.1)) hc2) rfl
    simp only [zipIts, List.map_cons, List.map_nil, List.mem_cons, List.not_mem_nil, or_false, not_or] at off1 off2
    have nd' := nd
    rw [List.map_append, List.nodup_append] at nd'
    have nd1 := nd'.1
    simp only [zipIts, List.map_cons, List.map_nil, List.nodup_cons, List.mem_cons, List.not_mem_nil, or_false, not_or, List.nodup_nil, and_true, not_false_eq_true] at nd1
    obtain ⟨⟨z1, z2, z3, z4⟩, ⟨t1, t2, t3⟩, ⟨u1, u2⟩, i12⟩ := nd1
    have D : ZipApart z TI TO i1 i2 l1 l2 := ⟨Ne.symm z1, Ne.symm z2, Ne.symm z3, Ne.symm z4, t1, t2, t3, u1, u2, i12, off1.1, off1.2.2.1, off1.2.2.2.1, off1.2.2.2.2, off2.1, off2.2.2.1, off2.2.2.2.1, off2.2.2.2.2⟩
    have hv : vs[i]? = some vs[i] := List.getElem?_eq_getElem hi
    have hi2 : i < us.length := by omega
    have huu : us[i]? = some us[i] := List.getElem?_eq_getElem hi2
    obtain ⟨m1, hu1, hu2⟩ := hu _ _ hv huu
    obtain ⟨xv, hx1, hx2⟩ := ha.get hv
    obtain ⟨yv, hy1, hy2⟩ := ha'.get huu
    refine wpAny_pyNext_zip_item D a1 a2 a3 ⟨o4, a4, e4, e4'⟩ ⟨o5, a5, e5, e5'⟩ hl hl' (by simpa using hx1) (by simpa using hy1) fun h' b1 b2 b3 b4 b5 b6 hk => ⟨_, rfl, ?_⟩
    refine wpAny_letOwnedTupleGo_zip b1 fun h'' c1 c2 => ?_
    obtain ⟨o4', d4, f4, f4'⟩ := b3
    obtain ⟨o5', d5, f5, f5'⟩ := b4
    have up : ∀ b o, b ≠ z → h'.get? b = some o → h''.get? b = some o := fun b o n1 e1 => (c2.2 b n1).trans e1
    have hzlt : s.heap.objs.size ≠ z := Nat.ne_of_gt (Heap.lt_size a1)
    have S1 : St g B c m ((s.heap.objs.size, O.tup [vs[i], us[i]]) :: zipIts z TI TO i1 i2 l1 l2 (i + 1) ++ H) { s with heap := h'', toks := s.toks } := by
      refine S.redo (fun b o hb e => ?_) (fun p hp => ?_) ?_
      · simp only [zipIts, List.map_cons, List.map_nil, List.mem_cons, List.not_mem_nil, or_false, not_or] at hb
        exact up _ _ hb.1 (hk _ _ hb.1 hb.2.2.1 hb.2.2.2.1 hb.2.2.2.2 e)
      · rcases List.mem_cons.mp hp with rfl | hp
        · exact ⟨⟨_, up _ _ hzlt b5, by simp [bigN], [xv, yv], 0, rfl, hx2, hy2, trivial⟩, .inr (Nat.le_refl _)⟩
        rcases List.mem_cons.mp hp with rfl | hp
        · exact ⟨⟨_, c1, rfl⟩, .inl (.head _)⟩
        rcases List.mem_cons.mp hp with rfl | hp
        · exact ⟨⟨_, up _ _ (Ne.symm z1) (hk _ _ (Ne.symm z1) t1 t2 t3 a2), rfl⟩, .inl (.tail _ (.head _))⟩
        rcases List.mem_cons.mp hp with rfl | hp
        · exact ⟨⟨_, up _ _ (Ne.symm z2) b2, _, _, rfl⟩, .inl (.tail _ (.tail _ (.head _)))⟩
        rcases List.mem_cons.mp hp with rfl | hp
        · exact ⟨⟨_, up _ _ (Ne.symm z3) d4, f4, f4'⟩, .inl (.tail _ (.tail _ (.tail _ (.head _))))⟩
        rcases List.mem_cons.mp hp with rfl | hp
        · exact ⟨⟨_, up _ _ (Ne.symm z4) d5, f5, f5'⟩, .inl (.tail _ (.tail _ (.tail _ (.tail _ (.head _)))))⟩
        · cases hp
      · rw [List.map_cons, List.nodup_cons]
        have := S.fresh (Nat.le_refl s.heap.objs.size)
        rw [List.map_append, List.mem_append, not_or] at this
        exact ⟨this.1, nd'.1⟩
    refine asg_two hA S1 (.head _) hu1 hu2 fun s3 S3 => S3.tail
  done := fun m H s hc S => by
    obtain ⟨hc1, hc2⟩ := hc
    have nd := S.nd
    have g1 := S.get (a := z) (o := zipO TI TO) (.head _)
    have g2 := S.get (a := TI) (o := pairO (.ref i1) (.ref i2)) (.tail _ (.head _))
    have g3 := S.get (a := TO) (o := somePair) (.tail _ (.tail _ (.head _)))
    have g4 := S.get (a := i1) (o := listIt l1 vs.length) (.tail _ (.tail _ (.tail _ (.head _))))
    have g5 := S.get (a := i2) (o := listIt l2 vs.length) (.tail _ (.tail _ (.tail _ (.tail _ (.head _)))))
    obtain ⟨o1, a1, e1⟩ := g1
    obtain ⟨o2, a2, e2⟩ := g2
    obtain ⟨o3, a3, va, vb, e3⟩ := g3
    obtain ⟨o4, a4, e4, e4'⟩ := g4
    obtain ⟨o5, a5, e5, e5'⟩ := g5
    cases e1; cases e2; subst e3
    obtain ⟨xs, n, hg, hl, ha, hb, hlx⟩ := S.isList (List.mem_append_right _ hc1)
    obtain ⟨ys, n', hg', hl', ha', hb', hly⟩ := S.isList (List.mem_append_right _ hc2)
    have off1 : l1 ∉ (zipIts z TI TO i1 i2 l1 l2 vs.length).map (·.1) := fun qq => by
      rw [List.map_append, List.nodup_append] at nd
      exact nd.2.2 _ qq _ (List.mem_map_of_mem (f := (·.1)) hc1) rfl
    have off2 : l2 ∉ (zipIts z TI TO i1 i2 l1 l2 vs.length).map (·.1) := fun qq => by
      rw [List.map_append, List.nodup_append] at nd
      exact nd.2.2 _ qq _ (List.mem_map_of_mem (f := (·.1)) hc2) rfl
    simp only [zipIts, List.map_cons, List.map_nil, List.mem_cons, List.not_mem_nil, or_false, not_or] at off1 off2
    have nd' := nd
    rw [List.map_append, List.nodup_append] at nd'
    have nd1 := nd'.1
    simp only [zipIts, List.map_cons, List.map_nil, List.nodup_cons, List.mem_cons, List.not_mem_nil, or_false, not_or, List.nodup_nil, and_true, not_false_eq_true] at nd1
    obtain ⟨⟨z1, z2, z3, z4⟩, ⟨t1, t2, t3⟩, ⟨u1, u2⟩, i12⟩ := nd1
    have D : ZipApart z TI TO i1 i2 l1 l2 := ⟨Ne.symm z1, Ne.symm z2, Ne.symm z3, Ne.symm z4, t1, t2, t3, u1, u2, i12, off1.1, off1.2.2.1, off1.2.2.2.1, off1.2.2.2.2, off2.1, off2.2.2.1, off2.2.2.2.1, off2.2.2.2.2⟩
    refine wpAny_pyNext_zip_end hA D a1 a2 a3 ⟨o4, a4, e4, e4'⟩ ⟨o5, a5, e5, e5'⟩ hl hl' (.inl (by simp [hlx])) fun h' hk => ⟨rfl, ?_⟩
    have := S.redo (H2 := []) (tk := s.toks) (h' := h') (fun b o hb e => by
      simp only [zipIts, List.map_cons, List.map_nil, List.mem_cons, List.not_mem_nil, or_false, not_or] at hb
      exact hk _ _ hb.1 hb.2.2.1 hb.2.2.2.1 hb.2.2.2.2 e) (fun p hp => by cases hp) List.nodup_nil
    exact this

theorem ev_zip {e1 e2 : Expr} {p p' : Pos} {l1 l2 : Addr} {vs us : List V} {Q : Value → Shared → Prop} (G : GW γ B) (S : St g B c m H s) (hr : Str.ofString "zip" ∈ c.gs) (P : PXs c m H [e1, e2] [.val (.ref l1), .val (.ref l2)]) (hm1 : (l1, O.list vs) ∈ H) (hm2 : (l2, O.list us) ∈ H)
    (k : ∀ z TI TO i1 i2 s', St g B c m (zipIts z TI TO i1 i2 l1 l2 0 ++ H) s' → Q (.ref z) s') :
    wpAny (model prog w) A (eval (.Call (.Name (Str.ofString "zip") p) [e1, e2] [] p') c.env) (fun x s₁ => wpAny (model prog w) A (pyIter x) Q E s₁) E s := by
  refine ev_type G S hr (by decide) boot_zip (by decide) P fun xs s1 hx S1 => ?_
  obtain ⟨x1, x2, rfl, h1, h2⟩ := hx.l2
  ·
    cases h1; cases h2
    obtain ⟨xs, n, hg, hl, ha, hb, hlen⟩ := S1.isList hm1
    obtain ⟨ys, n2, hg2, hl2, ha2, hb2, hlen2⟩ := S1.isList hm2
    refine call_zip_2 hl hl2 fun h' b1 b2 b3 b4 b5 b6 hk => wpAny_pyIter_zip b1 ?_
    obtain ⟨o4, d4, f4, f4'⟩ := b4
    obtain ⟨o5, d5, f5, f5'⟩ := b5
    refine k _ (s1.heap.objs.size + 2) (s1.heap.objs.size + 3) s1.heap.objs.size (s1.heap.objs.size + 1) _ ?_
    refine St.redo (H1 := []) (tk := s1.toks) S1 (fun b o _ e => hk b o e) (fun p hp => ?_) ?_
    · rcases List.mem_cons.mp hp with rfl | hp
      · exact ⟨⟨_, b1, rfl⟩, .inr (by show _ ≤ _ + 4; omega)⟩
      rcases List.mem_cons.mp hp with rfl | hp
      · exact ⟨⟨_, b2, rfl⟩, .inr (by show _ ≤ _ + 2; omega)⟩
      rcases List.mem_cons.mp hp with rfl | hp
      · exact ⟨⟨_, b3, _, _, rfl⟩, .inr (by show _ ≤ _ + 3; omega)⟩
      rcases List.mem_cons.mp hp with rfl | hp
      · exact ⟨⟨_, d4, f4, f4'⟩, .inr (Nat.le_refl _)⟩
      rcases List.mem_cons.mp hp with rfl | hp
      · exact ⟨⟨_, d5, f5, f5'⟩, .inr (by show _ ≤ _ + 1; omega)⟩
      · cases hp
    · simp only [zipIts, List.map_cons, List.map_nil, List.nodup_cons, List.mem_cons, List.not_mem_nil, or_false, not_or, List.nodup_nil, and_true, not_false_eq_true]
      have hN : ∀ N : Nat, (¬N + 4 = N + 2 ∧ ¬N + 4 = N + 3 ∧ ¬N + 4 = N ∧ ¬N + 4 = N + 1) ∧ (¬N + 2 = N + 3 ∧ ¬N + 2 = N ∧ ¬N + 2 = N + 1) ∧ (¬N + 3 = N ∧ ¬N + 3 = N + 1) ∧ ¬N = N + 1 := fun N => by omega
      exact hN _

/-! a call over a part of the ledger -/

theorem call_part {t : Sem Value} {Post : Value → Led → Prop} {Q : Value → Shared → Prop} {C R : Led} (S : St g B c m (C ++ R) s)
    (T : ∀ B', (∀ b o, B.get? b = some o → B'.get? b = some o) → LS g B' R s → wpAny (model prog w) A t (fun v s' => ∃ H', LS g B' H' s' ∧ Post v H') (fun _ _ => False) s)
    (k : ∀ v s' R', St g B c m (C ++ R') s' → Post v R' → Q v s') : wpAny (model prog w) A t Q E s := by
  obtain ⟨mm, F, hm⟩ := S.fr
  obtain ⟨oL, es, ep, hL, hLd, hLk, hLf⟩ := id F.ns
  have ndS := S.nd
  rw [List.map_append, List.nodup_append] at ndS
  obtain ⟨n1, n2, n3⟩ := ndS
  have nB : ∀ b o, B.get? b = some o → b ∉ R.map (·.1) := fun b o e q => by
    obtain ⟨p, hp, rfl⟩ := List.mem_map.mp q
    have := (S.led p (List.mem_append_right _ hp)).2.2
    rw [this] at e; cases e
  have nL : c.L ∉ R.map (·.1) := fun q => by
    obtain ⟨p, hp, e⟩ := List.mem_map.mp q
    exact (S.led p (List.mem_append_right _ hp)).2.1 e
  have up : ∀ b o, B.get? b = some o → (PySem.W.hideAll s.heap (R.map (·.1))).get? b = some o := fun b o e => PySem.W.hideAll_get _ (F.keep b o e) (nB b o e)
  have hL' := PySem.W.hideAll_get (R.map (·.1)) hL nL
  have hC : ∀ p ∈ C, ∃ o, (PySem.W.hideAll s.heap (R.map (·.1))).get? p.1 = some o ∧ p.2.Is o := fun p hp => by
    obtain ⟨⟨o, h1, h2⟩, _⟩ := S.led p (List.mem_append_left _ hp)
    exact ⟨o, PySem.W.hideAll_get _ h1 (fun q => n3 _ (List.mem_map_of_mem (f := (·.1)) hp) _ q rfl), h2⟩
  have Q1 := T (PySem.W.hideAll s.heap (R.map (·.1))) up ⟨S.same, fun b o e => PySem.W.of_hideAll _ e,
    fun p hp => ⟨(S.led p (List.mem_append_right _ hp)).1, PySem.W.hideAll_none _ (List.mem_map_of_mem hp)⟩, n2, Nat.le_of_eq (PySem.W.hideAll_size _ _)⟩
  refine wpAny_mono Q1 (fun v s' h => ?_) (fun _ _ h => h.elim)
  obtain ⟨H', S', P⟩ := h
  refine k v s' H' ⟨S'.same, ⟨mm, ⟨⟨oL, es, ep, S'.base _ _ hL', hLd, hLk, hLf⟩, fun b o e => S'.base b o (up b o e), F.above⟩, hm⟩, fun p hp => ?_, ?_, S.kx⟩ P
  · rcases List.mem_append.mp hp with hp | hp
    · obtain ⟨o, h1, h2⟩ := hC p hp
      exact ⟨⟨o, S'.base _ _ h1, h2⟩, (S.led p (List.mem_append_left _ hp)).2⟩
    · refine ⟨(S'.led p hp).1, fun q => ?_, ?_⟩
      · have := (S'.led p hp).2; rw [q, hL'] at this; cases this
      · cases q : B.get? p.1 with
        | none => rfl
        | some o => have := (S'.led p hp).2; rw [up _ _ q] at this; cases this
  · rw [List.map_append, List.nodup_append]
    refine ⟨n1, S'.nd, fun a ha b hb e => ?_⟩
    subst e
    obtain ⟨p, hp, rfl⟩ := List.mem_map.mp ha
    obtain ⟨q, hq, e⟩ := List.mem_map.mp hb
    obtain ⟨o, h1, _⟩ := hC p hp
    have := (S'.led q hq).2
    rw [e, h1] at this; cases this

theorem Spec.useC {n k : Nat} {f : Value} {vals : List Value} {Post : Value → Led → Prop} {Q : Value → Shared → Prop} (C R : Led) (T : Spec prog w g γ n f vals R Post)
    (G : GW γ B) (hA : AOk A k) (hk : n ≤ k) (S : St g B c m (C ++ R) s) (h : ∀ v s' R', St g B c m (C ++ R') s' → Post v R' → Q v s') : wpAny (model prog w) A (call f vals) Q E s :=
  call_part S (fun B' hB L' => T A s B' (hA.le hk) (G.keeps hB) L') h

/-! comprehensions over an iterator -/

theorem list_append_St {a : Addr} {vs : List V} {v : V} {val : Value} {H' : Led} {Q : Value → Shared → Prop} (S : St g B c m H s) (hm : (a, O.list vs) ∈ H) (hsz : vs.length < bigN) (hp : Put H a (.list (vs ++ [v])) H') (hv : v.Is (some val))
    (k : ∀ r s', St g B c m H' s' → Q r s') : wpAny (model prog w) A (call (.builtin "list.append") [.ref a, val]) Q E s := by
  obtain ⟨xs, n, hg, hl, ha, hb, hlen⟩ := S.isList hm
  have hbig : bigN = 100000 := rfl
  refine wpAny_list_append_plain ⟨n, hg⟩ (fun h' hpl hsb => ?_) (by rw [List.size_toArray, hlen]; have := sizeLine_eq; omega)
  obtain ⟨n', e'⟩ := hpl
  exact k _ _ (S.turn hp hsb e' ⟨by rw [List.length_append, List.length_singleton]; omega, xs ++ [val], n', by simp, ha.append ⟨hv, trivial⟩⟩)

theorem put_mid {D : Addr} {o o' : O} : ∀ {I : Led} {H : Led}, Put (I ++ (D, o) :: H) D o' (I ++ (D, o') :: H)
  | [], _ => .head
  | _ :: _, _ => .tail put_mid

theorem comp_core {elt tgt iter : Expr} {scope : Scope} {pos : Pos} {I D : Addr} {n : Nat} {its : Nat → Led} {upd : Nat → Loc → Loc → Prop} {cond : Led → Prop} (T : Itr prog w A g B c tgt I n its upd cond)
    (m0 : Loc) (M' : Nat → Loc) (F : Nat → List V → Led → Prop) (hn : n < bigN)
    (hc : ∀ i vs H, F i vs H → cond ((D, O.list vs) :: H)) (hu : ∀ i, i < n → upd i m0 (M' i)) {H0 : Led} (S : St g B c m0 (its 0 ++ (D, il []) :: H0) s) (h0 : F 0 [] H0)
    (turn : ∀ i vs H s, i < n → F i vs H → St g B c (M' i) (its (i + 1) ++ (D, O.list vs) :: H) s → wpAny (model prog w) A (eval elt c.env)
      (fun x s' => ∃ v m1 H', v.Is (some x) ∧ Weak m1 m0 ∧ St g B c m1 (its (i + 1) ++ (D, O.list vs) :: H') s' ∧ F (i + 1) (vs ++ [v]) H') NoE s) :
    codeAny (model prog w) A (.compLoop (.ListComp elt [⟨tgt, iter, [], 0⟩] scope pos) 0 (.ref I) (.ref D) c.env)
      (fun r s5 => r = .ok .next ∧ ∃ m3 H3, St g B c m3 H3 s5 ∧ ∃ vs H, H3 = (D, O.list vs) :: H ∧ vs.length = n ∧ F n vs H) s := by
  refine compLoop_g (fun left s => ∃ i vs H, left + i = n ∧ vs.length = i ∧ F i vs H ∧ St g B c m0 (its i ++ (D, O.list vs) :: H) s) (fun left s hI => ?_) n ⟨0, [], H0, by omega, rfl, h0, S⟩
  obtain ⟨i, vs, H, hl, hlen, hF, S1⟩ := hI
  rcases Nat.lt_or_ge i n with hi | hi
  · refine wpAny_mono (T.item i m0 (M' i) _ s hi (hc i vs H hF) S1 (hu i hi)) (fun r s₁ hr => ?_) fun _ _ e => e.elim
    obtain ⟨v, rfl, hr⟩ := hr
    refine wpAny_mono hr (fun _ s₂ hr => wpAny_mono hr (fun _ s₃ S3 => ?_) fun _ _ e => e) fun _ _ e => e
    refine wpAny_mono (turn i vs H s₃ hi hF S3) (fun x s₄ hx => ?_) fun _ _ e => e
    obtain ⟨v, m1, H', hv, hw, S4, hF'⟩ := hx
    refine list_append_St S4 (List.mem_append_right _ (.head _)) (by omega) put_mid hv fun r s5 S5 => ⟨left - 1, by omega, i + 1, vs ++ [v], H', by omega, by simp [hlen], hF', S5.weak hw.spec.1 hw.spec.2⟩
  · have e : i = n := by omega
    subst e
    refine wpAny_mono (T.done m0 _ s (hc i vs H hF) S1) (fun r s' hr => ?_) fun _ _ e => e.elim
    obtain ⟨rfl, S2⟩ := hr
    exact ⟨rfl, _, _, S2, vs, H, rfl, hlen, hF⟩
end
end

section
open PySem PySem.Calls PySem.W
/-- the weighted digits -/
noncomputable def wts (b : Int) (ns : List Int) (i : Nat) : List Int := (List.range i).map fun j => ns.getD j 0 * b ^ j
theorem wts_succ {b : Int} {ns : List Int} {i : Nat} : wts b ns (i + 1) = wts b ns i ++ [ns.getD i 0 * b ^ i] := by
  unfold wts; rw [List.range_succ, List.map_append]; rfl
theorem sum_snoc {l : List Int} {x : Int} : (l ++ [x]).sum = l.sum + x := by
  induction l with
  | nil => simp
  | cons y r ih => rw [List.cons_append, List.sum_cons, List.sum_cons, ih, Int.add_assoc]
theorem wts_sum {b : Int} {ns : List Int} : ∀ i, (wts b ns i).sum = vl b (ns.take i)
  | 0 => by simp [wts, vl]
  | i + 1 => by rw [wts_succ, sum_snoc, wts_sum i, vl_take_succ, Int.mul_comm]

section
variable {prog : Program} {w : World} {g s : Shared} {B : Heap} {c : Cx} {m : Loc} {H : Led} {A : Around} {E : Value → Shared → Prop} {γ : Gl}

theorem ev_builtin1 {x : Str} {id : String} {e : Expr} {p p' : Pos} {Q : Value → Shared → Prop} (G : GW γ B) (S : St g B c m H s) (hx : x ∈ c.gs) (hu : x ∈ usedBuiltins) (hb : bootBuiltins x = some (.builtin id)) (hn : x ≠ "__name__")
    (h : wpAny (model prog w) A (eval e c.env) (fun v s₁ => wpAny (model prog w) A (call (.builtin id) [v]) Q E s₁) E s) (hs : ∀ env, starEach [e] env = [(false, eval e env)] := by intro _; rfl) : wpAny (model prog w) A (eval (.Call (.Name x p) [e] [] p') c.env) Q E s := by
  refine wpAny_Call_Name_kw (ld_builtin G S hx hu hb hn ?_)
  rw [hs]
  refine callWith_builtin rfl (evalArgs_plain (spliced_cons (wpAny_mono h (fun v s₁ hq => spliced_nil ?_) fun _ _ e => e)))
  simpa using hq

theorem ev_type1 {x : Str} {T : String} {e : Expr} {p p' : Pos} {Q : Value → Shared → Prop} (G : GW γ B) (S : St g B c m H s) (hx : x ∈ c.gs) (hu : x ∈ usedBuiltins) (hb : bootBuiltins x = some (.type T)) (hn : x ≠ "__name__")
    (h : wpAny (model prog w) A (eval e c.env) (fun v s₁ => wpAny (model prog w) A (call (.type T) [v]) Q E s₁) E s) (hs : ∀ env, starEach [e] env = [(false, eval e env)] := by intro _; rfl) : wpAny (model prog w) A (eval (.Call (.Name x p) [e] [] p') c.env) Q E s := by
  refine wpAny_Call_Name_kw (ld_builtin G S hx hu hb hn ?_)
  rw [hs]
  refine callWith_type rfl (evalArgs_plain (spliced_cons (wpAny_mono h (fun v s₁ hq => spliced_nil ?_) fun _ _ e => e)))
  simpa using hq

theorem sum_St {l : Addr} {ns : List Int} {Q : Value → Shared → Prop} (hA : A.handled = none) (S : St g B c m H s) (hm : (l, il ns) ∈ H) (k : ∀ t s', St g B c m H s' → Q (.int ns.sum t) s') : wpAny (model prog w) A (call (.builtin "sum") [.ref l]) Q E s := by
  obtain ⟨xs, n, hg, hl, ha, hb, hlen⟩ := S.isList hm
  have hI := ha.intsAre
  obtain ⟨ys, e⟩ := hI.allInts.items
  have e2 := hI.numsOf
  have e3 : xs = (intItems ys).toList := by rw [← e]
  rw [e3, nums_intItems] at e2
  rw [e] at hl
  refine sum_intListG hA hl fun h' tk t' hk => ?_
  have := k t' _ (S.keeps (h' := h') (tk := tk) hk)
  rw [preSum_eq, List.take_of_length_le (by simp), e2]; exact this

theorem enum_self {e it l : Addr} {i : Nat} {Q : Value → Shared → Prop} (S : St g B c m H s) (hm : (e, enumIt e it i) ∈ H) (h : Q (.ref e) s) : wpAny (model prog w) A (pyIter (.ref e)) Q E s := by
  obtain ⟨ob, h1, old, h2⟩ := S.get hm
  subst h2
  exact wpAny_pyIter_enum h1 h

theorem number_spec (T : Top γ) {k b n : Nat} (hB : Bs k b) {H : Led} {a : Addr} (hm : (a, il (lb b n)) ∈ H) (hn : n < 2 ^ 60) :
    SpecV prog w g γ 1 44 [.val (.ref a), .int k] H (fun v H' => (∃ t, v = .int n t) ∧ ∀ p ∈ H, p ∈ H') := by
  refine def_specC T 44 0 [(Str.ofString "row"), (Str.ofString "w")] [.val (.ref a), .int k] [((Str.ofString "row"), .val (.ref a))] [((Str.ofString "w"), .int k)] [(Str.ofString "row")] [(Str.ofString "w")] [(Str.ofString "sum"), (Str.ofString "enumerate")] rfl (fun cx A B s1 as hA G hgs has hcs S1 => ?_) (by decide +kernel) rfl rfl rfl (by walk_at "hmc") (by walk_at "hmc") (by intro k; rfl) (by walk_at "bnd")
  obtain ⟨aw, rfl⟩ := len1 has
  replace hcs : cx.cs = [((Str.ofString "w"), aw)] := hcs
  have hc0 : ((Str.ofString "w"), aw) ∈ cx.cs := by rw [hcs]; walk_at "mem"
  replace S1 : St g B cx [((Str.ofString "row"), .val (.ref a))] ((aw, O.cell (.int k)) :: H) s1 := S1
  have hg0 : (Str.ofString "sum") ∈ cx.gs := by rw [hgs]; walk_at "mem"
  have hg1 : (Str.ofString "enumerate") ∈ cx.gs := by rw [hgs]; walk_at "mem"
  clear hgs
  have hb2 := hB.two
  have hbhi := hB.hi
  have hk2 := hB.k2
  have hi := hB.i
  have hln := hB.len (n := n) (by omega)
  refine x_retG (ev_builtin1 G S1 hg0 (by decide) boot_sum (by decide) ?_)
  refine ev_comp G S1 [(Str.ofString "at"), (Str.ofString "limb")] [] [((Str.ofString "w"), aw)] (fun D H3 => ∃ H', H3 = (D, il (wts b (lb b n) (lb b n).length)) :: H' ∧ ∀ p ∈ H, p ∈ H') (by show chkComp _ _ _ [(Str.ofString "w")] = true; decide +kernel) (fun p hp => by rw [hcs]; exact hp) (ev_enum (vs := (lb b n).map V.int) G S1 hg1 (by walk_at "pxs") (.tail _ hm) fun e it s2 S2 => ?_) (fun D H3 s2 S2 hK => ?_)
  · refine ⟨e, _, rfl, S2, fun B' c' m' D s' Q E S' hq => enum_self (l := a) S' (.tail _ (.head _)) hq, fun B' c' D s' G' hgs' hcs' S' => ?_⟩
    have T' := itr_enum (prog := prog) (w := w) (g := g) (B := B') (c := c') hA.hd e it a ((lb b n).map V.int) (Str.ofString "at") (Str.ofString "limb") ⟨248, 41, 248, 43⟩ ⟨248, 45, 248, 49⟩ ⟨248, 41, 248, 49⟩ 0
    rw [il_length] at T'
    have hfw : ((Str.ofString "w"), aw) ∈ c'.cs := by rw [hcs']; exact .head _
    refine codeAny_mono (comp_core T' [((Str.ofString "at"), V.any), ((Str.ofString "limb"), V.any)] (fun i => [((Str.ofString "at"), .int i), ((Str.ofString "limb"), .int ((lb b n).getD i 0))]) (fun i vs H' => vs = (wts b (lb b n) i).map V.int ∧ H' = (aw, O.cell (V.int k)) :: H) (by unfold bigN; omega)
      (fun i vs H' hF => by rw [hF.2]; exact .tail _ (.tail _ hm)) (fun i hi => ?_) (S'.perm (List.perm_middle (l₁ := [(e, enumIt e it 0), (it, listIt a 0)])).symm) ⟨rfl, rfl⟩ (fun i vs H' s3 hi' hF S3 => ?_)) (fun r s5 h5 => ?_)
    · intro v hv
      rw [getI (d := 0) hi] at hv
      cases hv
      exact ⟨_, by walk_at "put", by walk_at "put"⟩
    · obtain ⟨rfl, rfl⟩ := hF
      dsimp only [List.cons_append, List.nil_append] at S3
      have hlim := (lb_lim hb2 n).get (by omega) i
      have hik : k * i ≤ 8 * 64 := Nat.mul_le_mul hk2 (by omega)
      refine px_v G' S3 (v := .int ((lb b n).getD i 0 * 2 ^ (k * i))) (.bin (by walk_at "px") (.bin .int (.bin (by walk_at "px") (by walk_at "px") (.mul (by omega))) (.pow (k * i) (by rw [Int.natCast_mul]) (by omega) (by decide))) (.mul (by omega))) fun val s4 hv S4 => ?_
      refine ⟨_, _, _, hv, by walk_at "weak", S4, ?_, rfl⟩
      rw [wts_succ, List.map_append, Int.pow_mul, hi]; rfl
    · obtain ⟨h1, m3, H3, S5, vs, H', h2, h3, h4, h5⟩ := h5
      exact ⟨h1, m3, H3, S5, H', by rw [h2, h4]; rfl, by rw [h5]; exact fun p hp => .tail _ hp⟩
  · obtain ⟨H', rfl, hH⟩ := hK
    refine sum_St hA.hd S2 (.head _) fun t s3 S3 => ?_
    rw [wts_sum, List.take_of_length_le (Nat.le_refl _), lb_vl hb2] at *
    exact ⟨_, _, _, S3, ⟨t, rfl⟩, fun p hp => .tail _ (hH p hp)⟩
end
end

section
open PySem PySem.Calls PySem.W
section
variable {prog : Program} {w : World} {A : Around} {R : Result → Shared → Prop} {s : Shared}

theorem compLoop_i {elt target iter tst : Expr} {scope : Scope} {pos : Pos} {it acc : Value} {env : Env} (I : Nat → Shared → Prop)
    (turn : ∀ n s, I n s → wpAny (model prog w) A (pyNext it) (fun r s₁ => match r with
      | none => R (.ok .next) s₁
      | some v => wpAny (model prog w) A (letOwnedTupleGo target it v) (fun _ s₂ => wpAny (model prog w) A (assign target env v) (fun _ s₃ => wpAny (model prog w) A (isTrue tst env (eval tst env)) (fun b s₄ =>
          if b = true then wpAny (model prog w) A (eval elt env) (fun x s₅ =>
          wpAny (model prog w) A (call (.builtin "list.append") [acc, x]) (fun _ s₆ => ∃ m, m < n ∧ I m s₆) NoE s₅) NoE s₄ else ∃ m, m < n ∧ I m s₄) NoE s₃) NoE s₂) NoE s₁) NoE s)
    (n : Nat) (h : I n s) :
    codeAny (model prog w) A (.compLoop (.ListComp elt [⟨target, iter, [tst], 0⟩] scope pos) 0 it acc env) R s := by
  refine codeAny_loop rfl I (fun n s hI => ?_) n h
  show wpAny _ _ ((compTurn (.ListComp elt [⟨target, iter, [tst], 0⟩] scope pos) 0 it acc env).onRaise (fun x => do noteFrame x env; theTreesLotGoes x)) _ _ s
  refine wpAny_noted ?_
  rw [compTurn_list]
  refine wpAny_bind (wpAny_standAt (wpAny_bind (wpAny_mono (turn n s hI) (fun r s₁ h₁ => ?_) fun _ _ h' => h'.elim)))
  cases r with
  | none => exact wpAny_pure h₁
  | some v =>
    refine wpAny_bind (wpAny_mono h₁ (fun _ s₁ h₁ => wpAny_bind (wpAny_mono h₁ (fun _ s₂ h₂ => wpAny_bind (wpAny_tests_one (wpAny_mono h₂ (fun ok s₃ h₃ => ?_) fun _ _ h' => h'.elim))) fun _ _ h' => h'.elim)) fun _ _ h' => h'.elim)
    cases ok with
    | false => exact wpAny_pure ⟨rfl, h₃⟩
    | true =>
      exact wpAny_bind (wpAny_bind (wpAny_mono h₃ (fun x s₄ h₄ => wpAny_bind (wpAny_mono h₄ (fun _ s₅ h₅ => wpAny_pure (wpAny_pure ⟨rfl, h₅⟩)) fun _ _ h' => h'.elim)) fun _ _ h' => h'.elim))
end

section
variable {prog : Program} {w : World} {g s : Shared} {B : Heap} {c : Cx} {m : Loc} {H : Led} {A : Around} {E : Value → Shared → Prop} {γ : Gl}

theorem comp_coreI {elt tgt iter tst : Expr} {scope : Scope} {pos : Pos} {I D : Addr} {n : Nat} {its : Nat → Led} {upd : Nat → Loc → Loc → Prop} {cond : Led → Prop} (T : Itr prog w A g B c tgt I n its upd cond)
    (m0 : Loc) (M' : Nat → Loc) (F : Nat → List V → Led → Prop) (hn : n < bigN)
    (hc : ∀ i vs H, F i vs H → cond ((D, O.list vs) :: H)) (hu : ∀ i, i < n → upd i m0 (M' i)) {H0 : Led} (S : St g B c m0 (its 0 ++ (D, il []) :: H0) s) (h0 : F 0 [] H0)
    (turn : ∀ i vs H s, i < n → F i vs H → St g B c (M' i) (its (i + 1) ++ (D, O.list vs) :: H) s → wpAny (model prog w) A (isTrue tst c.env (eval tst c.env)) (fun b s₁ => if b = true then wpAny (model prog w) A (eval elt c.env)
      (fun x s' => ∃ v m1 H', v.Is (some x) ∧ Weak m1 m0 ∧ St g B c m1 (its (i + 1) ++ (D, O.list vs) :: H') s' ∧ F (i + 1) (vs ++ [v]) H') NoE s₁
      else ∃ m1 H', Weak m1 m0 ∧ St g B c m1 (its (i + 1) ++ (D, O.list vs) :: H') s₁ ∧ F (i + 1) vs H') NoE s) :
    codeAny (model prog w) A (.compLoop (.ListComp elt [⟨tgt, iter, [tst], 0⟩] scope pos) 0 (.ref I) (.ref D) c.env)
      (fun r s5 => r = .ok .next ∧ ∃ m3 H3, St g B c m3 H3 s5 ∧ ∃ vs H, H3 = (D, O.list vs) :: H ∧ vs.length ≤ n ∧ F n vs H) s := by
  refine compLoop_i (fun left s => ∃ i vs H, left + i = n ∧ vs.length ≤ i ∧ F i vs H ∧ St g B c m0 (its i ++ (D, O.list vs) :: H) s) (fun left s hI => ?_) n ⟨0, [], H0, by omega, Nat.le_refl _, h0, S⟩
  obtain ⟨i, vs, H, hl, hlen, hF, S1⟩ := hI
  rcases Nat.lt_or_ge i n with hi | hi
  · refine wpAny_mono (T.item i m0 (M' i) _ s hi (hc i vs H hF) S1 (hu i hi)) (fun r s₁ hr => ?_) fun _ _ e => e.elim
    obtain ⟨v, rfl, hr⟩ := hr
    refine wpAny_mono hr (fun _ s₂ hr => wpAny_mono hr (fun _ s₃ S3 => ?_) fun _ _ e => e) fun _ _ e => e
    refine wpAny_mono (turn i vs H s₃ hi hF S3) (fun b s₄ hx => ?_) fun _ _ e => e
    cases b with
    | false =>
      obtain ⟨m1, H', hw, S4, hF'⟩ := hx
      exact ⟨left - 1, by omega, i + 1, vs, H', by omega, by omega, hF', S4.weak hw.spec.1 hw.spec.2⟩
    | true =>
      refine wpAny_mono hx (fun x s₄ hx => ?_) fun _ _ e => e
      obtain ⟨v, m1, H', hv, hw, S4, hF'⟩ := hx
      refine list_append_St S4 (List.mem_append_right _ (.head _)) (by omega) put_mid hv fun r s5 S5 => ⟨left - 1, by omega, i + 1, vs ++ [v], H', by omega, by simp [hlen], hF', S5.weak hw.spec.1 hw.spec.2⟩
  · have e : i = n := by omega
    subst e
    refine wpAny_mono (T.done m0 _ s (hc i vs H hF) S1) (fun r s' hr => ?_) fun _ _ e => e.elim
    obtain ⟨rfl, S2⟩ := hr
    exact ⟨rfl, _, _, S2, vs, H, rfl, hlen, hF⟩

theorem range_self {I : Addr} {a b d : Int} {Q : Value → Shared → Prop} (S : St g B c m H s) (hm : (I, rangeIt a b d) ∈ H) (h : Q (.ref I) s) : wpAny (model prog w) A (pyIter (.ref I)) Q E s := by
  obtain ⟨ob, h1, h2⟩ := S.get hm
  have h2' : ob = _ := h2
  subst h2'
  exact wpAny_pyIter_rangeiter h1 h
theorem list_self {I l : Addr} {i : Nat} {Q : Value → Shared → Prop} (S : St g B c m H s) (hm : (I, listIt l i) ∈ H) (h : Q (.ref I) s) : wpAny (model prog w) A (pyIter (.ref I)) Q E s := by
  obtain ⟨ob, h1, h2, h3⟩ := S.get hm
  exact wpAny_pyIter_listiter ⟨ob, h1, h2, h3⟩ h
theorem zip_iter_self {z TI TO : Addr} {Q : Value → Shared → Prop} (S : St g B c m H s) (hm : (z, zipO TI TO) ∈ H) (h : Q (.ref z) s) : wpAny (model prog w) A (pyIter (.ref z)) Q E s := by
  obtain ⟨ob, h1, h2⟩ := S.get hm
  have h2' : ob = _ := h2
  subst h2'
  exact wpAny_pyIter_zip h1 h

/-- m != [ints] as a test -/
theorem t_neL {e : Expr} {es : List Expr} {p q : Pos} {a : Addr} {ns ms : List Int} {Q : Bool → Shared → Prop} (G : GW γ B) (hA : A.units + 64 < 9900) (S : St g B c m H s) (P : PX c m H false e (.val (.ref a))) (h1 : (a, il ns) ∈ H) (P2 : PXs c m H es (ms.map V.int)) (hsz : ms.length ≤ bigN)
    (k : ∀ r s', St g B c m ((r, il ms) :: H) s' → Q (!decide (ns = ms)) s') (hmk : behindInMarks .NotEq (.List es q) = false) :
    wpAny (model prog w) A (isTrue (.Compare e [.NotEq] [.List es q] p) c.env (eval (.Compare e [.NotEq] [.List es q] p) c.env)) Q E s :=
  wpAny_isTrue_Compare1 (px_u G S P fun s1 S1 => ev_listI G S1 P2 hsz fun r s2 S2 => cmp_rowsN hA S2 (.tail _ h1) (.head _) (wpAny_truthy_bool (k r s2 S2))) hmk

theorem inverse_spec (T : Top γ) {H : Led} {n mm : Nat} (hm0 : 0 < mm) (hm : mm < 2 ^ 16) (hn : n < 2 ^ 60) :
    SpecV prog w g γ 1 48 [.int n, .int mm] H (fun v H' => (v = .none ∨ ∃ (x : Nat) (t : Tok), v = .int x t ∧ x < mm ∧ n * x % mm = 1) ∧ ∀ p ∈ H, p ∈ H') := by
  refine def_specC T 48 0 [(Str.ofString "number"), (Str.ofString "m")] [.int n, .int mm] [((Str.ofString "some"), V.any)] [((Str.ofString "m"), .int mm), ((Str.ofString "number"), .int n)] [(Str.ofString "some")] [(Str.ofString "m"), (Str.ofString "number")] [(Str.ofString "range")] rfl (fun cx A B s1 as hA G hgs has hcs S1 => ?_) (by decide +kernel) rfl rfl rfl (by walk_at "hmc") (by walk_at "hmc") (by intro k; rfl) (by walk_at "bnd")
  obtain ⟨am, anumber, rfl⟩ := len2 has
  replace hcs : cx.cs = [((Str.ofString "m"), am), ((Str.ofString "number"), anumber)] := hcs
  have hc0 : ((Str.ofString "m"), am) ∈ cx.cs := by rw [hcs]; walk_at "mem"
  have hc1 : ((Str.ofString "number"), anumber) ∈ cx.cs := by rw [hcs]; walk_at "mem"
  replace S1 : St g B cx [((Str.ofString "some"), V.any)] ((am, O.cell (.int mm)) :: (anumber, O.cell (.int n)) :: H) s1 := S1
  have hg0 : (Str.ofString "range") ∈ cx.gs := by rw [hgs]; walk_at "mem"
  clear hgs
  have hbig : bigN = 100000 := rfl
  refine x_asgComp G S1 [(Str.ofString "one")] [] [((Str.ofString "m"), am), ((Str.ofString "number"), anumber)] (fun D H3 => ∃ ns : List Int, H3 = (D, il ns) :: (am, O.cell (.int mm)) :: (anumber, O.cell (.int n)) :: H ∧ ∀ x ∈ ns, ∃ y : Nat, x = y ∧ y < mm ∧ n * y % mm = 1)
    (by show chkComp _ _ _ [(Str.ofString "m"), (Str.ofString "number")] = true; decide +kernel) (fun p hp => by rw [hcs]; exact hp) (fun D => [((Str.ofString "some"), .val (.ref D))]) (fun D => by walk_at "put")
    (ev_range1 G S1 hg0 (by walk_at "pxs") (by omega) fun I s2 S2 => ?_) (fun D H3 s2 S2 hK => ?_) (hs := fun _ => rfl)
  · refine ⟨I, _, rfl, S2, fun B' c' m' D s' Q E S' hq => range_self S' (.tail _ (.head _)) hq, fun B' c' D s' G' hgs' hcs' S' => ?_⟩
    have T' := itr_range (prog := prog) (w := w) (g := g) (B := B') (c := c') hA.hd I (Str.ofString "one") ⟨285, 20, 285, 23⟩ 0 1 mm
    have hfn : ((Str.ofString "number"), anumber) ∈ c'.cs := by rw [hcs']; exact .tail _ (.head _)
    have hfm : ((Str.ofString "m"), am) ∈ c'.cs := by rw [hcs']; exact .head _
    have S'' := S'.perm (List.perm_middle (l₁ := [(I, rangeIt 0 mm 1)])).symm
    refine codeAny_mono (comp_coreI T' [((Str.ofString "one"), V.any)] (fun i => [((Str.ofString "one"), .int i)]) (fun i vs H' => ∃ ns : List Int, vs = ns.map V.int ∧ H' = (am, O.cell (V.int mm)) :: (anumber, O.cell (V.int n)) :: H ∧ ∀ x ∈ ns, ∃ y : Nat, x = y ∧ y < mm ∧ n * y % mm = 1) (by omega)
      (fun i vs H' hF => trivial) (fun i hi => ?_) (by simpa using S'') ⟨[], rfl, rfl, fun x hx => by cases hx⟩ (fun i vs H' s3 hi' hF S3 => ?_)) (fun r s5 h5 => ?_)
    · rw [Int.mul_one, Int.zero_add]; walk_at "put"
    · obtain ⟨ns, rfl, rfl, hns⟩ := hF
      dsimp only [List.cons_append, List.nil_append] at S3
      refine px_t G' S3 (b := decide ((n : Int) * i % mm = 1)) (.cmp (.bin (.bin (by walk_at "px") (by walk_at "px") (.mul (by omega))) (by walk_at "px") (.mod (by omega))) .int (.eq _ _) rfl) fun s4 S4 => ?_
      refine ite_b (fun hb => ?_) (fun hb => ?_)
      · refine px_v G' S4 (v := .int i) (by walk_at "px") fun val s5 hv S5 => ⟨_, _, _, hv, by walk_at "weak", S5, ns ++ [(i : Int)], by rw [List.map_append]; rfl, rfl, fun x hx => ?_⟩
        rcases List.mem_append.mp hx with hx | hx
        · exact hns x hx
        · refine ⟨i, by simpa using hx, hi', ?_⟩
          have := of_decide_eq_true hb
          rw [← Int.natCast_mul, ← Int.natCast_emod] at this
          omega
      · exact ⟨_, _, by walk_at "weak", S4, ns, rfl, rfl, hns⟩
    · obtain ⟨h1, m3, H3, S5, vs, H', h2, h3, ns, h4, h5, h6⟩ := h5
      exact ⟨h1, m3, H3, S5, ns, by rw [h2, h4, h5]; rfl, h6⟩
  · obtain ⟨ns, rfl, hns⟩ := hK
    refine x_retG (wpAny_IfExp (t_neL (ms := []) G hA.u64 S2 (by walk_at "px") (.head _) .nil (by decide) (fun r s3 S3 => ite_b (fun hb => ?_) fun hb => ?_) rfl))
    · have hne : ns ≠ [] := fun q => by rw [q] at hb; simp at hb
      have hpos : 0 < ns.length := List.length_pos_iff.mpr hne
      refine px_i G S3 (.itemI (a := D) (ns := ns) (by walk_at "px") .int (.tail _ (.head _)) (by decide) (by omega) (fun _ _ => rfl)) fun t s4 S4 => ?_
      obtain ⟨y, h1, h2, h3⟩ := hns (ns.getD 0 0) (by rw [List.getD_eq_getElem?_getD, List.getElem?_eq_getElem hpos]; exact List.getElem_mem hpos)
      refine ⟨_, _, _, S4, .inr ⟨y, t, by show Value.int (ns.getD 0 0) t = _; rw [h1], h2, h3⟩, fun p hp => .tail _ (.tail _ (.tail _ (.tail _ hp)))⟩
    · refine px_u G S3 .none fun s4 S4 => ⟨_, _, _, S4, .inl rfl, fun p hp => .tail _ (.tail _ (.tail _ (.tail _ hp)))⟩
end
end

section
open PySem PySem.Calls PySem.W
/-! stores into cells -/

inductive PutC : Led → Addr → V → Led → Prop
  | head {a v0 v r} : PutC ((a, O.cell v0) :: r) a v ((a, O.cell v) :: r)
  | tail {p r a v r'} : PutC r a v r' → PutC (p :: r) a v (p :: r')
theorem PutC.spec {a : Addr} {v : V} : ∀ {H H' : Led}, PutC H a v H' → Put H a (O.cell v) H' ∧ ∃ v0, (a, O.cell v0) ∈ H
  | _, _, .head => ⟨.head, _, .head _⟩
  | _, _, .tail h => ⟨.tail h.spec.1, let ⟨v0, h0⟩ := h.spec.2; ⟨v0, .tail _ h0⟩⟩

inductive Sto (c : Cx) : Loc → Led → Str → V → Loc → Led → Prop
  | loc {m H x v m'} : Put m x v m' → Sto c m H x v m' H
  | cel {m H x a v H'} : (x, a) ∈ c.cs → PutC H a v H' → Sto c m H x v m H'

theorem swap_none {env : Env} {ts vs : List Expr} {q q' : Nat} {tp vp : Pos} {x : Str} {px : Pos} (hx : Expr.Name x px ∈ ts) (hk : (env.kindOf x == some NameKind.local) = false) :
    swappedStores [.Tuple ts q tp] (.Tuple vs q' vp) env = pure none := by
  unfold swappedStores
  have key : ∀ line : Nat, ((ts.filterMap fun
    | .Name id pos => if env.kindOf id == some .local && pos.line == line then some id else none
    | _ => none).length != ts.length) = true := fun line => by
    have hlt : (ts.filterMap fun
      | .Name id pos => if env.kindOf id == some .local && pos.line == line then some id else none
      | _ => none).length < ts.length := by
      induction ts with
      | nil => cases hx
      | cons t r ih =>
        rcases List.mem_cons.mp hx with e | hx
        · subst e
          rw [List.filterMap_cons]
          simp only [hk, Bool.false_and, Bool.false_eq_true, if_false, List.length_cons]
          exact Nat.lt_succ_of_le (List.length_filterMap_le ..)
        · have := ih hx
          rw [List.filterMap_cons]
          split
          · rw [List.length_cons]; omega
          · rw [List.length_cons, List.length_cons]; omega
    simp only [bne_iff_ne, ne_eq]; omega
  dsimp only
  split
  · rfl
  split
  · rfl
  exact if_pos (by rw [Bool.or_eq_true]; exact .inl (key _))

section
variable {prog : Program} {w : World} {g s : Shared} {B : Heap} {c : Cx} {m : Loc} {H : Led} {A : Around} {E : Value → Shared → Prop} {γ : Gl}

theorem st_sto {x : Str} {v : V} {m' : Loc} {H' : Led} {val : Value} {Q : Unit → Shared → Prop} (S : St g B c m H s) (hp : Sto c m H x v m' H') (hv : v.Is (some val)) (k : ∀ s', St g B c m' H' s' → Q () s') :
    wpAny (model prog w) A (storeName c.env x val) Q E s := by
  cases hp with
  | loc hp => exact st_loc S hp hv k
  | cel hc hp =>
    obtain ⟨hp1, v0, hm⟩ := hp.spec
    obtain ⟨o, ho, ov, hd, hi⟩ := S.get hm
    obtain ⟨hk, hl, hd1, hd2⟩ := S.kx.cl _ hc
    have core : wpAny (model prog w) A (do cellSet (← cellOf c.env x) (some val)) Q E s :=
      wpAny_bind (wpAny_cellOf hl (wpAny_cellSet ⟨o, ho, hd⟩ fun h' hc' hs' => by
        obtain ⟨o', ho', hd'⟩ := hc'
        exact k _ (S.turn (tk := s.toks) hp1 hs' ho' ⟨_, hd', hv⟩)))
    unfold storeName
    rcases hk with hk | hk
    · simp only [hk, S.kx.kind]; exact core
    · simp only [hk, S.kx.kind]; exact core

theorem x_stoG {x : Str} {p' p : Pos} {e : Expr} {rest : List Stmt} {Q : Flow → Shared → Prop} (_S : St g B c m H s)
    (h : wpAny (model prog w) A (eval e c.env) (fun val s₁ => ∃ v m1 H1 m2 H2, v.Is (some val) ∧ St g B c m1 H1 s₁ ∧ Sto c m1 H1 x v m2 H2 ∧ ∀ s', St g B c m2 H2 s' → wpAny (model prog w) A (execs rest c.env) Q E s') E s)
    (hs : swapsWith e (some (.Name x p')) p.line c.env = pure false := by rfl) :
    wpAny (model prog w) A (execs (.Assign [.Name x p'] e p :: rest) c.env) Q E s :=
  x_asgG (wpAny_mono h (fun val s₁ hq => by
    obtain ⟨v, m1, H1, m2, H2, hv, S1, hp, k⟩ := hq
    exact st_sto S1 hp hv k) fun _ _ e => e) hs

theorem asg_sto {x : Str} {p : Pos} {v : V} {m' : Loc} {H' : Led} {val : Value} {Q : Unit → Shared → Prop} (S : St g B c m H s) (hp : Sto c m H x v m' H') (hv : v.Is (some val)) (k : ∀ s', St g B c m' H' s' → Q () s') :
    wpAny (model prog w) A (assign (.Name x p) c.env val) Q E s := wpAny_assign_Name (st_sto S hp hv k)

theorem asg_two' {x y : Str} {px py p : Pos} {q : Nat} {t : Addr} {v u : V} {m1 m2 : Loc} {H0 H1 H2 : Led} {Q : Unit → Shared → Prop} (hA : A.handled = none) (S : St g B c m H s) (hm : (t, O.tup [v, u]) ∈ H) (hsub : H0.Sublist H) (h1 : Sto c m H0 x v m1 H1) (h2 : Sto c m1 H1 y u m2 H2)
    (k : ∀ s', St g B c m2 H2 s' → Q () s') : wpAny (model prog w) A (assign (.Tuple [.Name x px, .Name y py] q p) c.env (.ref t)) Q E s := by
  show wpAny (model prog w) A (do standAt p; PySem.unpack (.ref t) (assignEach [.Name x px, .Name y py] c.env)) Q E s
  refine wpAny_bind (wpAny_standAt ?_)
  unfold PySem.unpack
  refine wpAny_bind (wpAny_holding ?_)
  show wpAny (model prog w) A (unpackItems (.ref t) 2 none) _ _ _
  refine unpk hA S hm rfl fun xs s' ha S' => ?_
  have S'' : St g B c m H0 s' := S'.mono (fun p hp => hsub.subset hp) ((hsub.map _).nodup S'.nd)
  obtain ⟨a, b, rfl, ha1, ha2⟩ := ha.l2
  ·
    show wpAny (model prog w) A (do holding [b] (assign (.Name x px) c.env a); (do holding [] (assign (.Name y py) c.env b); pure ())) Q E s'
    exact wpAny_bind (wpAny_holding (asg_sto S'' h1 ha1 fun s2 S2 => wpAny_bind (wpAny_holding (asg_sto S2 h2 ha2 fun s3 S3 => wpAny_pure (k s3 S3)))))

theorem asg_three' {x y z : Str} {px py pz p : Pos} {q : Nat} {t : Addr} {v u r : V} {m1 m2 m3 : Loc} {H0 H1 H2 H3 : Led} {Q : Unit → Shared → Prop} (hA : A.handled = none) (S : St g B c m H s) (hm : (t, O.tup [v, u, r]) ∈ H) (hsub : H0.Sublist H)
    (h1 : Sto c m H0 x v m1 H1) (h2 : Sto c m1 H1 y u m2 H2) (h3 : Sto c m2 H2 z r m3 H3)
    (k : ∀ s', St g B c m3 H3 s' → Q () s') : wpAny (model prog w) A (assign (.Tuple [.Name x px, .Name y py, .Name z pz] q p) c.env (.ref t)) Q E s := by
  show wpAny (model prog w) A (do standAt p; PySem.unpack (.ref t) (assignEach [.Name x px, .Name y py, .Name z pz] c.env)) Q E s
  refine wpAny_bind (wpAny_standAt ?_)
  unfold PySem.unpack
  refine wpAny_bind (wpAny_holding ?_)
  show wpAny (model prog w) A (unpackItems (.ref t) 3 none) _ _ _
  refine unpk hA S hm rfl fun xs s' ha S' => ?_
  have S'' : St g B c m H0 s' := S'.mono (fun p hp => hsub.subset hp) ((hsub.map _).nodup S'.nd)
  obtain ⟨a, b, d, rfl, ha1, ha2, ha3⟩ := ha.l3
  ·
    show wpAny (model prog w) A (do holding [b, d] (assign (.Name x px) c.env a); (do holding [d] (assign (.Name y py) c.env b); (do holding [] (assign (.Name z pz) c.env d); pure ()))) Q E s'
    exact wpAny_bind (wpAny_holding (asg_sto S'' h1 ha1 fun s2 S2 => wpAny_bind (wpAny_holding (asg_sto S2 h2 ha2 fun s3 S3 => wpAny_bind (wpAny_holding (asg_sto S3 h3 ha3 fun s4 S4 => wpAny_pure (k s4 S4)))))))

theorem asg_four' {x y z o : Str} {px py pz po p : Pos} {q : Nat} {t : Addr} {v u r f : V} {m1 m2 m3 m4 : Loc} {Q : Unit → Shared → Prop} (hA : A.handled = none) (S : St g B c m H s) (hm : (t, O.tup [v, u, r, f]) ∈ H)
    (h1 : Put m x v m1) (h2 : Put m1 y u m2) (h3 : Put m2 z r m3) (h4 : Put m3 o f m4)
    (k : ∀ s', St g B c m4 H s' → Q () s') : wpAny (model prog w) A (assign (.Tuple [.Name x px, .Name y py, .Name z pz, .Name o po] q p) c.env (.ref t)) Q E s := by
  show wpAny (model prog w) A (do standAt p; PySem.unpack (.ref t) (assignEach [.Name x px, .Name y py, .Name z pz, .Name o po] c.env)) Q E s
  refine wpAny_bind (wpAny_standAt ?_)
  unfold PySem.unpack
  refine wpAny_bind (wpAny_holding ?_)
  show wpAny (model prog w) A (unpackItems (.ref t) 4 none) _ _ _
  refine unpk hA S hm rfl fun xs s' ha S' => ?_
  obtain ⟨a, b, d, e, rfl, ha1, ha2, ha3, ha4⟩ := ha.l4
  ·
    show wpAny (model prog w) A (do holding [b, d, e] (assign (.Name x px) c.env a); (do holding [d, e] (assign (.Name y py) c.env b); (do holding [e] (assign (.Name z pz) c.env d); (do holding [] (assign (.Name o po) c.env e); pure ())))) Q E s'
    exact wpAny_bind (wpAny_holding (asg_name S' h1 ha1 fun s2 S2 => wpAny_bind (wpAny_holding (asg_name S2 h2 ha2 fun s3 S3 => wpAny_bind (wpAny_holding (asg_name S3 h3 ha3 fun s4 S4 => wpAny_bind (wpAny_holding (asg_name S4 h4 ha4 fun s5 S5 => wpAny_pure (k s5 S5)))))))))

theorem kind_not_local (S : St g B c m H s) {x : Str} {a : Addr} (h : (x, a) ∈ c.cs) : (c.env.kindOf x == some NameKind.local) = false := by
  rcases (S.kx.cl _ h).1 with e | e
  · have e' : c.env.kindOf x = some .cell := e
    rw [e']; rfl
  · have e' : c.env.kindOf x = some .free := e
    rw [e']; rfl

/-- x, y = e1, e2, one of the names a cell -/
theorem x_tup2 {x y : Str} {px py tp vp p : Pos} {q q' : Nat} {e1 e2 : Expr} {rest : List Stmt} {Q : Flow → Shared → Prop} (hA : A.handled = none) (S : St g B c m H s) {z : Str} {az : Addr} (hz : (z, az) ∈ c.cs) (hzm : z = x ∨ z = y)
    (h : wpAny (model prog w) A (spliced (backTo vp (starEach [e1, e2] c.env))) (fun xs s₁ => ∃ v u m0 H0 m1 H1 m2 H2, AllIs [v, u] xs ∧ St g B c m0 H0 s₁ ∧ Sto c m0 H0 x v m1 H1 ∧ Sto c m1 H1 y u m2 H2 ∧ ∀ s', St g B c m2 H2 s' → wpAny (model prog w) A (execs rest c.env) Q E s') E s)
    (hs : swapsWithSole [.Tuple [.Name x px, .Name y py] q tp] (.Tuple [e1, e2] q' vp) p.line c.env = pure false := by rfl) :
    wpAny (model prog w) A (execs (.Assign [.Tuple [.Name x px, .Name y py] q tp] (.Tuple [e1, e2] q' vp) p :: rest) c.env) Q E s := by
  have hw : swappedStores [.Tuple [.Name x px, .Name y py] q tp] (.Tuple [e1, e2] q' vp) c.env = pure none := by
    rcases hzm with rfl | rfl
    · exact swap_none (px := px) (.head _) (kind_not_local S hz)
    · exact swap_none (px := py) (.tail _ (.head _)) (kind_not_local S hz)
  refine wpAny_execs_cons (PyProof.Rows.Assign_Tuple (ev_Tuple (wpAny_mono h (fun xs s₁ hq => ?_) fun _ _ e => e)) hs hw)
  obtain ⟨v, u, m0, H0, m1, H1, m2, H2, ha, S1, h1, h2, k⟩ := hq
  exact ev_newTuple S1 ha (by simp [bigN]) fun r s' S' => asg_two' hA S' (.head _) (List.sublist_cons_self ..) h1 h2 k

/-- x, y, z = e1, e2, e3, one of the names a cell -/
theorem x_tup3 {x y z : Str} {px py pz tp vp p : Pos} {q q' : Nat} {e1 e2 e3 : Expr} {rest : List Stmt} {Q : Flow → Shared → Prop} (hA : A.handled = none) (S : St g B c m H s) {n : Str} {az : Addr} (hz : (n, az) ∈ c.cs) (hzm : n = x ∨ n = y ∨ n = z)
    (h : wpAny (model prog w) A (spliced (backTo vp (starEach [e1, e2, e3] c.env))) (fun xs s₁ => ∃ v u r m0 H0 m1 H1 m2 H2 m3 H3, AllIs [v, u, r] xs ∧ St g B c m0 H0 s₁ ∧ Sto c m0 H0 x v m1 H1 ∧ Sto c m1 H1 y u m2 H2 ∧ Sto c m2 H2 z r m3 H3 ∧ ∀ s', St g B c m3 H3 s' → wpAny (model prog w) A (execs rest c.env) Q E s') E s)
    (hs : swapsWithSole [.Tuple [.Name x px, .Name y py, .Name z pz] q tp] (.Tuple [e1, e2, e3] q' vp) p.line c.env = pure false := by rfl) :
    wpAny (model prog w) A (execs (.Assign [.Tuple [.Name x px, .Name y py, .Name z pz] q tp] (.Tuple [e1, e2, e3] q' vp) p :: rest) c.env) Q E s := by
  have hw : swappedStores [.Tuple [.Name x px, .Name y py, .Name z pz] q tp] (.Tuple [e1, e2, e3] q' vp) c.env = pure none := by
    rcases hzm with rfl | rfl | rfl
    · exact swap_none (px := px) (.head _) (kind_not_local S hz)
    · exact swap_none (px := py) (.tail _ (.head _)) (kind_not_local S hz)
    · exact swap_none (px := pz) (.tail _ (.tail _ (.head _))) (kind_not_local S hz)
  refine wpAny_execs_cons (PyProof.Rows.Assign_Tuple (ev_Tuple (wpAny_mono h (fun xs s₁ hq => ?_) fun _ _ e => e)) hs hw)
  obtain ⟨v, u, r, m0, H0, m1, H1, m2, H2, m3, H3, ha, S1, h1, h2, h3, k⟩ := hq
  exact ev_newTuple S1 ha (by simp [bigN]) fun r s' S' => asg_three' hA S' (.head _) (List.sublist_cons_self ..) h1 h2 h3 k

/-- x, y = <a tuple that is no display> -/
theorem x_two' {x y : Str} {px py tp p : Pos} {q : Nat} {e : Expr} {rest : List Stmt} {Q : Flow → Shared → Prop} (hA : A.handled = none) (_S : St g B c m H s)
    (h : wpAny (model prog w) A (eval e c.env) (fun val s₁ => ∃ t v u m0 H H0 m1 H1 m2 H2, val = .ref t ∧ St g B c m0 H s₁ ∧ (t, O.tup [v, u]) ∈ H ∧ H0.Sublist H ∧ Sto c m0 H0 x v m1 H1 ∧ Sto c m1 H1 y u m2 H2 ∧ ∀ s', St g B c m2 H2 s' → wpAny (model prog w) A (execs rest c.env) Q E s') E s)
    (hs : swapsWithSole [.Tuple [.Name x px, .Name y py] q tp] e p.line c.env = pure false := by rfl) (hw : swappedStores [.Tuple [.Name x px, .Name y py] q tp] e c.env = pure none := by rfl) :
    wpAny (model prog w) A (execs (.Assign [.Tuple [.Name x px, .Name y py] q tp] e p :: rest) c.env) Q E s := by
  refine wpAny_execs_cons (PyProof.Rows.Assign_Tuple (wpAny_mono h (fun val s₁ hq => ?_) fun _ _ e => e) hs hw)
  obtain ⟨t, v, u, m0, H, H0, m1, H1, m2, H2, rfl, S1, hm, hsub, h1, h2, k⟩ := hq
  exact asg_two' hA S1 hm hsub h1 h2 k
/-- x, y, z, o = a tuple at hand -/
theorem x_four {x y z o : Str} {px py pz po tp p : Pos} {q : Nat} {e : Expr} {rest : List Stmt} {t : Addr} {v u r f : V} {m1 m2 m3 m4 : Loc} {Q : Flow → Shared → Prop} (hA : A.handled = none) (G : GW γ B) (S : St g B c m H s)
    (P : PX c m H false e (.val (.ref t))) (hm : (t, O.tup [v, u, r, f]) ∈ H) (h1 : Put m x v m1) (h2 : Put m1 y u m2) (h3 : Put m2 z r m3) (h4 : Put m3 o f m4)
    (k : ∀ s', St g B c m4 H s' → wpAny (model prog w) A (execs rest c.env) Q E s')
    (hs : swapsWithSole [.Tuple [.Name x px, .Name y py, .Name z pz, .Name o po] q tp] e p.line c.env = pure false := by rfl) (hw : swappedStores [.Tuple [.Name x px, .Name y py, .Name z pz, .Name o po] q tp] e c.env = pure none := by rfl) :
    wpAny (model prog w) A (execs (.Assign [.Tuple [.Name x px, .Name y py, .Name z pz, .Name o po] q tp] e p :: rest) c.env) Q E s :=
  wpAny_execs_cons (PyProof.Rows.Assign_Tuple (px_u G S P fun s1 S1 => asg_four' hA S1 hm h1 h2 h3 h4 k) hs hw)
end
end

section
open PySem PySem.Calls PySem.W
/-! closures -/

theorem codeAmong_snoc_ne {pos : Pos} {a b : Int} {c : Value} (l : List Value) (h : TriplesOk l) (hn : codeAmong pos l = none) (hne : ¬(a = pos.line ∧ b = pos.col)) :
    codeAmong pos (l ++ [rawInt a, rawInt b, c]) = none := by
  fun_induction TriplesOk l with
  | case1 =>
    simp only [List.nil_append, rawInt, codeAmong]
    rw [if_neg]
    simpa using hne
  | case2 a' t b' u x rest ih =>
    simp only [List.cons_append, codeAmong] at hn ⊢
    split at hn
    · cases hn
    · rename_i hc; rw [if_neg hc]; exact ih h hn
  | case3 l h1 h2 => exact h.elim

/-- a code's table of inner codes: those made already -/
noncomputable def tabO (done : List (Nat × Nat)) : O := .pred fun o => ∃ ps : Array Value, o = tabObj ps ∧ TriplesOk ps.toList ∧ ∀ pos : Pos, (pos.line, pos.col) ∉ done → codeAmong pos ps.toList = none
noncomputable def codeO (qual : Str) : O := .pred fun o => ∃ vs t, o.data = .fields vs ∧ vs[1]? = some (.str qual t)
noncomputable def fdOf (name qual : Str) (params : Arguments) (body : FuncBody) (scope : Scope) (clos : List (Str × Addr)) (doc pm cd ct : Value) : FuncData :=
  { name, qualname := qual, params, body, scope, globals := mainGlobals, closure := clos, defaults := .none, kwdefaults := .none, doc, pyModule := pm, annotations := none, code := cd, closureTuple := ct, builtins := builtinsNs }
noncomputable def fnO (name qual : Str) (params : Arguments) (body : FuncBody) (scope : Scope) (clos : List (Str × Addr)) (c' : Addr) : O := .pred fun o => ∃ doc pm ct, o = { cls := .type "function", data := .func (fdOf name qual params body scope clos doc pm (.ref c') ct) }

/-- what the making of a function asks of the base -/
structure Mk (γ : Gl) (B : Heap) (cc P : Addr) : Prop where
  hd : CodeHd B cc P
  bm : ∃ bm ob, γ.mg "__builtins__" = some (.ref bm) ∧ bm ≠ builtinsNs ∧ B.get? bm = some ob ∧ ob.cls = .type "module" ∧ ob.dict = some builtinsNs ∧ ob.data = .plain
theorem Mk.keeps {γ : Gl} {B B' : Heap} {cc P : Addr} (M : Mk γ B cc P) (hk : ∀ b o, B.get? b = some o → B'.get? b = some o) : Mk γ B' cc P :=
  ⟨M.hd.keeps hk, let ⟨bm, ob, a, b, c, r⟩ := M.bm; ⟨bm, ob, a, b, hk _ _ c, r⟩⟩

section
variable {prog : Program} {w : World} {g s : Shared} {B : Heap} {c : Cx} {m : Loc} {H : Led} {A : Around} {E : Value → Shared → Prop} {γ : Gl}

theorem clos_ok (S : St g B c m H s) {scope : Scope} (h : ∀ x ∈ scope.names, x.2 = .free → ∃ a, (x.1, a) ∈ c.cs) : closureFor scope c.env = pure (clOf c.env scope.names []) :=
  closure_cells fun x hx hl => let ⟨a, ha⟩ := h x hx hl; ⟨a, (S.kx.cl _ ha).2.1⟩

theorem mk_fn {name qual : Str} {params : Arguments} {body : FuncBody} {scope : Scope} {pos : Pos} {fl : Nat} {cc P : Addr} {done : List (Nat × Nat)} {Q : Value → Shared → Prop} (G : GW γ B) (M : Mk γ B cc P) (S : St g B c m ((P, tabO done) :: H) s) (hcode : c.env.code = .ref cc)
    (hpos : (pos.line, pos.col) ∉ done) (hfs : ∀ x ∈ scope.names, x.2 = .free → ∃ a, (x.1, a) ∈ c.cs)
    (k : ∀ f c' s', St g B c m ((f, fnO name qual params body scope (clOf c.env scope.names []) c') :: (c', codeO qual) :: (P, tabO ((pos.line, pos.col) :: done)) :: H) s' → Q (.ref f) s') :
    wpAny (model prog w) A (makeFunction name qual params body scope c.env [] [] [] pos fl) Q E s := by
  have hcl := clos_ok S hfs
  obtain ⟨oP, hP, ps, rfl, ht, hdone⟩ := S.get (.head _)
  have hP2 := (S.led _ (.head _)).2
  have hgs := G.g.keeps S.base
  obtain ⟨bm, ob, b1, b2, b3, b4, b5, b6⟩ := M.bm
  have hgP : mainGlobals ≠ P := fun q => by
    obtain ⟨o, es, ep, e, hd, _⟩ := hgs
    rw [q, hP] at e; cases e; cases hd
  have hbP : bm ≠ P := fun q => by
    have e := S.base _ _ b3
    rw [q, hP] at e; cases e; cases b4
  have hbG : bm ≠ mainGlobals := fun q => by
    obtain ⟨o, es, ep, e, hd, _⟩ := G.g
    rw [q, e] at b3; cases b3; rw [hd] at b6; cases b6
  have fin : ∀ (c' : Addr) (ob : Obj) (h' : Heap) (tk : Tok), Heap.ExtBut P s.heap h' → s.heap.objs.size ≤ c' → c' < h'.objs.size → h'.CodeRec (.ref c') qual → h'.get? P = some (tabObj (ps ++ #[rawInt pos.line, rawInt pos.col, .ref c'])) → ob.isFreed = false →
      (fnO name qual params body scope (clOf c.env scope.names []) c').Is ob → Q (.ref h'.objs.size) { s with heap := h'.push ob, toks := tk } := fun c' ob h' tk hx hge hlt hrec htb hfr hob => by
    obtain ⟨c₂, oc, vs, t, e2, hoc, hd, hv⟩ := hrec
    cases e2
    refine k h'.objs.size c' _ ?_
    refine St.redo (H1 := [(P, tabO done)]) (H2 := [(h'.objs.size, fnO name qual params body scope (clOf c.env scope.names []) c'), (c', codeO qual), (P, tabO ((pos.line, pos.col) :: done))]) S (fun b o hb e => ?_) (fun p hp => ?_) ?_
    · exact Heap.get?_push_of_some _ (hx b o (fun q => hb (by rw [q]; exact .head _)) e)
    · rcases List.mem_cons.mp hp with rfl | hp
      · exact ⟨⟨_, Heap.get?_push_size _ hfr, hob⟩, .inr (Nat.le_trans hge (Nat.le_of_lt hlt))⟩
      rcases List.mem_cons.mp hp with rfl | hp
      · exact ⟨⟨_, Heap.get?_push_of_some _ hoc, vs, t, hd, hv⟩, .inr hge⟩
      rcases List.mem_cons.mp hp with rfl | hp
      · refine ⟨⟨_, Heap.get?_push_of_some _ htb, _, rfl, ?_, fun pos' hp' => ?_⟩, .inl (.head _)⟩
        · rw [Array.toList_append]; exact TriplesOk_snoc _ _ _ _ ht
        · rw [List.mem_cons, not_or] at hp'
          rw [Array.toList_append]
          refine codeAmong_snoc_ne _ ht (hdone pos' hp'.2) fun q => hp'.1 ?_
          have q1 : pos.line = pos'.line := by have := q.1; omega
          have q2 : pos.col = pos'.col := by have := q.2; omega
          rw [q1, q2]
      · cases hp
    · have hPl : P < s.heap.objs.size := Heap.lt_size hP
      have n1 : h'.objs.size ≠ c' := Nat.ne_of_gt hlt
      have n2 : c' ≠ P := Nat.ne_of_gt (Nat.lt_of_lt_of_le hPl hge)
      have n3 : h'.objs.size ≠ P := Nat.ne_of_gt (Nat.lt_trans (Nat.lt_of_lt_of_le hPl hge) hlt)
      simp only [List.map_cons, List.map_nil, List.nodup_cons, List.mem_cons, List.not_mem_nil, or_false, not_or, List.nodup_nil, and_true, not_false_eq_true]
      exact ⟨⟨n1, n3⟩, n2⟩
  have hglob : c.env.globals = mainGlobals := S.kx.glo
  have hBA : s.heap.BuiltinsAt γ.mg P := ⟨bm, ob, b1, b2, hbG, hbP, S.base _ _ b3, b4, b5, b6⟩
  cases body with
  | stmts body =>
    exact makeFunction_K (mg := γ.mg) hcl hglob hgs hcode (M.hd.keeps S.base) hP ht (hdone pos hpos) hgP hBA fun c' ctv doc h' tk hx hge hlt hrec htb => fin c' _ h' tk hx hge hlt hrec htb rfl ⟨doc, _, ctv, rfl⟩
  | expr body =>
    exact kla_makeFunction (mg := γ.mg) hcl hglob hgs hcode (M.hd.keeps S.base) hP ht (hdone pos hpos) hgP hBA fun c' ctv h' tk hx hge hlt hrec htb => fin c' _ h' tk hx hge hlt hrec htb rfl ⟨.none, _, ctv, rfl⟩

/-- a def inside a def -/
theorem x_def {name : Str} {params : Arguments} {body : List Stmt} {scope : Scope} {pos : Pos} {cc P : Addr} {done : List (Nat × Nat)} {rest : List Stmt} {Q : Flow → Shared → Prop} (G : GW γ B) (M : Mk γ B cc P) (S : St g B c m ((P, tabO done) :: H) s) (hcode : c.env.code = .ref cc)
    (hpos : (pos.line, pos.col) ∉ done) (hfs : ∀ x ∈ scope.names, x.2 = .free → ∃ a, (x.1, a) ∈ c.cs)
    {m' : Addr → Loc} {H' : Addr → Led} (hst : ∀ f, Sto c m H name (.val (.ref f)) (m' f) (H' f))
    (k : ∀ qual f c' s', St g B c (m' f) ((f, fnO name qual params (.stmts body) scope (clOf c.env scope.names []) c') :: (c', codeO qual) :: (P, tabO ((pos.line, pos.col) :: done)) :: H' f) s' → wpAny (model prog w) A (execs rest c.env) Q E s')
    (hd0 : params.defaults = [] := by rfl) (hk0 : params.kw_defaults = [] := by rfl) (ha : annTrees params none c.env = [] := by rfl) :
    wpAny (model prog w) A (execs (.FunctionDef name params body [] none [] scope none name pos :: rest) c.env) Q E s := by
  refine wpAny_execs_cons (nestDef_K hd0 hk0 ha (mk_fn G M S hcode hpos hfs fun f c' s1 S1 => ?_))
  have hst' : ∀ {a : Addr × O} {m0 : Loc} {H1 H2 : Led} {v : V} {x : Str} {m1 : Loc}, Sto c m0 H1 x v m1 H2 → Sto c m0 (a :: H1) x v m1 (a :: H2) := fun h => by
    cases h with
    | loc h => exact .loc h
    | cel h1 h2 => exact .cel h1 (.tail h2)
  exact st_sto S1 (hst' (hst' (hst' (hst f)))) rfl fun s2 S2 => k _ f c' s2 S2

/-- a lambda inside a def -/
theorem ev_lam {params : Arguments} {body : Expr} {scope : Scope} {pos : Pos} {cc P : Addr} {done : List (Nat × Nat)} {Q : Value → Shared → Prop} (G : GW γ B) (M : Mk γ B cc P) (S : St g B c m ((P, tabO done) :: H) s) (hcode : c.env.code = .ref cc)
    (hpos : (pos.line, pos.col) ∉ done) (hfs : ∀ x ∈ scope.names, x.2 = .free → ∃ a, (x.1, a) ∈ c.cs)
    (k : ∀ f c' s', St g B c m ((f, fnO "<lambda>" (c.env.qual ++ "<lambda>") params (.expr body) scope (clOf c.env scope.names []) c') :: (c', codeO (c.env.qual ++ "<lambda>")) :: (P, tabO ((pos.line, pos.col) :: done)) :: H) s' → Q (.ref f) s')
    (hdef : defaultsOf params c.env = ([], []) := by rfl) :
    wpAny (model prog w) A (eval (.Lambda params body scope pos) c.env) Q E s :=
  kla_eval hdef (mk_fn G M S hcode hpos hfs k)

noncomputable def chkF (scope : Scope) (ps gs fs : List Str) : Bool :=
  (gs.all fun x => decide (scope.names.lookup x = some .globalImplicit) && !(x == ("__debug__" : Str))) &&
  (ps.all fun x => decide (scope.names.lookup x = some .local) && !(x == ("__debug__" : Str))) &&
  (fs.all fun x => decide (scope.names.lookup x = some .free) && !(x == ("__debug__" : Str)) && !(x == ("__classdict__" : Str)) && scope.names.contains (x, .free)) &&
  (scope.names.all fun x => decide (x.2 ≠ .cell)) &&
  decide (ps.Nodup) && decide (scope.kind = .function) && !scope.isCoroutine && !scope.isGenerator

/-- a call of a closure whose body is an expression or statements -/
theorem call_clos {name qual : Str} {params : Arguments} {body : FuncBody} {scope : Scope} {clos : List (Str × Addr)} {f c' : Addr} {n : Nat} {vs : List V} {vals : List Value} {Post : Value → Led → Prop} (ps gs : List Str) (fc : List (Str × Addr))
    (hf : (f, fnO name qual params body scope clos c') ∈ H) (hc : (c', codeO qual) ∈ H) (hchk : chkF scope ps gs (fc.map (·.1)) = true) (hfc : ∀ p ∈ fc, clos.lookup p.1 = some p.2) (hv : AllIs vs vals) (hlen : ps.length = vs.length)
    (hbind : ∀ doc pm cd ct, bindArgs (fdOf name qual params body scope clos doc pm cd ct) ⟨vals, []⟩ = pure (ps.zip vals))
    (h : ∀ (c : Cx) (A : Around) (B : Heap) s, AOk A n → GW γ B → c.gs = gs → c.cs = fc → St g B c (ps.zip vs) H s → match (generalizing := false) body with
      | .expr e => wpAny (model prog w) A (eval e c.env) (EndV g B Post) NoE s
      | .stmts ss => wpAny (model prog w) A (execs ss c.env) (Ends g B Post) NoE s) :
    Spec prog w g γ (n + 1) (.ref f) vals H Post := by
  intro A s B hA G S
  simp only [chkF, Bool.and_eq_true, decide_eq_true_eq, Bool.not_eq_true'] at hchk
  obtain ⟨⟨⟨⟨⟨⟨⟨k1, k2⟩, k3⟩, k4⟩, k5⟩, k6⟩, k7⟩, k8⟩ := hchk
  obtain ⟨of, f1, doc, pm, ct, rfl⟩ := S.get hf
  obtain ⟨oc, f2, cvs, ctk, f3, f4⟩ := S.get hc
  have e1 : vals.length = ps.length := by rw [hv.length, hlen]
  have lo : ∀ x ∈ ps, scope.names.lookup x = some .local ∧ (x == ("__debug__" : Str)) = false := fun x hx => by
    have := List.all_eq_true.mp k2 x hx
    rw [Bool.and_eq_true] at this
    exact ⟨of_decide_eq_true this.1, by simpa using this.2⟩
  have hcell : ∀ x ∈ scope.names, x.2 ≠ .cell := fun x hx => of_decide_eq_true (List.all_eq_true.mp k4 x hx)
  have keys : (ps.zip vs).map (·.1) = ps := by rw [List.map_fst_zip]; rw [hlen]; exact Nat.le_refl _
  have hlt : ∀ b o, s.heap.get? b = some o → b < s.heap.objs.size := fun b o e => Heap.lt_size e
  have S1 : ∀ h₀ : Heap, h₀.Ns s.heap.objs.size (fun x => (ps.zip vals).reverse.lookup x) → (∀ b o, s.heap.get? b = some o → h₀.get? b = some o) →
      St g B ⟨callEnv (fdOf name qual params body scope clos doc pm (.ref c') ct) s.heap.objs.size f, gs, fc⟩ (ps.zip vs) H { s with heap := h₀, toks := s.toks + (ps.zip vals).length } := fun h₀ hns hk₀ => by
    refine ⟨S.same, ⟨_, ⟨hns, fun b o e => hk₀ _ _ (S.base b o e), S.size⟩, by rw [keys]; exact k5, fun p hp => zip_is hv k5 p hp⟩, fun p hp => ?_, S.nd, ⟨rfl, rfl, k6, fun x hx => ?_, fun x hx => ?_, fun p hp => ?_⟩⟩
    · obtain ⟨⟨ob, a1, a2⟩, a3⟩ := S.led p hp
      exact ⟨⟨ob, hk₀ _ _ a1, a2⟩, Nat.ne_of_lt (hlt _ _ a1), a3⟩
    · have := List.all_eq_true.mp k1 x hx
      rw [Bool.and_eq_true] at this
      exact ⟨of_decide_eq_true this.1, by simpa using this.2⟩
    · rw [keys] at hx; exact lo x hx
    · have := List.all_eq_true.mp k3 p.1 (List.mem_map_of_mem hp)
      rw [Bool.and_eq_true, Bool.and_eq_true, Bool.and_eq_true] at this
      obtain ⟨⟨⟨q1, q2⟩, q3⟩, q4⟩ := this
      exact ⟨.inr (of_decide_eq_true q1), hfc p hp, by simpa using q2, by simpa using q3⟩
  have hA' : AOk (A.deeper (callEnv (fdOf name qual params body scope clos doc pm (.ref c') ct) s.heap.objs.size f)) n := hA.deeper _
  have hdep : A.depth < recursionLimit := by have := hA.dp; show A.depth < 1000; omega
  have hrec : s.heap.CodeRec (.ref c') qual := ⟨c', oc, cvs, ctk, rfl, f2, f3, f4⟩
  cases body with
  | stmts body =>
    refine wpAny_call (codeAny_call_plain (fd := fdOf name qual params (.stmts body) scope clos doc pm (.ref c') ct) (body := body) (binds := ps.zip vals) hdep f1 rfl (G.nolimit.keeps S.base) hrec rfl (hbind doc pm _ ct) hcell (fun x hx => (lo x.1 (List.of_mem_zip hx).1).1) (fun h₀ hns hk₀ => ?_) k7 k8 k6)
    refine wpAny_mono (h ⟨callEnv (fdOf name qual params (.stmts body) scope clos doc pm (.ref c') ct) s.heap.objs.size f, gs, fc⟩ _ B _ hA' G rfl rfl (S1 h₀ hns hk₀)) (fun fl s' hp => ?_) (fun _ _ e => e.elim)
    obtain ⟨c'', m', H', S', P⟩ := hp
    exact ⟨H', S'.ls, by cases fl <;> exact P⟩
  | expr body =>
    refine wpAny_call (kla_callFunE hdep f1 rfl k7 k8 rfl hrec ?_)
    rw [hbind]
    refine wpAny_pure (wpAny_newFunctionEnv hcell (fun x hx => (lo x.1 (List.of_mem_zip hx).1).1) (fun h₀ hns hsb => ⟨(G.nolimit.keeps S.base).fresh _ hsb, ?_⟩) k6)
    have hk₀ : ∀ b o, s.heap.get? b = some o → h₀.get? b = some o := fun b o e => hsb.extBut b o (Nat.ne_of_lt (Heap.lt_size e)) (Heap.get?_push_of_some _ e)
    refine kla_codeExpr (wpAny_mono (h ⟨callEnv (fdOf name qual params (.expr body) scope clos doc pm (.ref c') ct) s.heap.objs.size f, gs, fc⟩ _ B _ hA' G rfl rfl (S1 h₀ hns hk₀)) (fun v s' hp => ?_) (fun _ _ e => e.elim))
    obtain ⟨c'', m', H', S', P⟩ := hp
    exact ⟨H', S'.ls, P⟩
end
end

section
open PySem PySem.Calls PySem.W
noncomputable def IsF (H : Led) (f : Addr) : Prop := ∃ nm qual params body scope clos c', (f, fnO nm qual params body scope clos c') ∈ H
theorem IsF.more {H H' : Led} {f : Addr} (h : IsF H f) (hs : ∀ p ∈ H, p ∈ H') : IsF H' f := let ⟨a, b, c, d, e, f, i, q⟩ := h; ⟨a, b, c, d, e, f, i, hs _ q⟩

/-- a closure stands in the ledger -/
noncomputable def Cl (H : Led) (f : Addr) (params : Arguments) (body : FuncBody) (scope : Scope) (fc : List (Str × Addr)) : Prop :=
  ∃ nm qual clos c', (f, fnO nm qual params body scope clos c') ∈ H ∧ (c', codeO qual) ∈ H ∧ ∀ p ∈ fc, clos.lookup p.1 = some p.2
theorem Cl.more {H H' : Led} {f : Addr} {params : Arguments} {body : FuncBody} {scope : Scope} {fc : List (Str × Addr)} (h : Cl H f params body scope fc) (hs : ∀ p ∈ H, p ∈ H') : Cl H' f params body scope fc :=
  let ⟨a, b, c, d, e, f, i⟩ := h; ⟨a, b, c, d, hs _ e, hs _ f, i⟩
theorem Cl.isF {H : Led} {f : Addr} {params : Arguments} {body : FuncBody} {scope : Scope} {fc : List (Str × Addr)} (h : Cl H f params body scope fc) : IsF H f :=
  let ⟨a, b, c, d, e, f, i⟩ := h; ⟨a, b, _, _, _, c, d, e⟩

theorem perm_shift {α : Type} (F L R : List α) : (F ++ (L ++ R)).Perm (L ++ (F ++ R)) := by
  rw [← List.append_assoc, ← List.append_assoc]
  exact List.perm_append_comm.append_right R

section
variable {prog : Program} {w : World} {g s : Shared} {B : Heap} {c : Cx} {m : Loc} {H : Led} {A : Around} {E : Value → Shared → Prop} {γ : Gl}

noncomputable def SpecF (prog : Program) (w : World) (g : Shared) (γ : Gl) (n : Nat) (f : Addr) (vs : List V) (H : Led) (Post : Value → Led → Prop) : Prop :=
  ∀ vals, AllIs vs vals → Spec prog w g γ n (.ref f) vals H Post
theorem Spec.le {n k : Nat} {f : Value} {vals : List Value} {Post : Value → Led → Prop} (h : Spec prog w g γ n f vals H Post) (hk : n ≤ k) : Spec prog w g γ k f vals H Post :=
  fun A s B hA => h A s B (hA.le hk)
theorem SpecF.le {n k : Nat} {f : Addr} {vs : List V} {Post : Value → Led → Prop} (h : SpecF prog w g γ n f vs H Post) (hk : n ≤ k) : SpecF prog w g γ k f vs H Post :=
  fun vals hv => (h vals hv).le hk

theorem fnAt_of (S : St g B c m H s) {f : Addr} (hf : IsF H f) : FnAt f s.heap := by
  obtain ⟨_, _, _, _, _, _, _, hm⟩ := hf
  obtain ⟨o, h1, doc, pm, ct, rfl⟩ := S.get hm
  exact ⟨_, _, _, _, h1⟩

/-- a closure is called: the general case -/
theorem ev_callFG {func e : Expr} {es : List Expr} {p' : Pos} {f : Addr} {Q : Value → Shared → Prop} (G : GW γ B) (S : St g B c m H s) (P : PX c m H false func (.val (.ref f))) (hf : IsF H f)
    (h : ∀ s', St g B c m H s' → wpAny (model prog w) A (spliced (backTo p' (starEach (e :: es) c.env))) (fun vs s₁ => (∃ c' m' H', St g B c' m' H' s₁ ∧ IsF H' f) ∧ wpAny (model prog w) A (call (.ref f) vs) Q E s₁) E s')
    (heq : eval (.Call func (e :: es) [] p') c.env = (do callWith p' (← eval func c.env) [] (backTo p' (starEach (e :: es) c.env)) []) := by rfl)
    (he : starEach (e :: es) c.env = (false, eval e c.env) :: starEach es c.env := by rfl) (hplain : (backTo p' (starEach es c.env)).any (·.1) = false := by rfl) :
    wpAny (model prog w) A (eval (.Call func (e :: es) [] p') c.env) Q E s := by
  rw [heq]
  refine wpAny_bind (px_u G S P fun s1 S1 => ?_)
  refine callWith_F (env := c.env) (fnAt_of S1 hf) (wpAny_mono (h s1 S1) (fun vs s2 hq => ?_) fun _ _ e => e) he hplain
  obtain ⟨⟨c', m', H', S', hf'⟩, hq⟩ := hq
  exact ⟨fnAt_of S' hf', by simpa using hq⟩

/-- .. pure arguments, a contract over a part of the ledger -/
theorem ev_callFS {func e : Expr} {es : List Expr} {p' : Pos} {f : Addr} {vs : List V} {Post : Value → Led → Prop} {Q : Value → Shared → Prop} (n k : Nat) (G : GW γ B) (hA : AOk A k) (Ct R : Led) (S : St g B c m (Ct ++ R) s) (P : PX c m (Ct ++ R) false func (.val (.ref f))) (hf : IsF (Ct ++ R) f)
    (Ps : PXs c m (Ct ++ R) (e :: es) vs) (C : SpecF prog w g γ n f vs R Post) (h : ∀ v s' R', St g B c m (Ct ++ R') s' → Post v R' → Q v s') (hk : n ≤ k := by omega)
    (heq : eval (.Call func (e :: es) [] p') c.env = (do callWith p' (← eval func c.env) [] (backTo p' (starEach (e :: es) c.env)) []) := by rfl)
    (he : starEach (e :: es) c.env = (false, eval e c.env) :: starEach es c.env := by rfl) (hplain : (backTo p' (starEach es c.env)).any (·.1) = false := by rfl) :
    wpAny (model prog w) A (eval (.Call func (e :: es) [] p') c.env) Q E s :=
  ev_callFG G S P hf (fun s1 S1 => pxs G Ps S1 fun xs s2 ha S2 => ⟨⟨_, _, _, S2, hf⟩, (C xs ha).useC Ct R G hA hk S2 h⟩) heq he hplain

/-- a global def called by its name, a contract over a part of the ledger -/
theorem ev_callSC {x : Str} {p p' : Pos} (T : Top γ) (i n k : Nat) {e : Expr} {es : List Expr} {vs : List V} {Post : Value → Led → Prop} {Q : Value → Shared → Prop} (G : GW γ B) (hA : AOk A k) (Ct R : Led) (S : St g B c m (Ct ++ R) s) (hx : x ∈ c.gs) (P : PXs c m (Ct ++ R) (e :: es) vs)
    (C : SpecV prog w g γ n i vs R Post) (h : ∀ v s' R', St g B c m (Ct ++ R') s' → Post v R' → Q v s') (hk : n ≤ k := by omega) (hi : i ∈ theIx := by decide) (hn : (dr i).name = x := by rfl)
    (he : starEach (e :: es) c.env = (false, eval e c.env) :: starEach es c.env := by rfl) :
    wpAny (model prog w) A (eval (.Call (.Name x p) (e :: es) [] p') c.env) Q E s :=
  ev_callP i G S hx (by rw [T.ix]; exact hi) (by rw [T.D]; exact hn) P (fun xs s' ha S' => (C xs ha).useC Ct R G hA hk S' h) he

theorem ev_glob {x : Str} {p : Pos} (T : Top γ) (i : Nat) {Q : Value → Shared → Prop} (G : GW γ B) (S : St g B c m H s) (hx : x ∈ c.gs) (k : Q (.ref (γ.fa i)) s) (hi : i ∈ theIx := by decide) (hn : (dr i).name = x := by rfl) :
    wpAny (model prog w) A (eval (.Name x p) c.env) Q E s := by
  have hg := (G.fn i (by rw [T.ix]; exact hi)).1
  rw [T.D, hn] at hg
  exact Name_function_global S.kx.kind (S.kx.gl x hx).1 (loadGlobal_global (mg := γ.mg) (by rw [S.kx.glo]; exact G.g.keeps S.base) hg k) (S.kx.gl x hx).2

/-- pure arguments and global functions -/
inductive PGs (γ : Gl) (X : Cx) (m : Loc) (H : Led) : List Expr → List V → Prop
  | nil : PGs γ X m H [] []
  | cons {e es v vs} : PX X m H false e v → PGs γ X m H es vs → (∀ env, starEach (e :: es) env = (false, eval e env) :: starEach es env) → PGs γ X m H (e :: es) (v :: vs)
  | glob {x p es vs} (i : Nat) : x ∈ X.gs → PGs γ X m H es vs → i ∈ theIx → (dr i).name = x → PGs γ X m H (.Name x p :: es) (.val (.ref (γ.fa i)) :: vs)
theorem pgs {es : List Expr} {vs : List V} {p : Pos} (T : Top γ) (G : GW γ B) (P : PGs γ c m H es vs) : ∀ {s : Shared} {Q : List Value → Shared → Prop}, St g B c m H s → (∀ xs s', AllIs vs xs → St g B c m H s' → Q xs s') →
    wpAny (model prog w) A (spliced (backTo p (starEach es c.env))) Q E s := by
  induction P with
  | nil => exact fun S k => sp_nil p (k [] _ trivial S)
  | cons P _ hs ih => exact fun S k => sp_cons (px_v G S P fun val s1 hv S1 => ih S1 fun xs s2 ha S2 => k _ _ ⟨hv, ha⟩ S2) (hs _)
  | glob i hx _ hi hn ih => exact fun S k => sp_cons (ev_glob T i G S hx (ih S fun xs s2 ha S2 => k _ _ ⟨rfl, ha⟩ S2) hi hn) rfl
theorem ev_callGS {x : Str} {p p' : Pos} (T : Top γ) (i n k : Nat) {e : Expr} {es : List Expr} {vs : List V} {Post : Value → Led → Prop} {Q : Value → Shared → Prop} (G : GW γ B) (hA : AOk A k) (Ct R : Led) (S : St g B c m (Ct ++ R) s) (hx : x ∈ c.gs) (P : PGs γ c m (Ct ++ R) (e :: es) vs)
    (C : SpecV prog w g γ n i vs R Post) (h : ∀ v s' R', St g B c m (Ct ++ R') s' → Post v R' → Q v s') (hk : n ≤ k := by omega) (hi : i ∈ theIx := by decide) (hn : (dr i).name = x := by rfl)
    (he : starEach (e :: es) c.env = (false, eval e c.env) :: starEach es c.env := by rfl) :
    wpAny (model prog w) A (eval (.Call (.Name x p) (e :: es) [] p') c.env) Q E s :=
  ev_callG T i G S hx (fun s' S' => pgs T G P S' fun xs s2 ha S2 => ⟨⟨_, _, _, S2⟩, (C xs ha).useC Ct R G hA hk S2 h⟩) hi hn he

/-! closures' contracts -/

noncomputable abbrev pa1 (p : Pos) : Arguments := { posonlyargs := [], args := [{ arg := (Str.ofString "a"), annotation := none, pos := p }], vararg := none, kwonlyargs := [], kw_defaults := [], kwarg := none, defaults := [] }
noncomputable abbrev pa2 (p q : Pos) : Arguments := { posonlyargs := [], args := [{ arg := (Str.ofString "a"), annotation := none, pos := p }, { arg := (Str.ofString "b"), annotation := none, pos := q }], vararg := none, kwonlyargs := [], kw_defaults := [], kwarg := none, defaults := [] }
noncomputable abbrev scO (names : List (Str × NameKind)) : Scope := { kind := .function, names := names, isGenerator := false, isCoroutine := false, more := [] }

theorem clos_e {params : Arguments} {e : Expr} {scope : Scope} {f : Addr} {n : Nat} {vs : List V} {Post : Value → Led → Prop} (ps gs : List Str) (fc : List (Str × Addr)) (hf : Cl H f params (.expr e) scope fc) (fs : List Str) (hchk : chkF scope ps gs fs = true) (hfs : fc.map (·.1) = fs) (hlen : ps.length = vs.length)
    (hbind : ∀ vals : List Value, vals.length = ps.length → ∀ nm qual clos doc pm cd ct, bindArgs (fdOf nm qual params (.expr e) scope clos doc pm cd ct) ⟨vals, []⟩ = pure (ps.zip vals))
    (h : ∀ (c : Cx) (A : Around) (B : Heap) s, AOk A n → GW γ B → c.gs = gs → c.cs = fc → St g B c (ps.zip vs) H s → wpAny (model prog w) A (eval e c.env) (EndV g B Post) NoE s) :
    SpecF prog w g γ (n + 1) f vs H Post := fun vals hv => by
  obtain ⟨nm, qual, clos, c', h1, h2, h3⟩ := hf
  exact call_clos ps gs fc h1 h2 (by rw [hfs]; exact hchk) h3 hv hlen (hbind vals (by rw [hv.length, hlen]) nm qual clos) h
theorem clos_s {params : Arguments} {ss : List Stmt} {scope : Scope} {f : Addr} {n : Nat} {vs : List V} {Post : Value → Led → Prop} (ps gs : List Str) (fc : List (Str × Addr)) (hf : Cl H f params (.stmts ss) scope fc) (fs : List Str) (hchk : chkF scope ps gs fs = true) (hfs : fc.map (·.1) = fs) (hlen : ps.length = vs.length)
    (hbind : ∀ vals : List Value, vals.length = ps.length → ∀ nm qual clos doc pm cd ct, bindArgs (fdOf nm qual params (.stmts ss) scope clos doc pm cd ct) ⟨vals, []⟩ = pure (ps.zip vals))
    (h : ∀ (c : Cx) (A : Around) (B : Heap) s, AOk A n → GW γ B → c.gs = gs → c.cs = fc → St g B c (ps.zip vs) H s → wpAny (model prog w) A (execs ss c.env) (Ends g B Post) NoE s) :
    SpecF prog w g γ (n + 1) f vs H Post := fun vals hv => by
  obtain ⟨nm, qual, clos, c', h1, h2, h3⟩ := hf
  exact call_clos ps gs fc h1 h2 (by rw [hfs]; exact hchk) h3 hv hlen (hbind vals (by rw [hv.length, hlen]) nm qual clos) h
theorem bnd1 {p : Pos} {body : FuncBody} {scope : Scope} : ∀ vals : List Value, vals.length = [(Str.ofString "a")].length → ∀ nm qual clos doc pm cd ct, bindArgs (fdOf nm qual (pa1 p) body scope clos doc pm cd ct) ⟨vals, []⟩ = pure ([(Str.ofString "a")].zip vals) := fun vals hv => by
  obtain ⟨x, rfl⟩ := len1 hv
  exact fun _ _ _ _ _ _ _ => rfl
theorem bnd2 {p q : Pos} {body : FuncBody} {scope : Scope} : ∀ vals : List Value, vals.length = [(Str.ofString "a"), (Str.ofString "b")].length → ∀ nm qual clos doc pm cd ct, bindArgs (fdOf nm qual (pa2 p q) body scope clos doc pm cd ct) ⟨vals, []⟩ = pure ([(Str.ofString "a"), (Str.ofString "b")].zip vals) := fun vals hv => by
  obtain ⟨x, y, rfl⟩ := len2 hv
  exact fun _ _ _ _ _ _ _ => rfl
end
end

section
open PySem PySem.Calls PySem.W
section
variable {prog : Program} {w : World} {g s : Shared} {B : Heap} {c : Cx} {m : Loc} {H : Led} {A : Around} {E : Value → Shared → Prop} {γ : Gl}

noncomputable abbrev bIdent (p : Pos) : Expr := .Name (Str.ofString "a") p
noncomputable abbrev sIdent : Scope := scO [((Str.ofString "a"), NameKind.local)]
theorem ident_ok {p1 p2 : Pos} {f : Addr} {x : Value} (hf : Cl H f (pa1 p1) (.expr (bIdent p2)) sIdent []) : SpecF prog w g γ 1 f [.val x] H (fun v H' => v = x ∧ H' = H) := by
  refine clos_e [(Str.ofString "a")] [] [] hf [] (by decide +kernel) rfl rfl bnd1 fun c A B s hA G hgs hcs S => ?_
  exact px_u G S (u := x) (.nameV (.head _)) fun s1 S1 => ⟨_, _, _, S1, rfl, rfl⟩

noncomputable abbrev bDivided (p1 p2 p3 p4 p5 p6 p7 p8 : Pos) : List Stmt := [.Return (some (.Subscript (.Call (.Name (Str.ofString "divrem_school") p1) [.Name (Str.ofString "a") p2, .Name (Str.ofString "row") p3, .Name (Str.ofString "w") p4] [] p5) (.Constant (.int 1) 0 p6) p7)) p8]
noncomputable abbrev sDivided : Scope := scO [((Str.ofString "a"), NameKind.local), ((Str.ofString "row"), NameKind.free), ((Str.ofString "w"), NameKind.free), ((Str.ofString "divrem_school"), NameKind.globalImplicit)]
theorem divided_ok (T : Top γ) {k b x n : Nat} (hB : Bs k b) (hM : Md b x) {p0 p1 p2 p3 p4 p5 p6 p7 p8 : Pos} {f arow aw mm a : Addr} (hf : Cl H f (pa1 p0) (.stmts (bDivided p1 p2 p3 p4 p5 p6 p7 p8)) sDivided [((Str.ofString "row"), arow), ((Str.ofString "w"), aw)])
    (h1 : (arow, O.cell (.val (.ref mm))) ∈ H) (h2 : (aw, O.cell (.int k)) ∈ H) (hm : (mm, il (lb b x)) ∈ H) (ha : (a, il (lb b n)) ∈ H) (hn : n < 2 ^ 50) : SpecF prog w g γ 5 f [.val (.ref a)] H (RetL (lb b (n % x)) H) := by
  refine clos_s [(Str.ofString "a")] [(Str.ofString "divrem_school")] _ hf [(Str.ofString "row"), (Str.ofString "w")] (by decide +kernel) rfl rfl bnd1 fun c A B s hA G hgs hcs S => ?_
  have hc1 : ((Str.ofString "row"), arow) ∈ c.cs := by rw [hcs]; exact .head _
  have hc2 : ((Str.ofString "w"), aw) ∈ c.cs := by rw [hcs]; exact .tail _ (.head _)
  have hg0 : (Str.ofString "divrem_school") ∈ c.gs := by rw [hgs]; exact .head _
  replace S : St g B c [((Str.ofString "a"), .val (.ref a))] H s := S
  have hyb : x < b * b := Nat.lt_of_lt_of_le hM.hi (Nat.mul_le_mul hB.lo hB.lo)
  refine x_retG (ev_itemT G S (ev_callS T 40 4 4 G hA S hg0 (by walk_at "pxs") (divrem_school_spec T hB ha hm hn hM.pos hyb) fun v s2 H2 S2 hp => ?_) (fun _ _ => rfl))
  obtain ⟨t, p, q, rfl, g1, g2, g3, g4⟩ := hp
  refine ⟨t, _, H2, 1, .val (.ref q), rfl, S2, g1, .int, by decide, rfl, fun val s11 hv S11 => ?_⟩
  cases hv
  exact ⟨_, _, _, S11, q, rfl, g3, g4⟩

noncomputable abbrev bTimes (nm : Str) (p1 p2 p3 p4 p5 p6 p7 : Pos) : Expr := .Call (.Name nm p1) [.Call (.Name (Str.ofString "mul_school") p2) [.Name (Str.ofString "a") p3, .Name (Str.ofString "b") p4, .Name (Str.ofString "w") p5] [] p6] [] p7
noncomputable abbrev sTimes (nm : Str) : Scope := scO [((Str.ofString "a"), NameKind.local), ((Str.ofString "b"), NameKind.local), (nm, NameKind.free), ((Str.ofString "w"), NameKind.free), ((Str.ofString "mul_school"), NameKind.globalImplicit)]
theorem times_ok (T : Top γ) {nm : Str} {k b x y z N : Nat} (hB : Bs k b) (hM : Md b x) {p0 p0' p1 p2 p3 p4 p5 p6 p7 : Pos} {f ad aw fd a d : Addr} (hf : Cl H f (pa2 p0 p0') (.expr (bTimes nm p1 p2 p3 p4 p5 p6 p7)) (sTimes nm) [(nm, ad), ((Str.ofString "w"), aw)])
    (hchk : chkF (sTimes nm) [(Str.ofString "a"), (Str.ofString "b")] [(Str.ofString "mul_school")] [nm, (Str.ofString "w")] = true) (h1 : (ad, O.cell (.val (.ref fd))) ∈ H) (h2 : (aw, O.cell (.int k)) ∈ H) (hfd : IsF H fd) (ha : (a, il (lb b y)) ∈ H) (hd : (d, il (lb b z)) ∈ H) (hy : y < 2 ^ 20) (hz : z < 2 ^ 20) (hN : 2 ≤ N)
    (C : ∀ H' r, (∀ p ∈ H, p ∈ H') → (r, il (lb b (y * z))) ∈ H' → SpecF prog w g γ N fd [.val (.ref r)] H' (RetL (lb b (y * z % x)) H')) : SpecF prog w g γ (N + 1) f [.val (.ref a), .val (.ref d)] H (RetL (lb b (y * z % x)) H) := by
  refine clos_e [(Str.ofString "a"), (Str.ofString "b")] [(Str.ofString "mul_school")] _ hf [nm, (Str.ofString "w")] hchk rfl rfl bnd2 fun c A B s hA G hgs hcs S => ?_
  have hc1 : (nm, ad) ∈ c.cs := by rw [hcs]; exact .head _
  have hc2 : ((Str.ofString "w"), aw) ∈ c.cs := by rw [hcs]; exact .tail _ (.head _)
  have hg0 : (Str.ofString "mul_school") ∈ c.gs := by rw [hgs]; exact .head _
  replace S : St g B c [((Str.ofString "a"), .val (.ref a)), ((Str.ofString "b"), .val (.ref d))] H s := S
  refine ev_callFG G S (f := fd) (.nameCV hc1 h1) hfd fun s1 S1 => sp_cons (ev_callS T 34 2 N G hA S1 hg0 (.cons (.nameV (.head _)) (.cons (.nameV (.tail _ (.head _))) (.cons (.nameCI hc2 h2) .nil (fun _ => rfl)) (fun _ => rfl)) (fun _ => rfl)) (mul_school_spec T hB ha hd (by omega) (by omega)) fun v s2 H2 S2 hp => ?_)
  obtain ⟨r, rfl, g1, g2⟩ := hp
  refine sp_nil _ ⟨⟨_, _, _, S2, hfd.more g2⟩, (C H2 r g2 g1 [.ref r] ⟨rfl, trivial⟩).use G hA (Nat.le_refl _) S2 fun v s3 H3 S3 hp => ?_⟩
  obtain ⟨e, rfl, he1, he2⟩ := hp
  exact ⟨_, _, _, S3, e, rfl, he1, fun p hp => he2 p (g2 p hp)⟩

noncomputable abbrev bBarrett (p1 p2 p3 p4 p5 p6 p7 : Pos) : List Stmt := [.Return (some (.Call (.Name (Str.ofString "barrett_rest") p1) [.Name (Str.ofString "a") p2, .Name (Str.ofString "barrett") p3, .Name (Str.ofString "w") p4, .Name (Str.ofString "mul_school") p5] [] p6)) p7]
noncomputable abbrev sBarrett : Scope := scO [((Str.ofString "a"), NameKind.local), ((Str.ofString "barrett"), NameKind.free), ((Str.ofString "w"), NameKind.free), ((Str.ofString "barrett_rest"), NameKind.globalImplicit), ((Str.ofString "mul_school"), NameKind.globalImplicit)]
theorem barrett_ok (T : Top γ) {k b x n : Nat} (hB : Bs k b) (hM : Md b x) {p0 p1 p2 p3 p4 p5 p6 p7 : Pos} {f ab aw t q mm a : Addr} (hf : Cl H f (pa1 p0) (.stmts (bBarrett p1 p2 p3 p4 p5 p6 p7)) sBarrett [((Str.ofString "barrett"), ab), ((Str.ofString "w"), aw)])
    (h1 : (ab, O.cell (.val (.ref t))) ∈ H) (h2 : (aw, O.cell (.int k)) ∈ H) (ht : (t, O.tup [.val (.ref mm), .val (.ref q)]) ∈ H) (hm : (mm, il (lb b x)) ∈ H) (hq : (q, il (lb b (b ^ (2 * (lb b x).length) / x))) ∈ H)
    (ha : (a, il (lb b n)) ∈ H) (hn : n < 2 ^ 50) : SpecF prog w g γ 7 f [.val (.ref a)] H (RetL (lb b (n % x)) H) := by
  refine clos_s [(Str.ofString "a")] [(Str.ofString "barrett_rest"), (Str.ofString "mul_school")] _ hf [(Str.ofString "barrett"), (Str.ofString "w")] (by decide +kernel) rfl rfl bnd1 fun c A B s hA G hgs hcs S => ?_
  have hc1 : ((Str.ofString "barrett"), ab) ∈ c.cs := by rw [hcs]; exact .head _
  have hc2 : ((Str.ofString "w"), aw) ∈ c.cs := by rw [hcs]; exact .tail _ (.head _)
  have hg0 : (Str.ofString "barrett_rest") ∈ c.gs := by rw [hgs]; exact .head _
  have hg1 : (Str.ofString "mul_school") ∈ c.gs := by rw [hgs]; exact .tail _ (.head _)
  replace S : St g B c [((Str.ofString "a"), .val (.ref a))] H s := S
  refine x_retG (ev_callGS T 23 6 6 G hA [] H S hg0 (.cons (.nameV (.head _)) (.cons (.nameCV hc1 h1) (.cons (.nameCI hc2 h2) (.glob 34 hg1 .nil (by decide) rfl) (fun _ => rfl)) (fun _ => rfl)) (fun _ => rfl)) (barrett_rest_spec T hB hM ha ht hm hq hn) fun v s2 H2 S2 hp => ?_)
  exact ⟨_, _, _, S2, hp⟩

noncomputable abbrev bHand (p1 p2 p3 p4 p5 p6 p7 p8 p9 p10 p11 p12 p13 : Pos) : List Stmt := [.Return (some (.IfExp (.Compare (.Call (.Name (Str.ofString "compare") p1) [.Name (Str.ofString "a") p2, .Name (Str.ofString "row") p3] [] p4) [.GtE] [.Constant (.int 0) 0 p5] p6)
  (.Call (.Name (Str.ofString "sub") p7) [.Name (Str.ofString "a") p8, .Name (Str.ofString "row") p9, .Name (Str.ofString "w") p10] [] p11) (.Name (Str.ofString "a") p12) p13)) p13]
noncomputable abbrev sHand : Scope := scO [((Str.ofString "a"), NameKind.local), ((Str.ofString "row"), NameKind.free), ((Str.ofString "w"), NameKind.free), ((Str.ofString "compare"), NameKind.globalImplicit), ((Str.ofString "sub"), NameKind.globalImplicit)]
theorem hand_ok (T : Top γ) {k b x n : Nat} (hB : Bs k b) (hM : Md b x) {p0 p1 p2 p3 p4 p5 p6 p7 p8 p9 p10 p11 p12 p13 p14 : Pos} {f arow aw mm a : Addr}
    (hf : Cl H f (pa1 p0) (.stmts [.Return (some (.IfExp (.Compare (.Call (.Name (Str.ofString "compare") p1) [.Name (Str.ofString "a") p2, .Name (Str.ofString "row") p3] [] p4) [.GtE] [.Constant (.int 0) 0 p5] p6) (.Call (.Name (Str.ofString "sub") p7) [.Name (Str.ofString "a") p8, .Name (Str.ofString "row") p9, .Name (Str.ofString "w") p10] [] p11) (.Name (Str.ofString "a") p12) p13)) p14]) sHand [((Str.ofString "row"), arow), ((Str.ofString "w"), aw)])
    (h1 : (arow, O.cell (.val (.ref mm))) ∈ H) (h2 : (aw, O.cell (.int k)) ∈ H) (hm : (mm, il (lb b x)) ∈ H) (ha : (a, il (lb b n)) ∈ H) (hn : n < 2 * x) : SpecF prog w g γ 3 f [.val (.ref a)] H (RetL (lb b (n % x)) H) := by
  refine clos_s [(Str.ofString "a")] [(Str.ofString "compare"), (Str.ofString "sub")] _ hf [(Str.ofString "row"), (Str.ofString "w")] (by decide +kernel) rfl rfl bnd1 fun c A B s hA G hgs hcs S => ?_
  have hc1 : ((Str.ofString "row"), arow) ∈ c.cs := by rw [hcs]; exact .head _
  have hc2 : ((Str.ofString "w"), aw) ∈ c.cs := by rw [hcs]; exact .tail _ (.head _)
  have hg0 : (Str.ofString "compare") ∈ c.gs := by rw [hgs]; exact .head _
  have hg1 : (Str.ofString "sub") ∈ c.gs := by rw [hgs]; exact .tail _ (.head _)
  replace S : St g B c [((Str.ofString "a"), .val (.ref a))] H s := S
  have hhi := hM.hi
  refine x_retG (wpAny_IfExp (t_cmpGe T hB G hA S hg0 (by walk_at "pxs") ha hm (by omega) (by omega) (by omega) fun s4 S4 => ite_b (fun hb => ?_) fun hb => ?_))
  · simp only [decide_eq_true_eq] at hb
    have e0 : n % x = n - x := by rw [Nat.mod_eq_sub_mod hb, Nat.mod_eq_of_lt (by omega)]
    rw [e0]
    refine ev_callS T 9 2 2 G hA S4 hg1 (by walk_at "pxs") (sub_spec T hB ha hm (by omega) hb) fun v s5 H3 S5 hp => ?_
    obtain ⟨e, rfl, he1, he2⟩ := hp
    exact ⟨_, _, _, S5, e, rfl, he1, he2⟩
  · simp only [decide_eq_false_iff_not] at hb
    rw [Nat.mod_eq_of_lt (by omega)]
    exact px_u G S4 (by walk_at "px") fun s5 S5 => ⟨_, _, _, S5, a, rfl, ha, fun _ hp => hp⟩

noncomputable abbrev bTo (p1 p2 p3 p4 p5 p6 : Pos) : Expr := .Call (.Name (Str.ofString "to_mont") p1) [.Name (Str.ofString "a") p2, .Name (Str.ofString "mont") p3, .Name (Str.ofString "w") p4, .Name (Str.ofString "mul_school") p5] [] p6
noncomputable abbrev sTo : Scope := scO [((Str.ofString "a"), NameKind.local), ((Str.ofString "mont"), NameKind.free), ((Str.ofString "w"), NameKind.free), ((Str.ofString "to_mont"), NameKind.globalImplicit), ((Str.ofString "mul_school"), NameKind.globalImplicit)]
theorem to_ok (T : Top γ) (M : MC γ) {k b x n : Nat} (hB : Bs k b) (hM : Md b x) (hodd : x % 2 = 1) {p0 p1 p2 p3 p4 p5 p6 : Pos} {f am aw o mm a : Addr} (hf : Cl H f (pa1 p0) (.expr (bTo p1 p2 p3 p4 p5 p6)) sTo [((Str.ofString "mont"), am), ((Str.ofString "w"), aw)])
    (h1 : (am, O.cell (.val (.ref o))) ∈ H) (h2 : (aw, O.cell (.int k)) ∈ H) (hT : TM γ b x H o mm) (ha : (a, il (lb b n)) ∈ H) (hn : n < x) : SpecF prog w g γ 6 f [.val (.ref a)] H (RetL (lb b (n * b ^ (lb b x).length % x)) H) := by
  refine clos_e [(Str.ofString "a")] [(Str.ofString "to_mont"), (Str.ofString "mul_school")] _ hf [(Str.ofString "mont"), (Str.ofString "w")] (by decide +kernel) rfl rfl bnd1 fun c A B s hA G hgs hcs S => ?_
  have hc1 : ((Str.ofString "mont"), am) ∈ c.cs := by rw [hcs]; exact .head _
  have hc2 : ((Str.ofString "w"), aw) ∈ c.cs := by rw [hcs]; exact .tail _ (.head _)
  have hg0 : (Str.ofString "to_mont") ∈ c.gs := by rw [hgs]; exact .head _
  have hg1 : (Str.ofString "mul_school") ∈ c.gs := by rw [hgs]; exact .tail _ (.head _)
  replace S : St g B c [((Str.ofString "a"), .val (.ref a))] H s := S
  refine ev_callGS T 30 5 5 G hA [] H S hg0 (.cons (.nameV (.head _)) (.cons (.nameCV hc1 h1) (.cons (.nameCI hc2 h2) (.glob 34 hg1 .nil (by decide) rfl) (fun _ => rfl)) (fun _ => rfl)) (fun _ => rfl)) (to_mont_spec T M hB hM ha hT hn hodd) fun v s2 H2 S2 hp => ?_
  exact ⟨_, _, _, S2, hp⟩

noncomputable abbrev bFrom (p1 p2 p3 p4 p5 : Pos) : Expr := .Call (.Name (Str.ofString "from_mont") p1) [.Name (Str.ofString "a") p2, .Name (Str.ofString "mont") p3, .Name (Str.ofString "w") p4] [] p5
noncomputable abbrev sFrom : Scope := scO [((Str.ofString "a"), NameKind.local), ((Str.ofString "mont"), NameKind.free), ((Str.ofString "w"), NameKind.free), ((Str.ofString "from_mont"), NameKind.globalImplicit)]
theorem from_ok (T : Top γ) (M : MC γ) {k b x d : Nat} (hB : Bs k b) (hM : Md b x) (hodd : x % 2 = 1) {p0 p1 p2 p3 p4 p5 : Pos} {f am aw o mm a : Addr} (hf : Cl H f (pa1 p0) (.expr (bFrom p1 p2 p3 p4 p5)) sFrom [((Str.ofString "mont"), am), ((Str.ofString "w"), aw)])
    (h1 : (am, O.cell (.val (.ref o))) ∈ H) (h2 : (aw, O.cell (.int k)) ∈ H) (hT : TM γ b x H o mm) (ha : (a, il (lb b (d * b ^ (lb b x).length % x))) ∈ H) : SpecF prog w g γ 6 f [.val (.ref a)] H (RetL (lb b (d % x)) H) := by
  refine clos_e [(Str.ofString "a")] [(Str.ofString "from_mont")] _ hf [(Str.ofString "mont"), (Str.ofString "w")] (by decide +kernel) rfl rfl bnd1 fun c A B s hA G hgs hcs S => ?_
  have hc1 : ((Str.ofString "mont"), am) ∈ c.cs := by rw [hcs]; exact .head _
  have hc2 : ((Str.ofString "w"), aw) ∈ c.cs := by rw [hcs]; exact .tail _ (.head _)
  have hg0 : (Str.ofString "from_mont") ∈ c.gs := by rw [hgs]; exact .head _
  replace S : St g B c [((Str.ofString "a"), .val (.ref a))] H s := S
  refine ev_callS T 31 5 5 G hA S hg0 (by walk_at "pxs") (from_mont_spec T M hB hM ha hT (Nat.mod_lt _ hM.pos) rfl hodd) fun v s2 H2 S2 hp => ?_
  exact ⟨_, _, _, S2, hp⟩

noncomputable abbrev bMul (p1 p2 p3 p4 p5 p6 p7 : Pos) : Expr := .Call (.Name (Str.ofString "mont_mul") p1) [.Name (Str.ofString "a") p2, .Name (Str.ofString "b") p3, .Name (Str.ofString "mont") p4, .Name (Str.ofString "w") p5, .Name (Str.ofString "mul_school") p6] [] p7
noncomputable abbrev sMul : Scope := scO [((Str.ofString "a"), NameKind.local), ((Str.ofString "b"), NameKind.local), ((Str.ofString "mont"), NameKind.free), ((Str.ofString "w"), NameKind.free), ((Str.ofString "mont_mul"), NameKind.globalImplicit), ((Str.ofString "mul_school"), NameKind.globalImplicit)]
theorem mul_ok (T : Top γ) (M : MC γ) {k b x d e : Nat} (hB : Bs k b) (hM : Md b x) (hodd : x % 2 = 1) {p0 p0' p1 p2 p3 p4 p5 p6 p7 : Pos} {f am aw o mm a a' : Addr} (hf : Cl H f (pa2 p0 p0') (.expr (bMul p1 p2 p3 p4 p5 p6 p7)) sMul [((Str.ofString "mont"), am), ((Str.ofString "w"), aw)])
    (h1 : (am, O.cell (.val (.ref o))) ∈ H) (h2 : (aw, O.cell (.int k)) ∈ H) (hT : TM γ b x H o mm) (ha : (a, il (lb b (d * b ^ (lb b x).length % x))) ∈ H) (ha' : (a', il (lb b (e * b ^ (lb b x).length % x))) ∈ H) : SpecF prog w g γ 6 f [.val (.ref a), .val (.ref a')] H (RetL (lb b (d * e * b ^ (lb b x).length % x)) H) := by
  refine clos_e [(Str.ofString "a"), (Str.ofString "b")] [(Str.ofString "mont_mul"), (Str.ofString "mul_school")] _ hf [(Str.ofString "mont"), (Str.ofString "w")] (by decide +kernel) rfl rfl bnd2 fun c A B s hA G hgs hcs S => ?_
  have hc1 : ((Str.ofString "mont"), am) ∈ c.cs := by rw [hcs]; exact .head _
  have hc2 : ((Str.ofString "w"), aw) ∈ c.cs := by rw [hcs]; exact .tail _ (.head _)
  have hg0 : (Str.ofString "mont_mul") ∈ c.gs := by rw [hgs]; exact .head _
  have hg1 : (Str.ofString "mul_school") ∈ c.gs := by rw [hgs]; exact .tail _ (.head _)
  replace S : St g B c [((Str.ofString "a"), .val (.ref a)), ((Str.ofString "b"), .val (.ref a'))] H s := S
  refine ev_callGS T 32 5 5 G hA [] H S hg0 (.cons (.nameV (.head _)) (.cons (.nameV (.tail _ (.head _))) (.cons (.nameCV hc1 h1) (.cons (.nameCI hc2 h2) (.glob 34 hg1 .nil (by decide) rfl) (fun _ => rfl)) (fun _ => rfl)) (fun _ => rfl)) (fun _ => rfl)) (mont_mul_spec T M hB hM ha ha' hT (Nat.mod_lt _ hM.pos) (Nat.mod_lt _ hM.pos) rfl rfl hodd) fun v s2 H2 S2 hp => ?_
  exact ⟨_, _, _, S2, hp⟩
end
end

section
open PySem PySem.Calls PySem.W
inductive Spl : Led → Led → Led → Prop
  | nil {R} : Spl R [] R
  | cons {p H C R} : Spl H C R → Spl (p :: H) (p :: C) R
theorem Spl.eq : ∀ {H C R : Led}, Spl H C R → H = C ++ R
  | _, _, _, .nil => rfl
  | _, _, _, .cons h => by rw [h.eq]; rfl

section
variable {prog : Program} {w : World} {g s : Shared} {B : Heap} {c : Cx} {m : Loc} {H Ct R : Led} {A : Around} {E : Value → Shared → Prop} {γ : Gl}

theorem ev_callSP {x : Str} {p p' : Pos} (T : Top γ) (i n k : Nat) {e : Expr} {es : List Expr} {vs : List V} {Post : Value → Led → Prop} {Q : Value → Shared → Prop} (G : GW γ B) (hA : AOk A k) (S : St g B c m H s) (hs : Spl H Ct R) (hx : x ∈ c.gs) (P : PXs c m H (e :: es) vs)
    (C : SpecV prog w g γ n i vs R Post) (h : ∀ v s' R', St g B c m (Ct ++ R') s' → Post v R' → Q v s') (hk : n ≤ k := by omega) (hi : i ∈ theIx := by decide) (hn : (dr i).name = x := by rfl)
    (he : starEach (e :: es) c.env = (false, eval e c.env) :: starEach es c.env := by rfl) :
    wpAny (model prog w) A (eval (.Call (.Name x p) (e :: es) [] p') c.env) Q E s := by
  rw [hs.eq] at S P
  exact ev_callSC T i n k G hA Ct R S hx P C h hk hi hn he
theorem ev_callGP {x : Str} {p p' : Pos} (T : Top γ) (i n k : Nat) {e : Expr} {es : List Expr} {vs : List V} {Post : Value → Led → Prop} {Q : Value → Shared → Prop} (G : GW γ B) (hA : AOk A k) (S : St g B c m H s) (hs : Spl H Ct R) (hx : x ∈ c.gs) (P : PGs γ c m H (e :: es) vs)
    (C : SpecV prog w g γ n i vs R Post) (h : ∀ v s' R', St g B c m (Ct ++ R') s' → Post v R' → Q v s') (hk : n ≤ k := by omega) (hi : i ∈ theIx := by decide) (hn : (dr i).name = x := by rfl)
    (he : starEach (e :: es) c.env = (false, eval e c.env) :: starEach es c.env := by rfl) :
    wpAny (model prog w) A (eval (.Call (.Name x p) (e :: es) [] p') c.env) Q E s := by
  rw [hs.eq] at S P
  exact ev_callGS T i n k G hA Ct R S hx P C h hk hi hn he
theorem ev_callFP {func e : Expr} {es : List Expr} {p' : Pos} {f : Addr} {vs : List V} {Post : Value → Led → Prop} {Q : Value → Shared → Prop} (n k : Nat) (G : GW γ B) (hA : AOk A k) (S : St g B c m H s) (hs : Spl H Ct R) (P : PX c m H false func (.val (.ref f))) (hf : IsF R f)
    (Ps : PXs c m H (e :: es) vs) (C : SpecF prog w g γ n f vs R Post) (h : ∀ v s' R', St g B c m (Ct ++ R') s' → Post v R' → Q v s') (hk : n ≤ k := by omega)
    (heq : eval (.Call func (e :: es) [] p') c.env = (do callWith p' (← eval func c.env) [] (backTo p' (starEach (e :: es) c.env)) []) := by rfl)
    (he : starEach (e :: es) c.env = (false, eval e c.env) :: starEach es c.env := by rfl) (hplain : (backTo p' (starEach es c.env)).any (·.1) = false := by rfl) :
    wpAny (model prog w) A (eval (.Call func (e :: es) [] p') c.env) Q E s := by
  rw [hs.eq] at S P Ps
  exact ev_callFS n k G hA Ct R S P (hf.more fun p hp => List.mem_append_right _ hp) Ps C h hk heq he hplain

theorem clos_get (S : St g B c m H s) {scope : Scope} {fc : List (Str × Addr)} (hfc : ∀ p ∈ fc, p ∈ c.cs ∧ (p.1, NameKind.free) ∈ scope.names) : ∀ p ∈ fc, (clOf c.env scope.names []).lookup p.1 = some p.2 := fun p hp =>
  clOf_lookup (S.kx.cl p (hfc p hp).1).2.1 (.inl (hfc p hp).2)

noncomputable def freeIn (scope : Scope) (fs : List Str) : Bool := (scope.names.all fun x => decide (x.2 ≠ .free) || fs.contains x.1) && (fs.all fun x => scope.names.contains (x, .free))
theorem freeIn.one {scope : Scope} {fc : List (Str × Addr)} {fs : List Str} (h : freeIn scope fs = true) (hfs : fc.map (·.1) = fs) (hfc : ∀ p ∈ fc, p ∈ c.cs) :
    (∀ x ∈ scope.names, x.2 = .free → ∃ a, (x.1, a) ∈ c.cs) ∧ (∀ p ∈ fc, p ∈ c.cs ∧ (p.1, NameKind.free) ∈ scope.names) := by
  unfold freeIn at h
  rw [Bool.and_eq_true] at h
  refine ⟨fun x hx hl => ?_, fun p hp => ⟨hfc p hp, ?_⟩⟩
  · have := List.all_eq_true.mp h.1 x hx
    rw [Bool.or_eq_true] at this
    rcases this with h | h
    · exact absurd hl (of_decide_eq_true h)
    · have h' : x.1 ∈ fs := by simpa using h
      rw [← hfs] at h'
      obtain ⟨p, hp, e⟩ := List.mem_map.mp h'
      exact ⟨p.2, by rw [← e]; exact hfc p hp⟩
  · have := List.all_eq_true.mp h.2 p.1 (by rw [← hfs]; exact List.mem_map_of_mem hp)
    simpa using this

theorem x_defP {name : Str} {params : Arguments} {body : List Stmt} {scope : Scope} {pos : Pos} {cc P : Addr} {done : List (Nat × Nat)} {rest : List Stmt} {Q : Flow → Shared → Prop} (G : GW γ B) (M : Mk γ B cc P) (S : St g B c m ((P, tabO done) :: H) s) (hs : Spl H Ct R) (hcode : c.env.code = .ref cc)
    (hpos : (pos.line, pos.col) ∉ done) (fc : List (Str × Addr)) (fs : List Str) (hfr : freeIn scope fs = true) (hfs : fc.map (·.1) = fs) (hfc : ∀ p ∈ fc, p ∈ c.cs)
    {m' : Addr → Loc} {Cs : Addr → Led} (hst : ∀ f R, Sto c m (Ct ++ R) name (.val (.ref f)) (m' f) (Cs f ++ R))
    (k : ∀ f s' R', St g B c (m' f) ((P, tabO ((pos.line, pos.col) :: done)) :: (Cs f ++ R')) s' → Cl R' f params (.stmts body) scope fc → (∀ p ∈ R, p ∈ R') → wpAny (model prog w) A (execs rest c.env) Q E s')
    (hd0 : params.defaults = [] := by rfl) (hk0 : params.kw_defaults = [] := by rfl) (ha : annTrees params none c.env = [] := by rfl) :
    wpAny (model prog w) A (execs (.FunctionDef name params body [] none [] scope none name pos :: rest) c.env) Q E s := by
  obtain ⟨h1, h2⟩ := freeIn.one hfr hfs hfc
  have hg := clos_get S h2
  rw [hs.eq] at S
  refine x_def G M S hcode hpos h1 (m' := m') (H' := fun f => Cs f ++ R) (fun f => hst f R) (fun qual f c' s2 S2 => ?_) hd0 hk0 ha
  exact k f s2 ((f, fnO name qual params (.stmts body) scope (clOf c.env scope.names []) c') :: (c', codeO qual) :: R) (S2.perm (perm_shift [(f, fnO name qual params (.stmts body) scope (clOf c.env scope.names []) c'), (c', codeO qual)] ((P, tabO ((pos.line, pos.col) :: done)) :: Cs f) R))
    ⟨_, _, _, _, .head _, .tail _ (.head _), hg⟩ fun p hp => .tail _ (.tail _ hp)

theorem ev_lamP {params : Arguments} {body : Expr} {scope : Scope} {pos : Pos} {cc P : Addr} {done : List (Nat × Nat)} {Q : Value → Shared → Prop} (G : GW γ B) (M : Mk γ B cc P) (S : St g B c m ((P, tabO done) :: H) s) (hs : Spl H Ct R) (hcode : c.env.code = .ref cc)
    (hpos : (pos.line, pos.col) ∉ done) (fc : List (Str × Addr)) (fs : List Str) (hfr : freeIn scope fs = true) (hfs : fc.map (·.1) = fs) (hfc : ∀ p ∈ fc, p ∈ c.cs)
    (k : ∀ f s' R', St g B c m ((P, tabO ((pos.line, pos.col) :: done)) :: (Ct ++ R')) s' → Cl R' f params (.expr body) scope fc → (∀ p ∈ R, p ∈ R') → Q (.ref f) s')
    (hdef : defaultsOf params c.env = ([], []) := by rfl) :
    wpAny (model prog w) A (eval (.Lambda params body scope pos) c.env) Q E s := by
  obtain ⟨h1, h2⟩ := freeIn.one hfr hfs hfc
  have hg := clos_get S h2
  rw [hs.eq] at S
  refine ev_lam G M S hcode hpos h1 (fun f c' s2 S2 => ?_) hdef
  exact k f s2 ((f, fnO "<lambda>" (c.env.qual ++ "<lambda>") params (.expr body) scope (clOf c.env scope.names []) c') :: (c', codeO (c.env.qual ++ "<lambda>")) :: R) (S2.perm (perm_shift [(f, fnO "<lambda>" (c.env.qual ++ "<lambda>") params (.expr body) scope (clOf c.env scope.names []) c'), (c', codeO (c.env.qual ++ "<lambda>"))] ((P, tabO ((pos.line, pos.col) :: done)) :: Ct) R))
    ⟨_, _, _, _, .head _, .tail _ (.head _), hg⟩ fun p hp => .tail _ (.tail _ hp)

theorem ev_newTupleP {vs : List V} {xs : List Value} {Q : Value → Shared → Prop} (S : St g B c m H s) (hs : Spl H Ct R) (ha : AllIs vs xs) (hsz : vs.length ≤ bigN) (k : ∀ r s' R', St g B c m (Ct ++ R') s' → (r, O.tup vs) ∈ R' → (∀ p ∈ R, p ∈ R') → Q (.ref r) s') :
    wpAny (model prog w) A (newTuple xs) Q E s := by
  rw [hs.eq] at S
  exact ev_newTuple S ha hsz fun r s' S' => k r s' ((r, O.tup vs) :: R) (S'.perm (perm_shift [(r, O.tup vs)] Ct R)) (.head _) fun p hp => .tail _ hp
theorem ev_newListP {vs : List V} {xs : List Value} {Q : Value → Shared → Prop} (S : St g B c m H s) (hs : Spl H Ct R) (ha : AllIs vs xs) (hsz : vs.length ≤ bigN) (k : ∀ r s' R', St g B c m (Ct ++ R') s' → (r, O.list vs) ∈ R' → (∀ p ∈ R, p ∈ R') → Q (.ref r) s') :
    wpAny (model prog w) A (newList xs) Q E s := by
  rw [hs.eq] at S
  exact ev_newList S ha hsz fun r s' S' => k r s' ((r, O.list vs) :: R) (S'.perm (perm_shift [(r, O.list vs)] Ct R)) (.head _) fun p hp => .tail _ hp

theorem Spec.post {n : Nat} {f : Value} {vals : List Value} {Post Post' : Value → Led → Prop} (h : Spec prog w g γ n f vals H Post) (hp : ∀ v H', Post v H' → Post' v H') : Spec prog w g γ n f vals H Post' :=
  fun A s B hA G S => wpAny_mono (h A s B hA G S) (fun v s' ⟨H', S', P⟩ => ⟨H', S', hp _ _ P⟩) fun _ _ e => e

/-- a machine stands in the ledger: its forms are the rows of y * R % x -/
noncomputable def Mach (prog : Program) (w : World) (g : Shared) (γ : Gl) (b x R : Nat) (H : Led) (t : Addr) : Prop :=
  ∃ f0 f1 f2 f3, (t, O.tup [.val (.ref f0), .val (.ref f1), .val (.ref f2), .val (.ref f3)]) ∈ H ∧ IsF H f0 ∧ IsF H f1 ∧ IsF H f2 ∧ IsF H f3 ∧
  ∀ H', (∀ p ∈ H, p ∈ H') →
    (∀ a y, (a, il (lb b y)) ∈ H' → y < x → SpecF prog w g γ 8 f0 [.val (.ref a)] H' (RetL (lb b (y * R % x)) H')) ∧
    (∀ a y, (a, il (lb b (y * R % x))) ∈ H' → SpecF prog w g γ 8 f1 [.val (.ref a)] H' (RetL (lb b (y % x)) H')) ∧
    (∀ a y, (a, il (lb b y)) ∈ H' → y < 2 * x → SpecF prog w g γ 8 f2 [.val (.ref a)] H' (RetL (lb b (y % x)) H')) ∧
    (∀ a d y z, (a, il (lb b (y * R % x))) ∈ H' → (d, il (lb b (z * R % x))) ∈ H' → SpecF prog w g γ 8 f3 [.val (.ref a), .val (.ref d)] H' (RetL (lb b (y * z * R % x)) H'))
theorem Mach.more {b x r : Nat} {H H' : Led} {t : Addr} (h : Mach prog w g γ b x r H t) (hs : ∀ p ∈ H, p ∈ H') : Mach prog w g γ b x r H' t :=
  Exists.elim h fun f0 h => Exists.elim h fun f1 h => Exists.elim h fun f2 h => Exists.elim h fun f3 h =>
  ⟨f0, f1, f2, f3, hs _ h.1, h.2.1.more hs, h.2.2.1.more hs, h.2.2.2.1.more hs, h.2.2.2.2.1.more hs, fun H'' hs' => h.2.2.2.2.2 H'' fun p hp => hs' p (hs p hp)⟩

/-- a machine of plain rests -/
theorem mach_plain (T : Top γ) {nm : Str} {k b x : Nat} (hB : Bs k b) (hM : Md b x) {t f0 f1 f2 f3 ad aw : Addr} {p1 p2 q1 q2 p0 p0' p3 p4 p5 p6 p7 p8 p9 : Pos} (ht : (t, O.tup [.val (.ref f0), .val (.ref f1), .val (.ref f2), .val (.ref f3)]) ∈ H)
    (h0 : Cl H f0 (pa1 p1) (.expr (bIdent p2)) sIdent []) (h1 : Cl H f1 (pa1 q1) (.expr (bIdent q2)) sIdent []) (hf2 : IsF H f2)
    (h3 : Cl H f3 (pa2 p0 p0') (.expr (bTimes nm p3 p4 p5 p6 p7 p8 p9)) (sTimes nm) [(nm, ad), ((Str.ofString "w"), aw)]) (hchk : chkF (sTimes nm) [(Str.ofString "a"), (Str.ofString "b")] [(Str.ofString "mul_school")] [nm, (Str.ofString "w")] = true)
    (hd : (ad, O.cell (.val (.ref f2))) ∈ H) (hw : (aw, O.cell (.int k)) ∈ H)
    (h2 : ∀ H' a y, (∀ p ∈ H, p ∈ H') → (a, il (lb b y)) ∈ H' → y < 2 ^ 50 → SpecF prog w g γ 7 f2 [.val (.ref a)] H' (RetL (lb b (y % x)) H')) :
    Mach prog w g γ b x 1 H t := by
  have hhi := hM.hi
  have hpos := hM.pos
  refine ⟨f0, f1, f2, f3, ht, h0.isF, h1.isF, hf2, h3.isF, fun H' hs => ⟨fun a y ha hy vals hv => ?_, fun a y ha vals hv => ?_, fun a y ha hy => (h2 H' a y hs ha (by omega)).le (by omega), fun a d y z ha hd' => ?_⟩⟩
  · refine ((ident_ok (x := .ref a) (h0.more hs) vals hv).post fun v H2 hp => ?_).le (by omega)
    rw [Nat.mul_one, Nat.mod_eq_of_lt hy, hp.1, hp.2]
    exact ⟨a, rfl, ha, fun _ h => h⟩
  · refine ((ident_ok (x := .ref a) (h1.more hs) vals hv).post fun v H2 hp => ?_).le (by omega)
    rw [Nat.mul_one] at ha
    rw [hp.1, hp.2]
    exact ⟨a, rfl, ha, fun _ h => h⟩
  · have h1' : y * 1 % x < x := Nat.mod_lt _ hpos
    have h2' : z * 1 % x < x := Nat.mod_lt _ hpos
    have e : y * z * 1 % x = (y * 1 % x) * (z * 1 % x) % x := by rw [Nat.mul_one, Nat.mul_one, Nat.mul_one, ← Nat.mul_mod]
    have hle : (y * 1 % x) * (z * 1 % x) ≤ 255 * 255 := Nat.mul_le_mul (by omega) (by omega)
    rw [e]
    exact times_ok T (N := 7) hB hM (h3.more hs) hchk (hs _ hd) (hs _ hw) (hf2.more hs) ha hd' (by omega) (by omega) (by omega) fun H2 r hs2 hr => h2 H2 r _ (fun p hp => hs2 p (hs p hp)) hr (by omega)

/-- Montgomery's machine -/
theorem mach_mont (T : Top γ) (M : MC γ) {k b x : Nat} (hB : Bs k b) (hM : Md b x) (hodd : x % 2 = 1) {t f0 f1 f2 f3 am arow aw o mm : Addr} {u0 u1 u2 u3 u4 u5 u6 v0 v1 v2 v3 v4 v5 y0 y1 y2 y3 y4 y5 y6 y7 y8 p0 p1 p2 p3 p4 p5 p6 p7 p8 p9 p10 p11 p12 p13 p14 : Pos} (ht : (t, O.tup [.val (.ref f0), .val (.ref f1), .val (.ref f2), .val (.ref f3)]) ∈ H)
    (h0 : Cl H f0 (pa1 u0) (.expr (bTo u1 u2 u3 u4 u5 u6)) sTo [((Str.ofString "mont"), am), ((Str.ofString "w"), aw)]) (h1 : Cl H f1 (pa1 v0) (.expr (bFrom v1 v2 v3 v4 v5)) sFrom [((Str.ofString "mont"), am), ((Str.ofString "w"), aw)])
    (h2 : Cl H f2 (pa1 p0) (.stmts [.Return (some (.IfExp (.Compare (.Call (.Name (Str.ofString "compare") p1) [.Name (Str.ofString "a") p2, .Name (Str.ofString "row") p3] [] p4) [.GtE] [.Constant (.int 0) 0 p5] p6) (.Call (.Name (Str.ofString "sub") p7) [.Name (Str.ofString "a") p8, .Name (Str.ofString "row") p9, .Name (Str.ofString "w") p10] [] p11) (.Name (Str.ofString "a") p12) p13)) p14]) sHand [((Str.ofString "row"), arow), ((Str.ofString "w"), aw)])
    (h3 : Cl H f3 (pa2 y0 y8) (.expr (bMul y1 y2 y3 y4 y5 y6 y7)) sMul [((Str.ofString "mont"), am), ((Str.ofString "w"), aw)])
    (hm : (am, O.cell (.val (.ref o))) ∈ H) (hr : (arow, O.cell (.val (.ref mm))) ∈ H) (hw : (aw, O.cell (.int k)) ∈ H) (hT : TM γ b x H o mm) (hmm : (mm, il (lb b x)) ∈ H) :
    Mach prog w g γ b x (b ^ (lb b x).length) H t :=
  ⟨f0, f1, f2, f3, ht, h0.isF, h1.isF, h2.isF, h3.isF, fun H' hs =>
    ⟨fun a y ha hy => (to_ok T M hB hM hodd (h0.more hs) (hs _ hm) (hs _ hw) (hT.mono hs) ha hy).le (by omega),
     fun a y ha => (from_ok T M hB hM hodd (h1.more hs) (hs _ hm) (hs _ hw) (hT.mono hs) ha).le (by omega),
     fun a y ha hy => (hand_ok T hB hM (h2.more hs) (hs _ hr) (hs _ hw) (hs _ hmm) ha hy).le (by omega),
     fun a d y z ha hd => (mul_ok T M hB hM hodd (h3.more hs) (hs _ hm) (hs _ hw) (hT.mono hs) ha hd).le (by omega)⟩⟩
end
end

local macro_rules | `(tactic| walk_at "spl") => `(tactic| first | ((with_reducible refine' Spl.cons ?a); (case a => walk_at "spl")) | with_reducible exact Spl.nil)
local macro_rules | `(tactic| walk_at "putc") => `(tactic| first | with_reducible exact PutC.head | ((with_reducible refine' PutC.tail ?a); (case a => walk_at "putc")))
section
open PySem PySem.Calls PySem.W
theorem Mk.of {γ : Gl} {B : Heap} (G : GW γ B) {cc P : Addr} (h : codeHdIn γ.K cc P = true) : Mk γ B cc P := ⟨codeHd_of_K G.X h, G.bm⟩

/-- the code of _law_machines and its table -/
structure MT (γ : Gl) (cc P : Addr) : Prop where
  tab : tabIn γ.K (Str.ofString "_law_machines") = some (cc, P)
  hd : codeHdIn γ.K cc P = true

section
variable {prog : Program} {w : World} {g s : Shared} {B : Heap} {c : Cx} {m : Loc} {H : Led} {A : Around} {E : Value → Shared → Prop} {γ : Gl}

noncomputable def RetM (prog : Program) (w : World) (g : Shared) (γ : Gl) (b x : Nat) (P : Addr) (H : Led) : Value → Led → Prop := fun v H' => ∃ l t0 t1 t2 done, v = .ref l ∧ (l, O.list [.val (.ref t0), .val (.ref t1), .val (.ref t2)]) ∈ H' ∧
  Mach prog w g γ b x 1 H' t0 ∧ Mach prog w g γ b x 1 H' t1 ∧ Mach prog w g γ b x (b ^ (lb b x).length) H' t2 ∧ (P, tabO done) ∈ H' ∧ ∀ p ∈ H, p ∈ H'

theorem machines_spec (T : Top γ) (M : MI γ) (hcl : γ.mg (Str.ofString "Montgomery") = some (.ref γ.C)) {cc P : Addr} (W : MT γ cc P) {k b x : Nat} (hB : Bs k b) (hM : Md b x) (hodd : x % 2 = 1) (hx3 : 3 ≤ x) {H H0 : Led} (hH : H = (P, tabO []) :: H0) :
    SpecV prog w g γ 6 45 [.int x, .int k] H (RetM prog w g γ b x P H0) := by
  refine def_specCC T 45 5 [(Str.ofString "m"), (Str.ofString "w")] [.int x, .int k] [((Str.ofString "m"), .int x), ((Str.ofString "by_hand"), V.any)] [((Str.ofString "row"), V.any), ((Str.ofString "mont"), V.any), ((Str.ofString "divided"), V.any), ((Str.ofString "by_barrett"), V.any), ((Str.ofString "barrett"), V.any), ((Str.ofString "w"), .int k)] [(Str.ofString "m"), (Str.ofString "by_hand")] [(Str.ofString "row"), (Str.ofString "mont"), (Str.ofString "divided"), (Str.ofString "by_barrett"), (Str.ofString "barrett"), (Str.ofString "w")] [(Str.ofString "_law_limbs"), (Str.ofString "barrett_make"), (Str.ofString "divrem_school"), (Str.ofString "mont_make")] rfl (fun cx A B s1 as hA G hcode hgs has hcs S1 => ?_) (by decide +kernel) rfl rfl rfl (by walk_at "hmc") (by walk_at "hmc") (by intro k; rfl) (by walk_at "bnd")
  obtain ⟨arow, amont, adivided, aby_barrett, abarrett, aw, rfl⟩ := len6 has
  replace hcs : cx.cs = [((Str.ofString "row"), arow), ((Str.ofString "mont"), amont), ((Str.ofString "divided"), adivided), ((Str.ofString "by_barrett"), aby_barrett), ((Str.ofString "barrett"), abarrett), ((Str.ofString "w"), aw)] := hcs
  have hc0 : ((Str.ofString "row"), arow) ∈ cx.cs := by rw [hcs]; walk_at "mem"
  have hc1 : ((Str.ofString "mont"), amont) ∈ cx.cs := by rw [hcs]; walk_at "mem"
  have hc2 : ((Str.ofString "divided"), adivided) ∈ cx.cs := by rw [hcs]; walk_at "mem"
  have hc3 : ((Str.ofString "by_barrett"), aby_barrett) ∈ cx.cs := by rw [hcs]; walk_at "mem"
  have hc4 : ((Str.ofString "barrett"), abarrett) ∈ cx.cs := by rw [hcs]; walk_at "mem"
  have hc5 : ((Str.ofString "w"), aw) ∈ cx.cs := by rw [hcs]; walk_at "mem"
  replace S1 : St g B cx [((Str.ofString "m"), .int x), ((Str.ofString "by_hand"), V.any)] ((arow, O.cell (V.any)) :: (amont, O.cell (V.any)) :: (adivided, O.cell (V.any)) :: (aby_barrett, O.cell (V.any)) :: (abarrett, O.cell (V.any)) :: (aw, O.cell (.int k)) :: H) s1 := S1
  have hg0 : (Str.ofString "_law_limbs") ∈ cx.gs := by rw [hgs]; walk_at "mem"
  have hg1 : (Str.ofString "barrett_make") ∈ cx.gs := by rw [hgs]; walk_at "mem"
  have hg2 : (Str.ofString "divrem_school") ∈ cx.gs := by rw [hgs]; walk_at "mem"
  have hg3 : (Str.ofString "mont_make") ∈ cx.gs := by rw [hgs]; walk_at "mem"
  clear hgs
  subst hH
  have hhi := hM.hi
  have hcc : cx.env.code = .ref cc := by
    obtain ⟨o, pm, code, doc, h1, h2, h3⟩ := hcode
    have hm := (G.fn 45 (by rw [T.ix]; decide)).1
    rw [T.D] at hm
    rw [h3]
    exact law_code (x := (Str.ofString "_law_machines")) G.X G.g W.tab hm h1 h2
  have K := Mk.of G W.hd
  have S2 := S1.perm (List.perm_middle (l₁ := [(arow, O.cell V.any), (amont, O.cell V.any), (adivided, O.cell V.any), (aby_barrett, O.cell V.any), (abarrett, O.cell V.any), (aw, O.cell (V.int k))]))
  dsimp only [List.cons_append, List.nil_append] at S2
  refine x_stoG S2 (ev_callSP T 43 1 5 G hA S2 (by walk_at "spl") hg0 (by walk_at "pxs") (limbs_spec T hB (n := x) (by omega)) fun v s3 R3 S3 hp => ?_)
  obtain ⟨mm, rfl, hm, hs3⟩ := hp
  dsimp only [List.cons_append, List.nil_append] at S3
  refine ⟨.val (.ref mm), _, _, _, _, rfl, S3, .cel hc0 (by walk_at "putc"), fun s4 S4 => ?_⟩
  refine x_tup2 hA.hd S4 hc1 (.inr rfl) (sp_cons (ev_callGP T 20 5 5 G hA S4 (by walk_at "spl") hg1 (.cons (by walk_at "px") (.cons (by walk_at "px") (.glob 40 hg2 .nil (by decide) rfl) (fun _ => rfl)) (fun _ => rfl)) (barrett_make_spec T hB hM hm) fun v s5 R5 S5 hp => ?_))
  obtain ⟨t, q, rfl, ht, hq, hs5⟩ := hp
  dsimp only [List.cons_append, List.nil_append] at S5
  refine sp_cons (ev_callSP T 26 4 5 G hA S5 (by walk_at "spl") hg3 (by walk_at "pxs") (mont_make_spec T M hcl hB hM hodd hx3 (hs5 _ hm)) fun v s6 R6 S6 hp => ?_)
  obtain ⟨o, rfl, hTM, hs6⟩ := hp
  dsimp only [List.cons_append, List.nil_append] at S6
  refine sp_nil _ ⟨.val (.ref t), .val (.ref o), _, _, _, _, _, _, ⟨rfl, rfl, trivial⟩, S6, .cel hc4 (by walk_at "putc"), .cel hc1 (by walk_at "putc"), fun s7 S7 => ?_⟩
  have hf1 : ∀ p ∈ [((Str.ofString "row"), arow), ((Str.ofString "w"), aw)], p ∈ cx.cs := fun p hp => by
    rcases List.mem_cons.mp hp with rfl | hp
    · exact hc0
    rcases List.mem_cons.mp hp with rfl | hp
    · exact hc5
    · cases hp
  have hf2 : ∀ p ∈ [((Str.ofString "barrett"), abarrett), ((Str.ofString "w"), aw)], p ∈ cx.cs := fun p hp => by
    rcases List.mem_cons.mp hp with rfl | hp
    · exact hc4
    rcases List.mem_cons.mp hp with rfl | hp
    · exact hc5
    · cases hp
  have hf3 : ∀ p ∈ [((Str.ofString "divided"), adivided), ((Str.ofString "w"), aw)], p ∈ cx.cs := fun p hp => by
    rcases List.mem_cons.mp hp with rfl | hp
    · exact hc2
    rcases List.mem_cons.mp hp with rfl | hp
    · exact hc5
    · cases hp
  have hf4 : ∀ p ∈ [((Str.ofString "by_barrett"), aby_barrett), ((Str.ofString "w"), aw)], p ∈ cx.cs := fun p hp => by
    rcases List.mem_cons.mp hp with rfl | hp
    · exact hc3
    rcases List.mem_cons.mp hp with rfl | hp
    · exact hc5
    · cases hp
  have hf5 : ∀ p ∈ [((Str.ofString "mont"), amont), ((Str.ofString "w"), aw)], p ∈ cx.cs := fun p hp => by
    rcases List.mem_cons.mp hp with rfl | hp
    · exact hc1
    rcases List.mem_cons.mp hp with rfl | hp
    · exact hc5
    · cases hp
  have hf0 : ∀ p ∈ ([] : List (Str × Addr)), p ∈ cx.cs := fun p hp => by cases hp
  refine x_defP G K S7 (by walk_at "spl") hcc (by decide) _ [(Str.ofString "row"), (Str.ofString "w")] (by decide +kernel) rfl hf1 (m' := fun _ => [((Str.ofString "m"), V.int x), ((Str.ofString "by_hand"), V.any)]) (Cs := fun f => [(arow, O.cell (V.val (.ref mm))), (amont, O.cell (V.val (.ref o))), (adivided, O.cell (V.val (.ref f))), (aby_barrett, O.cell (V.any)), (abarrett, O.cell (V.val (.ref t))), (aw, O.cell (V.int k))]) (fun f R => .cel hc2 (.tail (.tail .head))) fun fd s8 R8 S8 hcl8 hs8 => ?_
  dsimp only [List.cons_append, List.nil_append] at S8
  refine x_defP G K S8 (by walk_at "spl") hcc (by decide) _ [(Str.ofString "barrett"), (Str.ofString "w")] (by decide +kernel) rfl hf2 (m' := fun _ => [((Str.ofString "m"), V.int x), ((Str.ofString "by_hand"), V.any)]) (Cs := fun f => [(arow, O.cell (V.val (.ref mm))), (amont, O.cell (V.val (.ref o))), (adivided, O.cell (V.val (.ref fd))), (aby_barrett, O.cell (V.val (.ref f))), (abarrett, O.cell (V.val (.ref t))), (aw, O.cell (V.int k))]) (fun f R => .cel hc3 (.tail (.tail (.tail .head)))) fun fb s9 R9 S9 hcl9 hs9 => ?_
  dsimp only [List.cons_append, List.nil_append] at S9
  refine x_defP G K S9 (by walk_at "spl") hcc (by decide) _ [(Str.ofString "row"), (Str.ofString "w")] (by decide +kernel) rfl hf1 (m' := fun f => [((Str.ofString "m"), V.int x), ((Str.ofString "by_hand"), .val (.ref f))]) (Cs := fun f => [(arow, O.cell (V.val (.ref mm))), (amont, O.cell (V.val (.ref o))), (adivided, O.cell (V.val (.ref fd))), (aby_barrett, O.cell (V.val (.ref fb))), (abarrett, O.cell (V.val (.ref t))), (aw, O.cell (V.int k))]) (fun f R => .loc (.tail .head)) fun fh s10 R10 S10 hcl10 hs10 => ?_
  dsimp only [List.cons_append, List.nil_append] at S10
  refine x_retG (ev_List (sp_cons (ev_Tuple ?_)))
  refine sp_cons (ev_lamP G K S10 (by walk_at "spl") hcc (by decide) _ [] (by decide +kernel) rfl hf0 fun f00 s11 R11 S11 hcl11 hs11 => ?_)
  dsimp only [List.cons_append, List.nil_append] at S11
  refine sp_cons (ev_lamP G K S11 (by walk_at "spl") hcc (by decide) _ [] (by decide +kernel) rfl hf0 fun f01 s12 R12 S12 hcl12 hs12 => ?_)
  dsimp only [List.cons_append, List.nil_append] at S12
  refine sp_cons (px_u G S12 (u := .ref fd) (by walk_at "px") fun s13 S13 => ?_)
  refine sp_cons (ev_lamP G K S13 (by walk_at "spl") hcc (by decide) _ [(Str.ofString "divided"), (Str.ofString "w")] (by decide +kernel) rfl hf3 fun f03 s14 R14 S14 hcl14 hs14 => ?_)
  dsimp only [List.cons_append, List.nil_append] at S14
  refine sp_nil _ (ev_newTupleP S14 (by walk_at "spl") (vs := [V.val (.ref f00), V.val (.ref f01), V.val (.ref fd), V.val (.ref f03)]) ⟨rfl, rfl, rfl, rfl, trivial⟩ (by simp [bigN]) fun t0 s15 R15 S15 ht0 hs15 => ?_)
  dsimp only [List.cons_append, List.nil_append] at S15
  refine sp_cons (ev_Tuple ?_)
  refine sp_cons (ev_lamP G K S15 (by walk_at "spl") hcc (by decide) _ [] (by decide +kernel) rfl hf0 fun f10 s16 R16 S16 hcl16 hs16 => ?_)
  dsimp only [List.cons_append, List.nil_append] at S16
  refine sp_cons (ev_lamP G K S16 (by walk_at "spl") hcc (by decide) _ [] (by decide +kernel) rfl hf0 fun f11 s17 R17 S17 hcl17 hs17 => ?_)
  dsimp only [List.cons_append, List.nil_append] at S17
  refine sp_cons (px_u G S17 (u := .ref fb) (by walk_at "px") fun s18 S18 => ?_)
  refine sp_cons (ev_lamP G K S18 (by walk_at "spl") hcc (by decide) _ [(Str.ofString "by_barrett"), (Str.ofString "w")] (by decide +kernel) rfl hf4 fun f13 s19 R19 S19 hcl19 hs19 => ?_)
  dsimp only [List.cons_append, List.nil_append] at S19
  refine sp_nil _ (ev_newTupleP S19 (by walk_at "spl") (vs := [V.val (.ref f10), V.val (.ref f11), V.val (.ref fb), V.val (.ref f13)]) ⟨rfl, rfl, rfl, rfl, trivial⟩ (by simp [bigN]) fun t1 s20 R20 S20 ht1 hs20 => ?_)
  dsimp only [List.cons_append, List.nil_append] at S20
  refine sp_cons (ev_Tuple ?_)
  refine sp_cons (ev_lamP G K S20 (by walk_at "spl") hcc (by decide) _ [(Str.ofString "mont"), (Str.ofString "w")] (by decide +kernel) rfl hf5 fun f20 s21 R21 S21 hcl21 hs21 => ?_)
  dsimp only [List.cons_append, List.nil_append] at S21
  refine sp_cons (ev_lamP G K S21 (by walk_at "spl") hcc (by decide) _ [(Str.ofString "mont"), (Str.ofString "w")] (by decide +kernel) rfl hf5 fun f21 s22 R22 S22 hcl22 hs22 => ?_)
  dsimp only [List.cons_append, List.nil_append] at S22
  refine sp_cons (px_u G S22 (u := .ref fh) (by walk_at "px") fun s23 S23 => ?_)
  refine sp_cons (ev_lamP G K S23 (by walk_at "spl") hcc (by decide) _ [(Str.ofString "mont"), (Str.ofString "w")] (by decide +kernel) rfl hf5 fun f23 s24 R24 S24 hcl24 hs24 => ?_)
  dsimp only [List.cons_append, List.nil_append] at S24
  refine sp_nil _ (ev_newTupleP S24 (by walk_at "spl") (vs := [V.val (.ref f20), V.val (.ref f21), V.val (.ref fh), V.val (.ref f23)]) ⟨rfl, rfl, rfl, rfl, trivial⟩ (by simp [bigN]) fun t2 s25 R25 S25 ht2 hs25 => ?_)
  dsimp only [List.cons_append, List.nil_append] at S25
  refine sp_nil _ (ev_newListP S25 (by walk_at "spl") (vs := [V.val (.ref t0), V.val (.ref t1), V.val (.ref t2)]) ⟨rfl, rfl, rfl, trivial⟩ (by simp [bigN]) fun l s26 R26 S26 hl hs26 => ?_)
  dsimp only [List.cons_append, List.nil_append] at S26
  have key : ∀ (Hf : Led) done, (P, tabO done) ∈ Hf → (arow, O.cell (V.val (.ref mm))) ∈ Hf → (amont, O.cell (V.val (.ref o))) ∈ Hf → (adivided, O.cell (V.val (.ref fd))) ∈ Hf → (aby_barrett, O.cell (V.val (.ref fb))) ∈ Hf → (abarrett, O.cell (V.val (.ref t))) ∈ Hf →
      (aw, O.cell (V.int k)) ∈ Hf → (∀ p ∈ R26, p ∈ Hf) → RetM prog w g γ b x P H0 (.ref l) Hf := by
    intro Hf done k1 k2 k3 k4 k5 k6 k7 u26
    have u25 : ∀ p ∈ R25, p ∈ Hf := fun p hp => u26 p (hs26 p hp)
    have u24 : ∀ p ∈ R24, p ∈ Hf := fun p hp => u25 p (hs25 p hp)
    have u22 : ∀ p ∈ R22, p ∈ Hf := fun p hp => u24 p (hs24 p hp)
    have u21 : ∀ p ∈ R21, p ∈ Hf := fun p hp => u22 p (hs22 p hp)
    have u20 : ∀ p ∈ R20, p ∈ Hf := fun p hp => u21 p (hs21 p hp)
    have u19 : ∀ p ∈ R19, p ∈ Hf := fun p hp => u20 p (hs20 p hp)
    have u17 : ∀ p ∈ R17, p ∈ Hf := fun p hp => u19 p (hs19 p hp)
    have u16 : ∀ p ∈ R16, p ∈ Hf := fun p hp => u17 p (hs17 p hp)
    have u15 : ∀ p ∈ R15, p ∈ Hf := fun p hp => u16 p (hs16 p hp)
    have u14 : ∀ p ∈ R14, p ∈ Hf := fun p hp => u15 p (hs15 p hp)
    have u12 : ∀ p ∈ R12, p ∈ Hf := fun p hp => u14 p (hs14 p hp)
    have u11 : ∀ p ∈ R11, p ∈ Hf := fun p hp => u12 p (hs12 p hp)
    have u10 : ∀ p ∈ R10, p ∈ Hf := fun p hp => u11 p (hs11 p hp)
    have u9 : ∀ p ∈ R9, p ∈ Hf := fun p hp => u10 p (hs10 p hp)
    have u8 : ∀ p ∈ R8, p ∈ Hf := fun p hp => u9 p (hs9 p hp)
    have u6 : ∀ p ∈ R6, p ∈ Hf := fun p hp => u8 p (hs8 p hp)
    have u5 : ∀ p ∈ R5, p ∈ Hf := fun p hp => u6 p (hs6 p hp)
    have u3 : ∀ p ∈ R3, p ∈ Hf := fun p hp => u5 p (hs5 p hp)
    have hmf := u3 _ hm
    refine ⟨l, t0, t1, t2, done, rfl, u26 _ hl, ?_, ?_, ?_, k1, fun p hp => u3 _ (hs3 p hp)⟩
    · exact mach_plain T hB hM (u15 _ ht0) (hcl11.more u11) (hcl12.more u12) (hcl8.isF.more u8) (hcl14.more u14) (by decide +kernel) k4 k7 fun H' a y hs ha hy => (divided_ok T hB hM ((hcl8.more u8).more hs) (hs _ k2) (hs _ k7) (hs _ hmf) ha hy).le (by omega)
    · exact mach_plain T hB hM (u20 _ ht1) (hcl16.more u16) (hcl17.more u17) (hcl9.isF.more u9) (hcl19.more u19) (by decide +kernel) k5 k7 fun H' a y hs ha hy => barrett_ok T hB hM ((hcl9.more u9).more hs) (hs _ k6) (hs _ k7) (hs _ (u5 _ ht)) (hs _ hmf) (hs _ (u5 _ hq)) ha hy
    · exact mach_mont T M.toMC hB hM hodd (u25 _ ht2) (hcl21.more u21) (hcl22.more u22) (hcl10.more u10) (hcl24.more u24) k3 k2 k7 (hTM.mono u6) hmf
  exact ⟨cx, _, _, S26, key _ _ (by walk_at "mem") (by walk_at "mem") (by walk_at "mem") (by walk_at "mem") (by walk_at "mem") (by walk_at "mem") (by walk_at "mem") fun p hp => .tail _ (.tail _ (.tail _ (.tail _ (.tail _ (.tail _ (.tail _ hp))))))⟩
end
end

section
open PySem PySem.Calls PySem.W
/-- the number behind a deed -/
noncomputable def dn (f h y x : Nat) : Nat := (plain f h y x).toNat
theorem dn_cast {f h y x : Nat} (hx : 0 < x) : ((dn f h y x : Nat) : Int) = plain f h y x := by
  unfold dn plain
  exact Int.toNat_of_nonneg (Int.emod_nonneg _ (by omega))
theorem dn_lt {f h y x : Nat} (hx : 0 < x) : dn f h y x < x := by
  have := dn_cast (f := f) (h := h) (y := y) hx
  have h2 : plain f h y x < x := Int.emod_lt_of_pos _ (by omega)
  omega

theorem dn2 {h y x R : Nat} : h * y * R % x = dn 2 h y x * R % x := by
  have e : dn 2 h y x = h * y % x := by
    unfold dn plain
    show ((h : Int) * y % x).toNat = _
    rw [← Int.natCast_mul, ← Int.natCast_emod, Int.toNat_natCast]
  rw [e, Nat.mod_mul_mod]
theorem dn3 {h y x R : Nat} : h * h * R % x = dn 3 h y x * R % x := by
  have e : dn 3 h y x = h * h % x := by
    unfold dn plain
    show ((h : Int) * h % x).toNat = _
    rw [← Int.natCast_mul, ← Int.natCast_emod, Int.toNat_natCast]
  rw [e, Nat.mod_mul_mod]
theorem dn0 {h y x R : Nat} : (h * R % x + y * R % x) % x = dn 0 h y x * R % x := by
  have e : dn 0 h y x = (h + y) % x := by
    unfold dn plain
    show (((h : Int) + y) % x).toNat = _
    rw [← Int.natCast_add, ← Int.natCast_emod, Int.toNat_natCast]
  rw [e, Nat.mod_mul_mod, ← Nat.add_mod, Nat.add_mul]
theorem dn4 {h y x R : Nat} : (h * R % x + h * R % x) % x = dn 4 h y x * R % x := by
  have e : dn 4 h y x = (2 * h) % x := by
    unfold dn plain
    show ((2 * (h : Int)) % x).toNat = _
    rw [show (2 * (h : Int)) = ((2 * h : Nat) : Int) from by omega, ← Int.natCast_emod, Int.toNat_natCast]
  rw [e, Nat.mod_mul_mod, ← Nat.add_mod]
  congr 1
  rw [Nat.mul_assoc]; omega
theorem dnI {t x R : Int} : t % x * R % x = t * R % x := by
  rw [Int.mul_emod, Int.emod_emod, ← Int.mul_emod]
theorem dn_sub {a b x : Int} : (a % x + (x - b % x)) % x = (a - b) % x := by
  have h1 := Int.emod_add_mul_ediv a x
  have h2 := Int.emod_add_mul_ediv b x
  have e : a % x + (x - b % x) = (a - b) + x * (1 - a / x + b / x) := by
    rw [Int.mul_add, Int.mul_sub]; omega
  rw [e, Int.add_mul_emod_self_left]
theorem dn1 {h y x R : Nat} (hx : 0 < x) : (h * R % x + (x - y * R % x)) % x = dn 1 h y x * R % x := by
  have hlt := Nat.mod_lt (y * R) hx
  have e := dn_cast (f := 1) (h := h) (y := y) hx
  have key : (((h * R % x + (x - y * R % x)) % x : Nat) : Int) = ((dn 1 h y x * R % x : Nat) : Int) := by
    rw [Int.natCast_emod, Int.natCast_add, Int.natCast_sub (Nat.le_of_lt hlt), Int.natCast_emod, Int.natCast_emod, dn_sub, Int.natCast_emod, Int.natCast_mul, Int.natCast_mul, Int.natCast_mul, e]
    show _ = ((h : Int) - y) % x * R % x
    rw [dnI, Int.sub_mul]
  exact Int.ofNat.inj key
theorem dn5 {h y x R : Nat} (hx : 0 < x) : (x - h * R % x) % x = dn 5 h y x * R % x := by
  have hlt := Nat.mod_lt (h * R) hx
  have e := dn_cast (f := 5) (h := h) (y := y) hx
  have key : (((x - h * R % x) % x : Nat) : Int) = ((dn 5 h y x * R % x : Nat) : Int) := by
    rw [Int.natCast_emod, Int.natCast_sub (Nat.le_of_lt hlt), Int.natCast_emod, Int.natCast_emod, Int.natCast_mul, Int.natCast_mul, e]
    show _ = (0 - (h : Int)) % x * R % x
    rw [dnI, Int.sub_mul, Int.zero_mul]
    have := dn_sub (a := 0) (b := (h : Int) * R) (x := x)
    rw [Int.zero_emod, Int.zero_add] at this
    exact this
  exact Int.ofNat.inj key

section
variable {prog : Program} {w : World} {g s : Shared} {B : Heap} {c : Cx} {m : Loc} {H : Led} {A : Around} {E : Value → Shared → Prop} {γ : Gl}

theorem done_spec (T : Top γ) {k b x f h y R : Nat} (hB : Bs k b) (hM : Md b x) {H : Led} {t a d mm : Addr} (hm : Mach prog w g γ b x R H t) (ha : (a, il (lb b (h * R % x))) ∈ H) (hd : (d, il (lb b y)) ∈ H) (hy : y < x) (hmm : (mm, il (lb b x)) ∈ H) (hf : f < 6) :
    SpecV prog w g γ 9 46 [.val (.ref t), .int f, .val (.ref a), .val (.ref d), .val (.ref mm), .int k] H (RetL (lb b (dn f h y x * R % x)) H) := by
  refine def_spec T 46 8 [((Str.ofString "machine"), .val (.ref t)), ((Str.ofString "form"), .int f), ((Str.ofString "held"), .val (.ref a)), ((Str.ofString "other"), .val (.ref d)), ((Str.ofString "row"), .val (.ref mm)), ((Str.ofString "w"), .int k), ((Str.ofString "taken"), V.any), ((Str.ofString "shown"), V.any), ((Str.ofString "below"), V.any), ((Str.ofString "times"), V.any)] 6 [(Str.ofString "machine"), (Str.ofString "form"), (Str.ofString "held"), (Str.ofString "other"), (Str.ofString "row"), (Str.ofString "w"), (Str.ofString "taken"), (Str.ofString "shown"), (Str.ofString "below"), (Str.ofString "times")] [(Str.ofString "add"), (Str.ofString "sub")] rfl (fun cx A B s1 hA G hgs S1 => ?_) (by decide +kernel) (by exact rfl) (by exact rfl) (by exact rfl) (by exact Nat.le_of_ble_eq_true rfl) (by walk_at "bnd")
  have hg0 : (Str.ofString "add") ∈ cx.gs := by rw [hgs]; walk_at "mem"
  have hg1 : (Str.ofString "sub") ∈ cx.gs := by rw [hgs]; walk_at "mem"
  clear hgs
  have hpos := hM.pos
  have hhi := hM.hi
  obtain ⟨f0, f1, f2, f3, m1, m2, m3, m4, m5, m6⟩ := hm
  refine x_four hA.hd G S1 (by walk_at "px") m1 (by walk_at "put") (by walk_at "put") (by walk_at "put") (by walk_at "put") fun s2 S2 => ?_
  refine x_if G S2 (bb := decide ((f : Int) = 2)) (by walk_at "px") (fun hb s3 S3 => ?_) fun hb s3 S3 => x_nil ?_
  · have e : f = 2 := by have := of_decide_eq_true hb; omega
    subst e
    refine x_retG (ev_callFG G S3 (by walk_at "px") m5 fun s4 S4 => sp_cons (px_u G S4 (u := .ref a) (by walk_at "px") fun s5 S5 => sp_cons (ev_callFS 8 8 G hA [] H S5 (by walk_at "px") m2 (by walk_at "pxs") ((m6 H fun _ hp => hp).1 d y hd hy) fun v s6 R6 S6 hp => ?_)))
    obtain ⟨r, rfl, g1, g2⟩ := hp
    refine sp_nil _ ⟨⟨_, _, _, S6, m5.more g2⟩, ((m6 R6 g2).2.2.2 a r h y (g2 _ ha) g1 [.ref a, .ref r] ⟨rfl, rfl, trivial⟩).use G hA (Nat.le_refl _) S6 fun v s7 H7 S7 hp => ?_⟩
    obtain ⟨e, rfl, he1, he2⟩ := hp
    rw [dn2] at he1
    exact ⟨_, _, _, S7, e, rfl, he1, fun p hp => he2 p (g2 p hp)⟩
  have hn2 : ¬ f = 2 := by have := of_decide_eq_false hb; omega
  refine x_if G S3 (bb := decide ((f : Int) = 3)) (by walk_at "px") (fun hb s4 S4 => ?_) fun hb s4 S4 => x_nil ?_
  · have e : f = 3 := by have := of_decide_eq_true hb; omega
    subst e
    refine x_retG (ev_callFS 8 8 G hA [] H S4 (by walk_at "px") m5 (by walk_at "pxs") ((m6 H fun _ hp => hp).2.2.2 a a h h ha ha) fun v s6 R6 S6 hp => ?_)
    obtain ⟨e, rfl, he1, he2⟩ := hp
    rw [dn3 (y := y)] at he1
    exact ⟨_, _, _, S6, e, rfl, he1, he2⟩
  have hn3 : ¬ f = 3 := by have := of_decide_eq_false hb; omega
  have hlt1 : h * R % x < x := Nat.mod_lt _ hpos
  have hlt2 : y * R % x < x := Nat.mod_lt _ hpos
  refine x_if G S4 (bb := decide ((f : Int) = 1)) (by walk_at "px") (fun hb s5 S5 => ?_) fun hb s5 S5 => x_nil ?_
  · have e : f = 1 := by have := of_decide_eq_true hb; omega
    subst e
    refine x_retG (ev_callFG G S5 (by walk_at "px") m4 fun s6 S6 => sp_cons (ev_callG T 8 G S6 (by walk_at "mem") fun s7 S7 => sp_cons (px_u G S7 (u := .ref a) (by walk_at "px") fun s8 S8 => sp_cons (ev_callG T 9 G S8 (by walk_at "mem") fun s9 S9 =>
      sp_cons (px_u G S9 (u := .ref mm) (by walk_at "px") fun s10 S10 => sp_cons (ev_callFS 8 8 G hA [] H S10 (by walk_at "px") m2 (by walk_at "pxs") ((m6 H fun _ hp => hp).1 d y hd hy) fun v s11 R11 S11 hp => ?_))))))
    obtain ⟨r, rfl, g1, g2⟩ := hp
    refine sp_cons (px_i G S11 (by walk_at "px") fun u s12 S12 => sp_nil _ ⟨⟨_, _, _, S12⟩, (sub_spec T hB (g2 _ hmm) g1 (by omega) (Nat.le_of_lt hlt2) [.ref mm, .ref r, .int k u] ⟨rfl, rfl, ⟨u, rfl⟩, trivial⟩).use G hA (by omega) S12 fun v s13 R13 S13 hp => ?_⟩)
    obtain ⟨r2, rfl, g3, g4⟩ := hp
    refine sp_cons (px_i G S13 (by walk_at "px") fun u s14 S14 => sp_nil _ ⟨⟨_, _, _, S14⟩, (add_spec T hB (g4 _ (g2 _ ha)) g3 (by omega) (by omega) [.ref a, .ref r2, .int k u] ⟨rfl, rfl, ⟨u, rfl⟩, trivial⟩).use G hA (by omega) S14 fun v s15 R15 S15 hp => ?_⟩)
    obtain ⟨r3, rfl, g5, g6⟩ := hp
    have gg : ∀ p ∈ H, p ∈ R15 := fun p hp => g6 p (g4 p (g2 p hp))
    refine sp_nil _ ⟨⟨_, _, _, S15, m4.more gg⟩, ((m6 R15 gg).2.2.1 r3 _ g5 (by omega) [.ref r3] ⟨rfl, trivial⟩).use G hA (Nat.le_refl _) S15 fun v s16 H16 S16 hp => ?_⟩
    obtain ⟨e, rfl, he1, he2⟩ := hp
    rw [dn1 hpos] at he1
    exact ⟨_, _, _, S16, e, rfl, he1, fun p hp => he2 p (gg p hp)⟩
  have hn1 : ¬ f = 1 := by have := of_decide_eq_false hb; omega
  refine x_if G S5 (bb := decide ((f : Int) = 5)) (by walk_at "px") (fun hb s6 S6 => ?_) fun hb s6 S6 => x_nil ?_
  · have e : f = 5 := by have := of_decide_eq_true hb; omega
    subst e
    refine x_retG (ev_callFG G S6 (by walk_at "px") m4 fun s7 S7 => sp_cons (ev_callS T 9 2 8 G hA S7 (by walk_at "mem") (by walk_at "pxs") (sub_spec T hB hmm ha (by omega) (Nat.le_of_lt hlt1)) fun v s8 R8 S8 hp => ?_))
    obtain ⟨r, rfl, g1, g2⟩ := hp
    refine sp_nil _ ⟨⟨_, _, _, S8, m4.more g2⟩, ((m6 R8 g2).2.2.1 r _ g1 (by omega) [.ref r] ⟨rfl, trivial⟩).use G hA (Nat.le_refl _) S8 fun v s16 H16 S16 hp => ?_⟩
    obtain ⟨e, rfl, he1, he2⟩ := hp
    rw [dn5 (y := y) hpos] at he1
    exact ⟨_, _, _, S16, e, rfl, he1, fun p hp => he2 p (g2 p hp)⟩
  have hn5 : ¬ f = 5 := by have := of_decide_eq_false hb; omega
  refine x_retG (ev_callFG G S6 (by walk_at "px") m4 fun s7 S7 => sp_cons (ev_callG T 8 G S7 (by walk_at "mem") fun s8 S8 => sp_cons (px_u G S8 (u := .ref a) (by walk_at "px") fun s9 S9 => sp_cons (wpAny_IfExp (px_t G S9 (b := decide ((f : Int) = 0)) (by walk_at "px") fun s10 S10 => ite_b (fun hb => ?_) fun hb => ?_)))))
  · have e : f = 0 := by have := of_decide_eq_true hb; omega
    subst e
    refine ev_callFS 8 8 G hA [] H S10 (by walk_at "px") m2 (by walk_at "pxs") ((m6 H fun _ hp => hp).1 d y hd hy) fun v s11 R11 S11 hp => ?_
    obtain ⟨r, rfl, g1, g2⟩ := hp
    refine sp_cons (px_i G S11 (by walk_at "px") fun u s14 S14 => sp_nil _ ⟨⟨_, _, _, S14⟩, (add_spec T hB (g2 _ ha) g1 (by omega) (by omega) [.ref a, .ref r, .int k u] ⟨rfl, rfl, ⟨u, rfl⟩, trivial⟩).use G hA (by omega) S14 fun v s15 R15 S15 hp => ?_⟩)
    obtain ⟨r3, rfl, g5, g6⟩ := hp
    have gg : ∀ p ∈ H, p ∈ R15 := fun p hp => g6 p (g2 p hp)
    refine sp_nil _ ⟨⟨_, _, _, S15, m4.more gg⟩, ((m6 R15 gg).2.2.1 r3 _ g5 (by omega) [.ref r3] ⟨rfl, trivial⟩).use G hA (Nat.le_refl _) S15 fun v s16 H16 S16 hp => ?_⟩
    obtain ⟨e, rfl, he1, he2⟩ := hp
    rw [dn0] at he1
    exact ⟨_, _, _, S16, e, rfl, he1, fun p hp => he2 p (gg p hp)⟩
  · have e : f = 4 := by have := of_decide_eq_false hb; omega
    subst e
    refine px_u G S10 (u := .ref a) (by walk_at "px") fun s11 S11 => ?_
    refine sp_cons (px_i G S11 (by walk_at "px") fun u s14 S14 => sp_nil _ ⟨⟨_, _, _, S14⟩, (add_spec T hB ha ha (by omega) (by omega) [.ref a, .ref a, .int k u] ⟨rfl, rfl, ⟨u, rfl⟩, trivial⟩).use G hA (by omega) S14 fun v s15 R15 S15 hp => ?_⟩)
    obtain ⟨r3, rfl, g5, gg⟩ := hp
    refine sp_nil _ ⟨⟨_, _, _, S15, m4.more gg⟩, ((m6 R15 gg).2.2.1 r3 _ g5 (by omega) [.ref r3] ⟨rfl, trivial⟩).use G hA (Nat.le_refl _) S15 fun v s16 H16 S16 hp => ?_⟩
    obtain ⟨e, rfl, he1, he2⟩ := hp
    rw [dn4 (y := y)] at he1
    exact ⟨_, _, _, S16, e, rfl, he1, fun p hp => he2 p (gg p hp)⟩
end
end

section
open PySem PySem.Calls PySem.W
/-! lists of rows compared -/

noncomputable def rowsO (rs : List Addr) : O := O.list (rs.map fun r => V.val (.ref r))
inductive Rows (H : Led) : List Addr → List (List Int) → Prop
  | nil : Rows H [] []
  | cons {r ns rs nss} : (r, il ns) ∈ H → Rows H rs nss → Rows H (r :: rs) (ns :: nss)
theorem Rows.more {H H' : Led} {rs : List Addr} {nss : List (List Int)} (h : Rows H rs nss) (hs : ∀ p ∈ H, p ∈ H') : Rows H' rs nss := by
  induction h with
  | nil => exact .nil
  | cons h _ ih => exact .cons (hs _ h) ih
theorem Rows.snoc {H : Led} {rs : List Addr} {nss : List (List Int)} {r : Addr} {ns : List Int} (h : Rows H rs nss) (hr : (r, il ns) ∈ H) : Rows H (rs ++ [r]) (nss ++ [ns]) := by
  induction h with
  | nil => exact .cons hr .nil
  | cons h _ ih => exact .cons h ih
theorem Rows.len {H : Led} {rs : List Addr} {nss : List (List Int)} (h : Rows H rs nss) : rs.length = nss.length := by
  induction h with
  | nil => rfl
  | cons _ _ ih => simp [ih]
theorem Rows.get {H : Led} {rs : List Addr} {nss : List (List Int)} (h : Rows H rs nss) : ∀ {i : Nat} {ns : List Int}, nss[i]? = some ns → ∃ r, rs[i]? = some r ∧ (r, il ns) ∈ H := by
  induction h with
  | nil => intro i ns e; simp at e
  | @cons r ns rs nss h _ ih =>
    intro i ms e
    cases i with
    | zero => simp at e; subst e; exact ⟨r, rfl, h⟩
    | succ i => simpa using ih (i := i) (by simpa using e)
/-- a list of rows stands in the ledger -/
noncomputable def Forms (H : Led) (l : Addr) (nss : List (List Int)) : Prop := ∃ rs, (l, rowsO rs) ∈ H ∧ Rows H rs nss
theorem Forms.more {H H' : Led} {l : Addr} {nss : List (List Int)} (h : Forms H l nss) (hs : ∀ p ∈ H, p ∈ H') : Forms H' l nss :=
  let ⟨rs, h1, h2⟩ := h; ⟨rs, hs _ h1, h2.more hs⟩

noncomputable def pdRows (nss : List (List Int)) : PyData := .list (nss.map fun ns => .list (ns.map PyData.int))
theorem pd_all (nss : List (List Int)) : PyData.canLayAll0 (nss.map fun ns => PyData.list (ns.map PyData.int)) = true ∧ PyData.depthAll (nss.map fun ns => PyData.list (ns.map PyData.int)) ≤ 1 := by
  induction nss with
  | nil => exact ⟨rfl, Nat.zero_le _⟩
  | cons ns r ih => simp [PyData.canLayAll0, PyData.canLay0, PyData.depthAll, PyData.depth, ke_canLayAll0, ke_depthAll, ih.1, ih.2]
theorem pd_shaped (nss : List (List Int)) : SeqAt.shaped (pdRows nss) = true := by
  obtain ⟨h1, h2⟩ := pd_all nss
  unfold SeqAt.shaped pdRows
  rw [Bool.and_eq_true]
  refine ⟨by simpa [PyData.canLay0] using h1, decide_eq_true ?_⟩
  simp only [PyData.depth]
  omega

section
variable {prog : Program} {w : World} {g s : Shared} {B : Heap} {c : Cx} {m : Loc} {H : Led} {A : Around} {E : Value → Shared → Prop} {γ : Gl}

theorem reads_rows (S : St g B c m H s) {rs : List Addr} {nss : List (List Int)} (h : Rows H rs nss) : ∀ {xs : List Value}, AllIs (rs.map fun r => V.val (.ref r)) xs → ∃ as, ReadsAll s.heap xs (nss.map fun ns => PyData.list (ns.map PyData.int)) as := by
  induction h with
  | nil =>
    intro xs hx
    match xs, hx with
    | [], _ => exact ⟨_, .nil⟩
  | cons hr _ ih =>
    intro xs hx
    match xs, hx with
    | x :: xs, ⟨h1, h2⟩ =>
      cases h1
      obtain ⟨as, ha⟩ := ih h2
      obtain ⟨ys, n, hg, hl, hy, hb, hlen⟩ := S.isList hr
      exact ⟨_, .cons (PyProof.Rows.reads_newData hl (ke_carried hy.intsAre)) ha⟩
theorem reads_forms (S : St g B c m H s) {l : Addr} {nss : List (List Int)} (h : Forms H l nss) : ∃ as, Reads s.heap (.ref l) (pdRows nss) as := by
  obtain ⟨rs, h1, h2⟩ := h
  obtain ⟨xs, n, hg, hl, ha, hb, hlen⟩ := S.isList h1
  obtain ⟨as, hr⟩ := reads_rows S h2 ha
  exact ⟨_, PyProof.Rows.reads_list_at hg rfl rfl hr⟩
theorem eq_forms {l1 l2 : Addr} {nss : List (List Int)} {Q : Value → Shared → Prop} (hA : A.units + 64 < 9900) (S : St g B c m H s) (h1 : Forms H l1 nss) (h2 : Forms H l2 nss) (k : Q (.bool true) s) : wpAny (model prog w) A (compareOp .Eq (.ref l1) (.ref l2)) Q E s := by
  obtain ⟨as, r1⟩ := reads_forms S h1
  obtain ⟨bs, r2⟩ := reads_forms S h2
  exact PyProof.Rows.eq_dataH r1 r2 (pd_shaped nss) (pd_shaped nss) hA (by rw [PySem.SeqAt.eqv_refl _ (SeqAt.canLay_of_shaped (pd_shaped nss))]; exact k)
theorem ne_forms {l1 l2 : Addr} {nss : List (List Int)} {Q : Value → Shared → Prop} (hA : A.units + 64 < 9900) (S : St g B c m H s) (h1 : Forms H l1 nss) (h2 : Forms H l2 nss) (k : Q (.bool false) s) : wpAny (model prog w) A (compareOp .NotEq (.ref l1) (.ref l2)) Q E s := by
  obtain ⟨as, r1⟩ := reads_forms S h1
  obtain ⟨bs, r2⟩ := reads_forms S h2
  exact PyProof.Rows.ne_dataH r1 r2 (pd_shaped nss) (pd_shaped nss) hA (by rw [PySem.SeqAt.eqv_refl _ (SeqAt.canLay_of_shaped (pd_shaped nss))]; exact k)

theorem St.recast {a : Addr} {o o' : O} (S : St g B c m ((a, o) :: H) s) (h : ∀ ob, o.Is ob → o'.Is ob) : St g B c m ((a, o') :: H) s := by
  refine ⟨S.same, S.fr, fun p hp => ?_, S.nd, S.kx⟩
  rcases List.mem_cons.mp hp with rfl | hp
  · obtain ⟨⟨ob, h1, h2⟩, h3⟩ := S.led _ (.head _)
    exact ⟨⟨ob, h1, h _ h2⟩, h3⟩
  · exact S.led p (.tail _ hp)

/-! the cog -/

noncomputable def cogO (t : Addr) : O := .pred fun o => ∃ n : Int, 0 ≤ n ∧ (O.list [.int n, .val (.ref t)]).Is o

theorem led_same {H : Led} (nd : (H.map (·.1)).Nodup) {r : Addr} {o o' : O} (h1 : (r, o) ∈ H) (h2 : (r, o') ∈ H) : o = o' := by
  induction H with
  | nil => cases h1
  | cons p l ih =>
    rw [List.map_cons, List.nodup_cons] at nd
    rcases List.mem_cons.mp h1 with a | a <;> rcases List.mem_cons.mp h2 with b | b
    · rw [← a] at b; cases b; rfl
    · exact absurd (List.mem_map_of_mem (f := (·.1)) b) (by rw [← a] at nd; exact nd.1)
    · exact absurd (List.mem_map_of_mem (f := (·.1)) a) (by rw [← b] at nd; exact nd.1)
    · exact ih nd.2 a b

theorem geared_specC (T : Top γ) {H : Led} {cg t : Addr} {ts : List Int} {many : Int} (hc : (cg, cogO t) ∈ H) (ht : (t, il ts) ∈ H) (hm : 0 < many) (hl : ts.length ≤ 1000) :
    SpecV prog w g γ 1 42 [.val (.ref cg), .int many] H (fun v H' => ∃ r tk, v = .int r tk ∧ 0 ≤ r ∧ r < many ∧ H' = H) := by
  intro vals hv A s B hA G S
  obtain ⟨⟨ob, h1, n, hn, h2⟩, h3⟩ := S.led _ hc
  have hne : (t : Addr) ≠ cg := fun e => by
    rw [e] at ht
    have := led_same S.nd ht hc
    cases this
  have ndel : ((del cg H).map (·.1)).Nodup := (List.filter_sublist.map _).nodup S.nd
  have S1 : LS g B ((cg, O.list [.int n, .val (.ref t)]) :: del cg H) s := by
    refine ⟨S.same, S.base, fun p hp => ?_, ?_, S.size⟩
    · rcases List.mem_cons.mp hp with rfl | hp
      · exact ⟨⟨ob, h1, h2⟩, h3⟩
      · exact S.led p (List.mem_filter.mp hp).1
    · rw [List.map_cons, List.nodup_cons]
      refine ⟨fun q => ?_, ndel⟩
      obtain ⟨p, hp, e⟩ := List.mem_map.mp q
      exact absurd e (of_decide_eq_true (List.mem_filter.mp hp).2)
  refine wpAny_mono (geared_spec (prog := prog) (w := w) (g := g) T (mem_del ht hne) hn hm hl vals hv A s B hA G S1) (fun v s' hq => ?_) fun _ _ e => e
  obtain ⟨H', S', r, tk, rfl, hr1, hr2, rfl⟩ := hq
  refine ⟨H, ⟨S'.same, S'.base, fun p hp => ?_, S.nd, S'.size⟩, r, tk, rfl, hr1, hr2, rfl⟩
  by_cases e : p.1 = cg
  · obtain ⟨a, o⟩ := p
    have e' : a = cg := e
    subst e'
    have := led_same S.nd hp hc
    subst this
    obtain ⟨⟨ob', g1, g2⟩, g3⟩ := S'.led _ (.head _)
    exact ⟨⟨ob', g1, n + 1, by omega, g2⟩, g3⟩
  · exact S'.led p (.tail _ (mem_del hp e))

/-! tests -/

theorem t_or {x y : Expr} {p : Pos} {Q : Bool → Shared → Prop}
    (h : wpAny (model prog w) A (isTrue x c.env (eval x c.env)) (fun b s' => if b = true then Q true s' else wpAny (model prog w) A (isTrue y c.env (eval y c.env)) Q E s') E s) :
    wpAny (model prog w) A (isTrue (.BoolOp .Or [x, y] p) c.env (eval (.BoolOp .Or [x, y] p) c.env)) Q E s := by
  refine PyProof.Rows.isTrue_or (wpAny_mono h (fun b s1 h1 => ?_) fun _ _ e => e)
  cases b with
  | true => exact h1
  | false =>
    refine PyProof.Rows.isTrue_or (wpAny_mono h1 (fun b s2 h2 => ?_) fun _ _ e => e)
    cases b with
    | true => exact h2
    | false => exact PyProof.Rows.isTrue_or_nil h2

/-- form in (i, j, k) -/
theorem t_in3 {e e1 e2 e3 : Expr} {q : Nat} {p p' : Pos} {i a b d : Int} {Q : Bool → Shared → Prop} (G : GW γ B) (S : St g B c m H s) (P : PX c m H false e (.int i)) (Ps : PXs c m H [e1, e2, e3] [.int a, .int b, .int d])
    (k : ∀ s', St g B c m H s' → Q (a == i || b == i || d == i) s') (hmk : behindInMarks .In (.Tuple [e1, e2, e3] q p') = false := by rfl) :
    wpAny (model prog w) A (isTrue (.Compare e [.In] [.Tuple [e1, e2, e3] q p'] p) c.env (eval (.Compare e [.In] [.Tuple [e1, e2, e3] q p'] p) c.env)) Q E s := by
  refine wpAny_isTrue_Compare1 (px_i G S P fun t s1 S1 => ev_tupP G S1 Ps (by simp [bigN]) fun r s2 S2 => ?_) hmk
  obtain ⟨xs, n, hg, hl, ha, hb, hlen⟩ := S2.isTup (.head _)
  obtain ⟨t1, t2, t3, rfl⟩ := ha.i3
  ·
    refine SeqAt.in_tupleAt (fun v => match v with | .int j _ => j == i | _ => false) hl (fun y hy => ?_) (wpAny_truthy_bool ?_)
    · simp only [List.mem_toArray, List.mem_cons, List.not_mem_nil, or_false] at hy
      rcases hy with rfl | rfl | rfl
      · exact SeqAt.EqAt.int_int _ _ _ _
      · exact SeqAt.EqAt.int_int _ _ _ _
      · exact SeqAt.EqAt.int_int _ _ _ _
    · have := k s2 S2.tail
      simpa [Bool.or_assoc] using this

/-- x is not None -/
theorem t_isnot {e : Expr} {k0 : Nat} {p p' : Pos} {v : V} {Q : Bool → Shared → Prop} (G : GW γ B) (S : St g B c m H s) (P : PX c m H false e v) (b : Bool) (hv : ∀ val, v.Is (some val) → (b = true ∧ ∃ i t, val = .int i t) ∨ (b = false ∧ val = .none)) (k : ∀ s', St g B c m H s' → Q b s') :
    wpAny (model prog w) A (isTrue (.Compare e [.IsNot] [.Constant .none k0 p'] p) c.env (eval (.Compare e [.IsNot] [.Constant .none k0 p'] p) c.env)) Q E s := by
  refine wpAny_isTrue_Compare1 (px_v G S P fun val s1 hval S1 => px_u G S1 .none fun s2 S2 => ?_) rfl
  rcases hv val hval with ⟨rfl, i, t, rfl⟩ | ⟨rfl, rfl⟩
  · exact PyProof.Rows.isnot_int_none (wpAny_truthy_bool (k s2 S2))
  · exact PyProof.Rows.isnot_none_none (wpAny_truthy_bool (k s2 S2))
end
end

section
open PySem PySem.Calls PySem.W
noncomputable def dictO (prog : Program) (w : World) (kvs : List (Int × Value)) : O := .pred fun o => Obj.IsDictOf (intKind prog w) o kvs

section
variable {prog : Program} {w : World} {g s : Shared} {B : Heap} {c : Cx} {m : Loc} {H : Led} {A : Around} {E : Value → Shared → Prop} {γ : Gl}

theorem St.dict (S : St g B c m H s) {d : Addr} {kvs : List (Int × Value)} (hm : (d, dictO prog w kvs) ∈ H) : s.heap.DictOf (intKind prog w) d kvs := by
  obtain ⟨o, h1, h2⟩ := S.get hm
  exact Heap.dictOf_iff.mpr ⟨o, h1, h2⟩

/-- {k: v} -/
theorem ev_dict1 {ke ve : Expr} {pos : Pos} {i : Int} {u : Value} {Q : Value → Shared → Prop} (G : GW γ B) (S : St g B c m H s) (P1 : PX c m H false ke (.int i)) (P2 : PX c m H false ve (.val u))
    (k : ∀ d s', St g B c m ((d, dictO prog w [(i, u)]) :: H) s' → (d == sysModules) = false → Q (.ref d) s') :
    wpAny (model prog w) A (eval (.Dict [some ke] [ve] pos) c.env) Q E s := by
  have hlt : mainGlobals < s.heap.objs.size := (G.g.keeps S.base).lt
  have hsys : (s.heap.objs.size == sysModules) = false := by
    have h3 : (3 : Nat) < s.heap.objs.size := hlt
    have : ¬ (s.heap.objs.size = (1 : Nat)) := by omega
    exact beq_eq_false_iff_ne.mpr this
  have S0 : St g B c m ((s.heap.objs.size, dictO prog w []) :: H) { s with heap := s.heap.push { cls := .type "dict", data := .dict #[] } } :=
    S.push (o' := dictO prog w []) ⟨#[], 0, ⟨rfl, rfl, rfl⟩, rfl, fun _ he => by simp at he, .nil, List.nodup_nil⟩
  have M : ∀ p ∈ H, p ∈ (s.heap.objs.size, dictO prog w []) :: H := fun p hp => .tail _ hp
  refine wpAny_Dict_walk (knd := intKind prog w) rfl rfl (by simp) (by show 1 ≤ 15; decide) (pairTrees_cons_walk (px_i G S0 (P1.more M) fun t s1 S1 => px_u G S1 (P2.more M) fun s2 S2 => pairTrees_nil_walk ?_))
  refine ⟨[(i, u)], ?_, S2.dict (.head _), fun h' hd hs => ?_⟩
  · simp [Carries, intKind_is]
  · obtain ⟨o, ho, hi⟩ := Heap.dictOf_iff.mp hd
    exact k _ _ (S2.turn .head hs ho hi) hsys

/-- d.get(k, v) -/
theorem ev_dget {o e1 e2 : Expr} {p1 p3 : Pos} {d : Addr} {kvs : List (Int × Value)} {i : Int} {u : Value} {Q : Value → Shared → Prop} (G : GW γ B) (S : St g B c m H s) (P : PX c m H false o (.val (.ref d))) (hm : (d, dictO prog w kvs) ∈ H) (hd : (d == sysModules) = false)
    (P1 : PX c m H false e1 (.int i)) (P2 : PX c m H false e2 (.val u)) (k : ∀ s', St g B c m H s' → Q ((valueAt kvs i).getD u) s')
    (hbase : attributeBase o (Str.ofString "get") c.env (eval o c.env) = eval o c.env := by rfl)
    (htrees : backTo p3 (starEach [e1, e2] c.env) = [(false, eval e1 c.env), (false, eval e2 c.env)] := by rfl) (hline : (p1.endLine == p3.line) = true := by rfl) :
    wpAny (model prog w) A (eval (.Call (.Attribute o (Str.ofString "get") p1) [e1, e2] [] p3) c.env) Q E s := by
  refine wpAny_Call_method (T := "dict") (id := "dict.get") hbase (by rw [htrees]; rfl) hline F.plainAttrs_dict F.slot_dict_get F.type_dict_get (px_u G S P fun s1 S1 => ?_)
  have hD := S1.dict (prog := prog) (w := w) hm
  refine ⟨hD.typeIs, fun b e => by cases e; exact hD.mapOf.noDict _ rfl, ?_⟩
  rw [htrees]
  refine wpAny_dict_get2 (knd := intKind prog w) hd (px_i G S1 P1 fun t s2 S2 => px_u G S2 P2 fun s3 S3 => ?_)
  exact ⟨i, valueAt kvs, intKind_is prog w i t, (S3.dict (prog := prog) (w := w) hm).mapOf, k _ (S3.toks _)⟩

/-- d[k] = v -/
theorem x_dset {o i e : Expr} {p' p : Pos} {d : Addr} {kvs : List (Int × Value)} {kk : Int} {u : Value} {H' : Led} {rest : List Stmt} {Q : Flow → Shared → Prop} (G : GW γ B) (S : St g B c m H s) (P : PX c m H false e (.val u)) (P1 : PX c m H false o (.val (.ref d)))
    (P2 : PX c m H false i (.int kk)) (hm : (d, dictO prog w kvs) ∈ H) (hsz : kvs.length ≤ 1000) (hp : Put H d (dictO prog w (stored kvs kk u)) H')
    (k : ∀ s', St g B c m H' s' → wpAny (model prog w) A (execs rest c.env) Q E s')
    (hs : swapsWith e (some (.Subscript o i p')) p.line c.env = pure false := by rfl) :
    wpAny (model prog w) A (execs (.Assign [.Subscript o i p'] e p :: rest) c.env) Q E s := by
  refine wpAny_execs_cons (wpAny_Assign_Subscript (px_u G S P fun s1 S1 => px_u G S1 P1 fun s2 S2 => px_i G S2 P2 fun t s3 S3 => ?_) hs)
  refine wpAny_setItem_pairs (knd := intKind prog w) (intKind_is prog w kk t) (S3.dict hm) (fun h' hD hsb => ?_) (by have := sizeLine_eq; omega)
  obtain ⟨o', ho, hi⟩ := Heap.dictOf_iff.mp hD
  exact k _ (S3.turn hp hsb ho hi)

/-- abs(int(x)) of an int at hand -/
theorem ev_absint {x : Expr} {p1 p2 p3 p4 : Pos} {i : Int} {Q : Value → Shared → Prop} (G : GW γ B) (S : St g B c m H s) (h1 : Str.ofString "abs" ∈ c.gs) (h2 : Str.ofString "int" ∈ c.gs) (P : PX c m H false x (.int i)) (k : ∀ j t s', St g B c m H s' → Q (.int j t) s')
    (hs : ∀ env, starEach [x] env = [(false, eval x env)] := by intro _; rfl) :
    wpAny (model prog w) A (eval (.Call (.Name (Str.ofString "abs") p1) [.Call (.Name (Str.ofString "int") p2) [x] [] p3] [] p4) c.env) Q E s := by
  refine ev_builtin1 G S h1 (by decide) boot_abs (by decide) (ev_type1 G S h2 (by decide) boot_int' (by decide) (px_i G S P fun t s1 S1 => call_int_int (PyProof.Rows.call_abs_int fun u tk => k _ _ _ (S1.toks tk))) hs)

/-- a slice of a list that stands in the base -/
theorem ev_sliceB {o : Expr} {hi : Expr} {j : Int} {p p' : Pos} {a : Addr} {xs : List Value} {Q : Value → Shared → Prop} (G : GW γ B) (S : St g B c m H s) (P : PX c m H false o (.val (.ref a))) (hl : B.IsList a xs.toArray) (hlen : xs.length ≤ bigN) (P1 : PX c m H false hi (.int j)) (h1 : 0 ≤ j)
    {ns : List Int} (hn : PyProof.Rows.IntsAre xs ns) (k : ∀ r s', St g B c m ((r, il (ns.take j.toNat)) :: H) s' → Q (.ref r) s') :
    wpAny (model prog w) A (eval (.Subscript o (.Slice none (some hi) none p) p') c.env) Q E s := by
  refine PyProof.Rows.Subscript_ (px_u G S P fun s1 S1 => ev_Slice G S1 .none (.some P1) fun vl vu s2 pl pu S2 => ?_)
  have hbig : bigN = 100000 := rfl
  have S3 := S2.push' { cls := .type "slice", data := .fields #[vl, vu, .none] }
  have hl2 : s2.heap.IsList a xs.toArray := by
    obtain ⟨ob, g1, g2⟩ := hl
    exact ⟨ob, S2.base _ _ g1, g2⟩
  refine PyProof.Rows.tail_any (ops := [.ref s2.heap.objs.size, .ref a]) (Heap.IsList.typeIs (s := { s2 with heap := s2.heap.push { cls := .type "slice", data := .fields #[vl, vu, .none] } }) (hl2.push _)) slot_list_getitem.lookup
    (wpAny_getItem_list_slice (hl2.push _) (Heap.IsSliceOf.new ..) pl pu .none (by simp) ?_ (by rw [List.size_toArray]; have := sizeLine_eq; omega)) rfl
  refine k _ _ (S3.push ⟨?_, cutL xs none (some j), 0, ?_, ?_⟩)
  · rw [List.length_map, List.length_take, ← hn.length]; omega
  · rw [slicePick_cut xs none (some j) (fun i h => by cases h) (fun i h => by cases h; exact h1)]
  · have := (AllIs.of_ints hn).take j.toNat
    rw [← List.map_take] at this
    exact this
end
end

section
open PySem PySem.Calls PySem.W
theorem rows_at {ms : List Addr} {i : Nat} (hi : i < ms.length) : (ms.map fun r => V.val (.ref r))[i]? = some (V.val (.ref (ms.getD i 0))) := by
  rw [List.getElem?_map, List.getElem?_eq_getElem hi, List.getD_eq_getElem?_getD, List.getElem?_eq_getElem hi]; rfl

section
variable {prog : Program} {w : World} {g s : Shared} {B : Heap} {c : Cx} {m : Loc} {H PRE R : Led} {A : Around} {E : Value → Shared → Prop} {γ : Gl}

/-- what an element's expression gives: a row -/
noncomputable abbrev StepRow (prog : Program) (w : World) (g : Shared) (A : Around) (B : Heap) (c : Cx) (elt : Expr) (m0 : Loc) (L R' : Led) (ns : List Int) (s : Shared) : Prop :=
  wpAny (model prog w) A (eval elt c.env) (fun v s'' => ∃ r m1 R'', v = .ref r ∧ Weak m1 m0 ∧ St g B c m1 (L ++ R'') s'' ∧ (∀ p ∈ R', p ∈ R'') ∧ (r, il ns) ∈ R'') NoE s

theorem zip_loop {elt iter : Expr} {scope : Scope} {pos px py tp : Pos} {q : Nat} {x y : Str} (hA : A.handled = none) (hne : x ≠ y) {D z TI TO i1 i2 l1 l2 : Addr} {ms rs : List Addr} {n : Nat} (out : Nat → List Int) (hn1 : ms.length = n) (hn2 : rs.length = n) (hnb : n < bigN)
    (hl1 : (l1, rowsO ms) ∈ R) (hl2 : (l2, rowsO rs) ∈ R) (S : St g B c [(x, V.any), (y, V.any)] ((D, il []) :: (zipIts z TI TO i1 i2 l1 l2 0 ++ (PRE ++ R))) s)
    (step : ∀ i vs R' s, i < n → (∀ p ∈ R, p ∈ R') → St g B c [(x, V.val (.ref (ms.getD i 0))), (y, V.val (.ref (rs.getD i 0)))] (zipIts z TI TO i1 i2 l1 l2 (i + 1) ++ (D, O.list vs) :: PRE ++ R') s →
      StepRow prog w g A B c elt [(x, V.any), (y, V.any)] (zipIts z TI TO i1 i2 l1 l2 (i + 1) ++ (D, O.list vs) :: PRE) R' (out i) s) :
    codeAny (model prog w) A (.compLoop (.ListComp elt [⟨.Tuple [.Name x px, .Name y py] q tp, iter, [], 0⟩] scope pos) 0 (.ref z) (.ref D) c.env)
      (fun r s5 => r = .ok .next ∧ ∃ m3 H3, St g B c m3 H3 s5 ∧ ∃ rs' R', H3 = (D, rowsO rs') :: (PRE ++ R') ∧ (∀ p ∈ R, p ∈ R') ∧ Rows R' rs' ((List.range n).map out)) s := by
  have T := itr_zip (prog := prog) (w := w) (g := g) (B := B) (c := c) hA z TI TO i1 i2 l1 l2 (ms.map fun r => V.val (.ref r)) (rs.map fun r => V.val (.ref r)) x y px py tp q (by rw [List.length_map, List.length_map, hn1, hn2])
  rw [List.length_map, hn1] at T
  refine codeAny_mono (comp_core T [(x, V.any), (y, V.any)] (fun i => [(x, V.val (.ref (ms.getD i 0))), (y, V.val (.ref (rs.getD i 0)))])
    (fun i vs H' => ∃ rs' R', vs = (rs'.map fun r => V.val (.ref r)) ∧ H' = PRE ++ R' ∧ (∀ p ∈ R, p ∈ R') ∧ Rows R' rs' ((List.range i).map out)) hnb (fun i vs H' hF => ?_) (fun i hi v u hv hu => ?_)
    (S.perm (List.perm_middle (l₁ := zipIts z TI TO i1 i2 l1 l2 0)).symm) ⟨[], R, rfl, rfl, fun _ h => h, .nil⟩ (fun i vs H' s3 hi hF S3 => ?_)) (fun r s5 h5 => ?_)
  · obtain ⟨rs', R', rfl, rfl, hs, _⟩ := hF
    exact ⟨.tail _ (List.mem_append_right _ (hs _ hl1)), .tail _ (List.mem_append_right _ (hs _ hl2))⟩
  · rw [rows_at (by omega)] at hv hu
    cases hv; cases hu
    exact ⟨[(x, V.val (.ref (ms.getD i 0))), (y, V.any)], .head, .tail .head⟩
  · obtain ⟨rs', R', rfl, rfl, hs, hr⟩ := hF
    have e1 : zipIts z TI TO i1 i2 l1 l2 (i + 1) ++ (D, O.list (rs'.map fun r => V.val (.ref r))) :: (PRE ++ R') = (zipIts z TI TO i1 i2 l1 l2 (i + 1) ++ (D, O.list (rs'.map fun r => V.val (.ref r))) :: PRE) ++ R' := by simp
    rw [e1] at S3
    refine wpAny_mono (step i _ R' s3 hi hs S3) (fun v s4 hq => ?_) fun _ _ e => e
    obtain ⟨r, m1, R'', rfl, hw, S4, hs', hr'⟩ := hq
    refine ⟨.val (.ref r), m1, PRE ++ R'', rfl, hw, by simpa using S4, rs' ++ [r], R'', by simp, rfl, fun p hp => hs' p (hs p hp), ?_⟩
    rw [List.range_succ, List.map_append]
    exact (hr.more hs').snoc hr'
  · obtain ⟨h1, m3, H3, S5, vs, H', h2, h3, rs', R', h4, h5, h6, h7⟩ := h5
    exact ⟨h1, m3, H3, S5, rs', R', by rw [h2, h4, h5]; rfl, h6, h7⟩

theorem list_loop {elt iter : Expr} {scope : Scope} {pos px : Pos} {x : Str} (hA : A.handled = none) {D I l : Addr} {ms : List Addr} {n : Nat} (out : Nat → List Int) (hn1 : ms.length = n) (hnb : n < bigN)
    (hl : (l, rowsO ms) ∈ R) (S : St g B c [(x, V.any)] ((D, il []) :: (I, listIt l 0) :: (PRE ++ R)) s)
    (step : ∀ i vs R' s, i < n → (∀ p ∈ R, p ∈ R') → St g B c [(x, V.val (.ref (ms.getD i 0)))] ((I, listIt l (i + 1)) :: (D, O.list vs) :: PRE ++ R') s →
      StepRow prog w g A B c elt [(x, V.any)] ((I, listIt l (i + 1)) :: (D, O.list vs) :: PRE) R' (out i) s) :
    codeAny (model prog w) A (.compLoop (.ListComp elt [⟨.Name x px, iter, [], 0⟩] scope pos) 0 (.ref I) (.ref D) c.env)
      (fun r s5 => r = .ok .next ∧ ∃ m3 H3, St g B c m3 H3 s5 ∧ ∃ rs' R', H3 = (D, rowsO rs') :: (PRE ++ R') ∧ (∀ p ∈ R, p ∈ R') ∧ Rows R' rs' ((List.range n).map out)) s := by
  have T := itr_list (prog := prog) (w := w) (g := g) (B := B) (c := c) hA I l (ms.map fun r => V.val (.ref r)) x px
  rw [List.length_map, hn1] at T
  refine codeAny_mono (comp_core T [(x, V.any)] (fun i => [(x, V.val (.ref (ms.getD i 0)))])
    (fun i vs H' => ∃ rs' R', vs = (rs'.map fun r => V.val (.ref r)) ∧ H' = PRE ++ R' ∧ (∀ p ∈ R, p ∈ R') ∧ Rows R' rs' ((List.range i).map out)) hnb (fun i vs H' hF => ?_) (fun i hi v hv => ?_)
    (S.perm (List.perm_middle (l₁ := [(I, listIt l 0)])).symm) ⟨[], R, rfl, rfl, fun _ h => h, .nil⟩ (fun i vs H' s3 hi hF S3 => ?_)) (fun r s5 h5 => ?_)
  · obtain ⟨rs', R', rfl, rfl, hs, _⟩ := hF
    exact .tail _ (List.mem_append_right _ (hs _ hl))
  · rw [rows_at (by omega)] at hv
    cases hv
    exact .head
  · obtain ⟨rs', R', rfl, rfl, hs, hr⟩ := hF
    refine wpAny_mono (step i _ R' s3 hi hs S3) (fun v s4 hq => ?_) fun _ _ e => e
    obtain ⟨r, m1, R'', rfl, hw, S4, hs', hr'⟩ := hq
    refine ⟨.val (.ref r), m1, PRE ++ R'', rfl, hw, S4, rs' ++ [r], R'', by simp, rfl, fun p hp => hs' p (hs p hp), ?_⟩
    rw [List.range_succ, List.map_append]
    exact (hr.more hs').snoc hr'
  · obtain ⟨h1, m3, H3, S5, vs, H', h2, h3, rs', R', h4, h5, h6, h7⟩ := h5
    exact ⟨h1, m3, H3, S5, rs', R', by rw [h2, h4, h5]; rfl, h6, h7⟩

/-- name = [elt for x, y in zip(l1, l2)] -/
theorem x_asgCompZ {elt e1 e2 : Expr} {scope : Scope} {pos spos px py pz tp p1 p2 : Pos} {q n : Nat} {x y z : Str} {l1 l2 : Addr} {ms rs : List Addr} {rest : List Stmt} {Q : Flow → Shared → Prop} (G : GW γ B) (hA : A.handled = none) (S : St g B c m H s) (hs : Spl H PRE R) (hne : x ≠ y)
    (gs : List Str) (fc : List (Str × Addr)) (fs : List Str) (hchk : chkComp scope [x, y] gs fs = true) (hfs : fc.map (·.1) = fs) (hfc : ∀ p ∈ fc, p ∈ c.cs) (hz : Str.ofString "zip" ∈ c.gs) (P : PXs c m H [e1, e2] [.val (.ref l1), .val (.ref l2)])
    (hl1 : (l1, rowsO ms) ∈ R) (hl2 : (l2, rowsO rs) ∈ R) (hn1 : ms.length = n) (hn2 : rs.length = n) (hnb : n < bigN) (out : Nat → List Int) {m' : Addr → Loc} (hp : ∀ D, Put m z (.val (.ref D)) (m' D))
    (step : ∀ B' c' D z TI TO i1 i2 i vs R' s, GW γ B' → c'.gs = gs → c'.cs = fc → i < n → (∀ p ∈ R, p ∈ R') → St g B' c' [(x, V.val (.ref (ms.getD i 0))), (y, V.val (.ref (rs.getD i 0)))] (zipIts z TI TO i1 i2 l1 l2 (i + 1) ++ (D, O.list vs) :: PRE ++ R') s →
      StepRow prog w g A B' c' elt [(x, V.any), (y, V.any)] (zipIts z TI TO i1 i2 l1 l2 (i + 1) ++ (D, O.list vs) :: PRE) R' (out i) s)
    (k : ∀ D rs' R' s', St g B c (m' D) (PRE ++ R') s' → (D, rowsO rs') ∈ R' → (∀ p ∈ R, p ∈ R') → Rows R' rs' ((List.range n).map out) → wpAny (model prog w) A (execs rest c.env) Q NoE s')
    (hline : (pz.line == pos.line) = true := by rfl) (hnm : (!(scope.names.any fun (n, k) => n == z && (k == .local || k == .cell))) = true := by decide +kernel) :
    wpAny (model prog w) A (execs (.Assign [.Name z pz] (.ListComp elt [⟨.Tuple [.Name x px, .Name y py] q tp, .Call (.Name (Str.ofString "zip") p1) [e1, e2] [] p2, [], 0⟩] scope pos) spos :: rest) c.env) Q NoE s := by
  have he := hs.eq
  subst he
  refine x_asgComp G S [x, y] gs fc (fun D H3 => ∃ rs' R', H3 = (D, rowsO rs') :: (PRE ++ R') ∧ (∀ p ∈ R, p ∈ R') ∧ Rows R' rs' ((List.range n).map out)) (by rw [hfs]; exact hchk) hfc m' hp
    (ev_zip G S hz P (List.mem_append_right _ hl1) (List.mem_append_right _ hl2) fun z' TI TO i1 i2 s2 S2 => ⟨z', _, rfl, S2, fun B' c' m' D s' Q E S' hq => zip_iter_self S' (.tail _ (.head _)) hq, fun B' c' D s' G' hgs' hcs' S' => ?_⟩) (fun D H3 s3 S3 hK => ?_) (fun _ => rfl) hline hnm
  · exact zip_loop hA hne out hn1 hn2 hnb hl1 hl2 S' fun i vs R' s4 hi hR S4 => step B' c' D z' TI TO i1 i2 i vs R' s4 G' hgs' hcs' hi hR S4
  · obtain ⟨rs', R', rfl, h1, h2⟩ := hK
    exact k D rs' ((D, rowsO rs') :: R') s3 (S3.perm (perm_shift [(D, rowsO rs')] PRE R')) (.head _) (fun p hp => .tail _ (h1 p hp)) (h2.more fun p hp => .tail _ hp)

/-- [elt for x, y in zip(l1, l2)] -/
theorem ev_compZ {elt e1 e2 : Expr} {scope : Scope} {pos px py tp p1 p2 : Pos} {q n : Nat} {x y : Str} {l1 l2 : Addr} {ms rs : List Addr} {Q : Value → Shared → Prop} (G : GW γ B) (hA : A.handled = none) (S : St g B c m H s) (hs : Spl H PRE R) (hne : x ≠ y)
    (gs : List Str) (fc : List (Str × Addr)) (fs : List Str) (hchk : chkComp scope [x, y] gs fs = true) (hfs : fc.map (·.1) = fs) (hfc : ∀ p ∈ fc, p ∈ c.cs) (hz : Str.ofString "zip" ∈ c.gs) (P : PXs c m H [e1, e2] [.val (.ref l1), .val (.ref l2)])
    (hl1 : (l1, rowsO ms) ∈ R) (hl2 : (l2, rowsO rs) ∈ R) (hn1 : ms.length = n) (hn2 : rs.length = n) (hnb : n < bigN) (out : Nat → List Int)
    (step : ∀ B' c' D z TI TO i1 i2 i vs R' s, GW γ B' → c'.gs = gs → c'.cs = fc → i < n → (∀ p ∈ R, p ∈ R') → St g B' c' [(x, V.val (.ref (ms.getD i 0))), (y, V.val (.ref (rs.getD i 0)))] (zipIts z TI TO i1 i2 l1 l2 (i + 1) ++ (D, O.list vs) :: PRE ++ R') s →
      StepRow prog w g A B' c' elt [(x, V.any), (y, V.any)] (zipIts z TI TO i1 i2 l1 l2 (i + 1) ++ (D, O.list vs) :: PRE) R' (out i) s)
    (k : ∀ D rs' R' s', St g B c m (PRE ++ R') s' → (D, rowsO rs') ∈ R' → (∀ p ∈ R, p ∈ R') → Rows R' rs' ((List.range n).map out) → Q (.ref D) s') :
    wpAny (model prog w) A (eval (.ListComp elt [⟨.Tuple [.Name x px, .Name y py] q tp, .Call (.Name (Str.ofString "zip") p1) [e1, e2] [] p2, [], 0⟩] scope pos) c.env) Q E s := by
  have he := hs.eq
  subst he
  refine ev_comp G S [x, y] gs fc (fun D H3 => ∃ rs' R', H3 = (D, rowsO rs') :: (PRE ++ R') ∧ (∀ p ∈ R, p ∈ R') ∧ Rows R' rs' ((List.range n).map out)) (by rw [hfs]; exact hchk) hfc
    (ev_zip G S hz P (List.mem_append_right _ hl1) (List.mem_append_right _ hl2) fun z' TI TO i1 i2 s2 S2 => ⟨z', _, rfl, S2, fun B' c' m' D s' Q E S' hq => zip_iter_self S' (.tail _ (.head _)) hq, fun B' c' D s' G' hgs' hcs' S' => ?_⟩) (fun D H3 s3 S3 hK => ?_) (fun _ => rfl)
  · exact zip_loop hA hne out hn1 hn2 hnb hl1 hl2 S' fun i vs R' s4 hi hR S4 => step B' c' D z' TI TO i1 i2 i vs R' s4 G' hgs' hcs' hi hR S4
  · obtain ⟨rs', R', rfl, h1, h2⟩ := hK
    exact k D rs' ((D, rowsO rs') :: R') s3 (S3.perm (perm_shift [(D, rowsO rs')] PRE R')) (.head _) (fun p hp => .tail _ (h1 p hp)) (h2.more fun p hp => .tail _ hp)

/-- name = [elt for x in l] -/
theorem x_asgCompL {elt e1 : Expr} {scope : Scope} {pos spos px pz : Pos} {n : Nat} {x z : Str} {l : Addr} {ms : List Addr} {rest : List Stmt} {Q : Flow → Shared → Prop} (G : GW γ B) (hA : A.handled = none) (S : St g B c m H s) (hs : Spl H PRE R)
    (gs : List Str) (fc : List (Str × Addr)) (fs : List Str) (hchk : chkComp scope [x] gs fs = true) (hfs : fc.map (·.1) = fs) (hfc : ∀ p ∈ fc, p ∈ c.cs) (P : PX c m H false e1 (.val (.ref l)))
    (hl : (l, rowsO ms) ∈ R) (hn1 : ms.length = n) (hnb : n < bigN) (out : Nat → List Int) {m' : Addr → Loc} (hp : ∀ D, Put m z (.val (.ref D)) (m' D))
    (step : ∀ B' c' D I i vs R' s, GW γ B' → c'.gs = gs → c'.cs = fc → i < n → (∀ p ∈ R, p ∈ R') → St g B' c' [(x, V.val (.ref (ms.getD i 0)))] ((I, listIt l (i + 1)) :: (D, O.list vs) :: PRE ++ R') s →
      StepRow prog w g A B' c' elt [(x, V.any)] ((I, listIt l (i + 1)) :: (D, O.list vs) :: PRE) R' (out i) s)
    (k : ∀ D rs' R' s', St g B c (m' D) (PRE ++ R') s' → (D, rowsO rs') ∈ R' → (∀ p ∈ R, p ∈ R') → Rows R' rs' ((List.range n).map out) → wpAny (model prog w) A (execs rest c.env) Q NoE s')
    (hf : ∀ x, foldedSetIterable e1 c.env x = pure x := by intro _; rfl)
    (hline : (pz.line == pos.line) = true := by rfl) (hnm : (!(scope.names.any fun (n, k) => n == z && (k == .local || k == .cell))) = true := by decide +kernel) :
    wpAny (model prog w) A (execs (.Assign [.Name z pz] (.ListComp elt [⟨.Name x px, e1, [], 0⟩] scope pos) spos :: rest) c.env) Q NoE s := by
  have he := hs.eq
  subst he
  refine x_asgComp G S [x] gs fc (fun D H3 => ∃ rs' R', H3 = (D, rowsO rs') :: (PRE ++ R') ∧ (∀ p ∈ R, p ∈ R') ∧ Rows R' rs' ((List.range n).map out)) (by rw [hfs]; exact hchk) hfc m' hp
    (px_u G S P fun s1 S1 => iter_list S1 (List.mem_append_right _ hl) fun I s2 S2 => ⟨I, _, rfl, S2, fun B' c' m' D s' Q E S' hq => list_self S' (.tail _ (.head _)) hq, fun B' c' D s' G' hgs' hcs' S' => ?_⟩) (fun D H3 s3 S3 hK => ?_) hf hline hnm
  · exact list_loop hA out hn1 hnb hl S' fun i vs R' s4 hi hR S4 => step B' c' D I i vs R' s4 G' hgs' hcs' hi hR S4
  · obtain ⟨rs', R', rfl, h1, h2⟩ := hK
    exact k D rs' ((D, rowsO rs') :: R') s3 (S3.perm (perm_shift [(D, rowsO rs')] PRE R')) (.head _) (fun p hp => .tail _ (h1 p hp)) (h2.more fun p hp => .tail _ hp)

/-- for x, y in zip(l1, l2) -/
theorem x_forZip {e1 e2 : Expr} {p px py tp p1 p2 : Pos} {q n : Nat} {x y : Str} {l1 l2 : Addr} {ms rs : List Addr} {body rest : List Stmt} {Q : Flow → Shared → Prop} (G : GW γ B) (hA : A.handled = none) (M : V → V → Loc) (S : St g B c (M .any .any) H s) (hs : Spl H PRE R)
    (hz : Str.ofString "zip" ∈ c.gs) (P : PXs c (M .any .any) H [e1, e2] [.val (.ref l1), .val (.ref l2)]) (hl1 : (l1, rowsO ms) ∈ R) (hl2 : (l2, rowsO rs) ∈ R) (hn1 : ms.length = n) (hn2 : rs.length = n)
    (hu : ∀ v u, Put (M .any .any) x v (M v .any) ∧ Put (M v .any) y u (M v u))
    (turn : ∀ z TI TO i1 i2 i R' s, i < n → (∀ p ∈ R, p ∈ R') → St g B c (M (.val (.ref (ms.getD i 0))) (.val (.ref (rs.getD i 0)))) (zipIts z TI TO i1 i2 l1 l2 (i + 1) ++ PRE ++ R') s → wpAny (model prog w) A (execs body c.env) (fun f s' => f = .next ∧
      ∃ R'', St g B c (M .any .any) (zipIts z TI TO i1 i2 l1 l2 (i + 1) ++ PRE ++ R'') s' ∧ ∀ p ∈ R', p ∈ R'') NoE s)
    (k : ∀ R' s', St g B c (M .any .any) (PRE ++ R') s' → (∀ p ∈ R, p ∈ R') → wpAny (model prog w) A (execs rest c.env) Q NoE s') :
    wpAny (model prog w) A (execs (.For (.Tuple [.Name x px, .Name y py] q tp) (.Call (.Name (Str.ofString "zip") p1) [e1, e2] [] p2) body [] p :: rest) c.env) Q NoE s := by
  have he := hs.eq
  subst he
  refine x_for (ev_zip G S hz P (List.mem_append_right _ hl1) (List.mem_append_right _ hl2) fun z TI TO i1 i2 s2 S2 => ?_)
  have T := itr_zip (prog := prog) (w := w) (g := g) (B := B) (c := c) hA z TI TO i1 i2 l1 l2 (ms.map fun r => V.val (.ref r)) (rs.map fun r => V.val (.ref r)) x y px py tp q (by rw [List.length_map, List.length_map, hn1, hn2])
  rw [List.length_map, hn1] at T
  refine for_core (σ := Led) T (fun _ => M .any .any) (fun i _ => M (.val (.ref (ms.getD i 0))) (.val (.ref (rs.getD i 0)))) (fun R' => PRE ++ R') (fun i R' => i ≤ n ∧ ∀ p ∈ R, p ∈ R') (fun i R' hP => ⟨List.mem_append_right _ (hP.2 _ hl1), List.mem_append_right _ (hP.2 _ hl2)⟩)
    (fun i σ v u hv hu' => ?_) (σ₀ := R) S2 ⟨Nat.zero_le _, fun _ h => h⟩ (fun i R' s3 hi hP S3 => ?_) (fun R' s3 hP S3 => k R' s3 S3 hP.2)
  · have hi : i < n := by
      rcases Nat.lt_or_ge i n with h | h
      · exact h
      · rw [List.getElem?_eq_none (by rw [List.length_map, hn1]; exact h)] at hv; cases hv
    rw [rows_at (by omega)] at hv hu'
    cases hv; cases hu'
    exact ⟨_, (hu _ .any).1, (hu _ _).2⟩
  · refine wpAny_mono (turn z TI TO i1 i2 i R' s3 hi hP.2 (by simpa using S3)) (fun f s4 hq => ?_) fun _ _ e => e
    obtain ⟨rfl, R'', S4, h4⟩ := hq
    exact ⟨R'', by simpa using S4, by omega, fun p hp => h4 p (hP.2 p hp)⟩

/-- for x in range(<an int that is reckoned>) -/
theorem x_forNG {σ : Type} {x : Str} {px p p1 p2 : Pos} {e1 : Expr} {body rest : List Stmt} {Q : Flow → Shared → Prop} (M : σ → V → Loc) (Hf : σ → Led) (P : Nat → Nat → σ → Prop) (G : GW γ B) (hA : A.handled = none)
    (hr : Str.ofString "range" ∈ c.gs) (S : St g B c m H s) (h : wpAny (model prog w) A (eval e1 c.env) (fun v s₁ => ∃ (n : Nat) (t : Tok) (σ₀ : σ), v = .int n t ∧ n < 2 ^ 20 ∧ St g B c (M σ₀ .any) (Hf σ₀) s₁ ∧ P n 0 σ₀) NoE s)
    (hu : ∀ σ v, Put (M σ .any) x v (M σ v))
    (turn : ∀ (n i : Nat) σ s (I : Addr) (it : O), i < n → P n i σ → St g B c (M σ (.int i)) ((I, it) :: Hf σ) s → wpAny (model prog w) A (execs body c.env) (fun f s' => f = .next ∧ ∃ σ', St g B c (M σ' .any) ((I, it) :: Hf σ') s' ∧ P n (i + 1) σ') NoE s)
    (exit : ∀ n σ s, P n n σ → St g B c (M σ .any) (Hf σ) s → wpAny (model prog w) A (execs rest c.env) Q NoE s) (hs : ∀ env, starEach [e1] env = [(false, eval e1 env)] := by intro _; rfl) :
    wpAny (model prog w) A (execs (.For (.Name x px) (.Call (.Name (Str.ofString "range") p1) [e1] [] p2) body [] p :: rest) c.env) Q NoE s := by
  refine x_for (ev_type1 G S hr (by decide) boot_range' (by decide) (wpAny_mono h (fun v s1 h1 => ?_) fun _ _ e => e.elim) hs)
  obtain ⟨n, t, σ₀, rfl, hn, S1, h0⟩ := h1
  refine call_range_1 ?_
  have S2 := (S1.push' { cls := .type "range", data := .fields #[.int 0 s1.toks, .int (n : Int) t, .int 1 (s1.toks + 1)] }).toks (s1.toks + 1 + 1)
  refine wpAny_pyIter_range (IsRange.new ..) (small_one (by omega) (by omega) (by omega) (by omega)) ?_
  have S3 := S2.push (o' := rangeIt (0 + ((0 : Nat) : Int) * 1) (n - ((0 : Nat) : Int)) 1) (o := { cls := .type "range_iterator", dict := none, data := .fields #[rawInt 0, rawInt (Builtin.Range.rangeSize 0 (n : Int) 1), rawInt 1], slots := #[] }) (by
    rw [rangeSize_one, show (if (0 : Int) < n then (n : Int) - 0 else 0) = (n : Int) from by split <;> omega]
    show _ = _
    simp)
  refine for_core (itr_range hA _ x px 0 1 n) (fun σ => M σ .any) (fun i σ => M σ (.int (0 + i * 1))) Hf (P n) (fun _ _ _ => trivial) (fun i σ => hu σ _) (σ₀ := σ₀) S3 h0 (fun i σ s2 hi hP S2 => ?_) (fun σ s2 hP S2 => exit n σ s2 hP S2)
  rw [Int.mul_one, Int.zero_add] at S2
  refine wpAny_mono (turn n i σ s2 _ _ hi hP S2) (fun f s' hf => ?_) fun _ _ e => e
  obtain ⟨rfl, hf⟩ := hf
  exact hf
end
end

section
open PySem PySem.Calls PySem.W
noncomputable def V.ok : V → Bool
  | .any => false
  | _ => true
theorem PX.nameA {X : Cx} {m : Loc} {H : Led} {x : Str} {p : Pos} {v : V} (h : (x, v) ∈ m) (hv : v.ok = true) : PX X m H false (.Name x p) v := by
  cases v with
  | any => cases hv
  | int i => exact .nameI h
  | val u => exact .nameV h
theorem PX.nameCA {X : Cx} {m : Loc} {H : Led} {x : Str} {p : Pos} {a : Addr} {v : V} (h : (x, a) ∈ X.cs) (hm : (a, O.cell v) ∈ H) (hv : v.ok = true) : PX X m H false (.Name x p) v := by
  cases v with
  | any => cases hv
  | int i => exact .nameCI h hm
  | val u => exact .nameCV h hm
end

local macro_rules | `(tactic| walk_at "px") => `(tactic| first
  | ((with_reducible refine' PX.nameCA ?a ?b ?c); (case a => with_reducible assumption); (case b => walk_at "mem"); (case c => rfl))
  | ((with_reducible refine' PX.nameA ?a ?b); (case a => walk_at "meml"); (case b => rfl)))
section
open PySem PySem.Calls PySem.W
/-- the body of law's loop -/
noncomputable def lawBody : List Stmt := match (dr 49).body[5]? with
  | some (Stmt.For _ _ b _ _) => b
  | _ => []

noncomputable def rsOf (b x : Nat) : List Nat := [1, 1, b ^ (lb b x).length]
noncomputable def fo (b x n i : Nat) : List Int := lb b (n * (rsOf b x).getD i 1 % x)
noncomputable def fm (b x n : Nat) : List (List Int) := (List.range 3).map (fo b x n)

structure LC (c : Cx) (aby away alimbs aform anumber arow aw : Addr) : Prop where
  c0 : ((Str.ofString "by"), aby) ∈ c.cs
  c1 : ((Str.ofString "way"), away) ∈ c.cs
  c2 : ((Str.ofString "limbs"), alimbs) ∈ c.cs
  c3 : ((Str.ofString "form"), aform) ∈ c.cs
  c4 : ((Str.ofString "number"), anumber) ∈ c.cs
  c5 : ((Str.ofString "row"), arow) ∈ c.cs
  c6 : ((Str.ofString "w"), aw) ∈ c.cs
  g0 : (Str.ofString "_law_geared") ∈ c.gs
  g1 : (Str.ofString "_law_machines") ∈ c.gs
  g2 : (Str.ofString "_law_limbs") ∈ c.gs
  g3 : (Str.ofString "range") ∈ c.gs
  g4 : (Str.ofString "_law_inverse") ∈ c.gs
  g5 : (Str.ofString "zip") ∈ c.gs
  g6 : (Str.ofString "_law_plainly") ∈ c.gs
  g7 : (Str.ofString "_law_number") ∈ c.gs

structure LR (prog : Program) (w : World) (g : Shared) (γ : Gl) (b x : Nat) (R : Led) (t ml mm P : Addr) (ts : List Int) (ms : List Addr) : Prop where
  teeth : (t, il ts) ∈ R
  tl : ts.length ≤ 1000
  mach : (ml, rowsO ms) ∈ R
  mn : ms.length = 3
  row : (mm, il (lb b x)) ∈ R
  tab : ∃ done, (P, tabO done) ∈ R
  ok : ∀ i, i < 3 → Mach prog w g γ b x ((rsOf b x).getD i 1) R (ms.getD i 0)

noncomputable def KP (b x : Nat) (R : Led) (kvs : List (Int × Value)) : Prop := ∀ p ∈ kvs, ∃ (n : Nat) (a : Addr), p = ((n : Int), .ref a) ∧ Forms R a (fm b x n)

theorem KP.more {b x : Nat} {R R' : Led} {kvs : List (Int × Value)} (h : KP b x R kvs) (hs : ∀ p ∈ R, p ∈ R') : KP b x R' kvs := fun p hp => let ⟨n, a, e, hf⟩ := h p hp; ⟨n, a, e, hf.more hs⟩
theorem KP.get {b x n : Nat} {R : Led} {kvs : List (Int × Value)} (h : KP b x R kvs) {fl : Addr} (hf : Forms R fl (fm b x n)) : ∃ a, (valueAt kvs (n : Int)).getD (.ref fl) = .ref a ∧ Forms R a (fm b x n) := by
  unfold valueAt
  cases e : kvs.find? fun kv => decide (kv.1 = (n : Int)) with
  | none => exact ⟨fl, rfl, hf⟩
  | some p =>
    have hp := List.mem_of_find?_eq_some e
    have hk := of_decide_eq_true (List.find?_some (p := fun kv : Int × Value => decide (kv.1 = (n : Int))) e)
    obtain ⟨n', a, e', hf'⟩ := h p hp
    subst e'
    have : n' = n := by have : (n' : Int) = n := hk; omega
    subst this
    exact ⟨a, rfl, hf'⟩
theorem KP.put {b x n : Nat} {R : Led} {kvs : List (Int × Value)} (h : KP b x R kvs) {fl : Addr} (hf : Forms R fl (fm b x n)) : KP b x R (stored kvs (n : Int) (.ref fl)) := fun p hp => by
  unfold stored at hp
  split at hp
  · obtain ⟨q, hq, e⟩ := List.mem_map.mp hp
    split at e
    · rename_i hk
      subst e
      exact ⟨n, fl, by rw [hk], hf⟩
    · subst e; exact h q hq
  · rcases List.mem_append.mp hp with hp | hp
    · exact h p hp
    · rw [List.mem_singleton] at hp
      exact ⟨n, fl, hp, hf⟩

section
variable {prog : Program} {w : World} {g s : Shared} {B : Heap} {c : Cx} {m : Loc} {H Ct R : Led} {A : Around} {E : Value → Shared → Prop} {γ : Gl}

theorem LC.fc {aby away alimbs aform anumber arow aw : Addr} (C : LC c aby away alimbs aform anumber arow aw) {fc : List (Str × Addr)} (h : ∀ p ∈ fc, p ∈ [((Str.ofString "by"), aby), ((Str.ofString "way"), away), ((Str.ofString "limbs"), alimbs), ((Str.ofString "form"), aform), ((Str.ofString "number"), anumber), ((Str.ofString "row"), arow), ((Str.ofString "w"), aw)]) : ∀ p ∈ fc, p ∈ c.cs := fun p hp => by
  have := h p hp
  simp only [List.mem_cons, List.not_mem_nil, or_false] at this
  rcases this with rfl | rfl | rfl | rfl | rfl | rfl | rfl
  · exact C.c0
  · exact C.c1
  · exact C.c2
  · exact C.c3
  · exact C.c4
  · exact C.c5
  · exact C.c6

theorem LR.more {b x : Nat} {R' : Led} {t ml mm P : Addr} {ts : List Int} {ms : List Addr} (h : LR prog w g γ b x R t ml mm P ts ms) (hs : ∀ p ∈ R, p ∈ R') : LR prog w g γ b x R' t ml mm P ts ms :=
  ⟨hs _ h.teeth, h.tl, hs _ h.mach, h.mn, hs _ h.row, let ⟨d, hd⟩ := h.tab; ⟨d, hs _ hd⟩, fun i hi => (h.ok i hi).more hs⟩

theorem Spec.useP {n k : Nat} {f : Value} {vals : List Value} {Post : Value → Led → Prop} {Q : Value → Shared → Prop} (S : St g B c m H s) (hs : Spl H Ct R) (T : Spec prog w g γ n f vals R Post)
    (G : GW γ B) (hA : AOk A k) (hk : n ≤ k) (h : ∀ v s' R', St g B c m (Ct ++ R') s' → Post v R' → Q v s') : wpAny (model prog w) A (call f vals) Q E s := by
  rw [hs.eq] at S
  exact T.useC Ct R G hA hk S h

variable {k b x : Nat} {aby away alimbs aform anumber arow aw cg kd t ml mm P sc : Addr} {ts : List Int} {ms : List Addr} {kvs : List (Int × Value)} {vby vway vlimbs vform vnumber : V}

/-- how a turn ends -/
noncomputable abbrev TurnEnd (prog : Program) (w : World) (g : Shared) (γ : Gl) (B : Heap) (c : Cx) (k b x : Nat) (aby away alimbs aform anumber arow aw cg kd t ml mm P sc : Addr) (ts : List Int) (ms : List Addr) (tv : V) (I : Addr) (it : O) (N : Nat) (f : Flow) (s' : Shared) : Prop :=
  f = .next ∧ ∃ (nb : Nat) (hl : Addr) (kvs : List (Int × Value)) (R : Led) (vby vway vlimbs vform : V), nb < x ∧ St g B c ([((Str.ofString "script"), V.val (.ref sc)), ((Str.ofString "cog"), V.val (.ref cg)), ((Str.ofString "m"), V.int x), ((Str.ofString "machines"), V.val (.ref ml)), ((Str.ofString "machine"), V.any), ((Str.ofString "helds"), .val (.ref hl)), ((Str.ofString "kept"), V.val (.ref kd)), ((Str.ofString "turn"), tv), ((Str.ofString "other"), V.any), ((Str.ofString "back"), V.any), ((Str.ofString "found"), V.any), ((Str.ofString "one"), V.any)]) ((I, it) :: (aby, O.cell (vby)) :: (away, O.cell (vway)) :: (alimbs, O.cell (vlimbs)) :: (aform, O.cell (vform)) :: (anumber, O.cell (.int nb)) :: (arow, O.cell (V.val (.ref mm))) :: (aw, O.cell (V.int k)) :: (cg, cogO t) :: (kd, dictO prog w kvs) :: R) s' ∧ LR prog w g γ b x R t ml mm P ts ms ∧ Forms R hl (fm b x nb) ∧ KP b x R kvs ∧ kvs.length ≤ N

theorem seg6 (T : Top γ) {st : Stmt} {sts : List Stmt} (hb : lawBody.drop 6 = st :: sts) (hB : Bs k b) (C : LC c aby away alimbs aform anumber arow aw) (G : GW γ B) (hA : AOk A 9) {n o N : Nat} {hl fl lr I : Addr} {it : O} {tv vb : V}
    (L : LR prog w g γ b x R t ml mm P ts ms) (hn : n < x) (ho : o < 2 ^ 20) (hf : Forms R fl (fm b x n)) (hk : KP b x R kvs) (hN : kvs.length < N) (hN2 : N ≤ 1000) (hsys : (kd == sysModules) = false) (hlr : (lr, il (lb b o)) ∈ R)
    (S : St g B c ([((Str.ofString "script"), V.val (.ref sc)), ((Str.ofString "cog"), V.val (.ref cg)), ((Str.ofString "m"), V.int x), ((Str.ofString "machines"), V.val (.ref ml)), ((Str.ofString "machine"), V.any), ((Str.ofString "helds"), .val (.ref hl)), ((Str.ofString "kept"), V.val (.ref kd)), ((Str.ofString "turn"), tv), ((Str.ofString "other"), .int o), ((Str.ofString "back"), vb), ((Str.ofString "found"), .val (.ref fl)), ((Str.ofString "one"), V.any)]) ((I, it) :: (aby, O.cell (vby)) :: (away, O.cell (vway)) :: (alimbs, O.cell (.val (.ref lr))) :: (aform, O.cell (vform)) :: (anumber, O.cell (.int n)) :: (arow, O.cell (V.val (.ref mm))) :: (aw, O.cell (V.int k)) :: (cg, cogO t) :: (kd, dictO prog w kvs) :: R) s) :
    wpAny (model prog w) A (execs (lawBody.drop 6) c.env) (TurnEnd prog w g γ B c k b x aby away alimbs aform anumber arow aw cg kd t ml mm P sc ts ms tv I it N) NoE s := by
  rw [hb]
  cases hb
  obtain ⟨hc0, hc1, hc2, hc3, hc4, hc5, hc6, hg0, hg1, hg2, hg3, hg4, hg5, hg6, hg7⟩ := C
  obtain ⟨a, ea, hfa⟩ := hk.get hf
  have up : ∀ p ∈ R, p ∈ ((I, it) :: (aby, O.cell (vby)) :: (away, O.cell (vway)) :: (alimbs, O.cell (.val (.ref lr))) :: (aform, O.cell (vform)) :: (anumber, O.cell (.int n)) :: (arow, O.cell (V.val (.ref mm))) :: (aw, O.cell (V.int k)) :: (cg, cogO t) :: (kd, dictO prog w kvs) :: R : Led) := fun p hp => by walk_at "mem"
  refine x_ifG (t_or (wpAny_isTrue_Compare1 (ev_dget (prog := prog) (w := w) (i := n) (u := .ref fl) G S (by walk_at "px") (kvs := kvs) (by walk_at "mem") hsys (by walk_at "px") (by walk_at "px") fun s1 S1 => ?_)))
  rw [ea]
  refine px_u G S1 (u := .ref fl) (by walk_at "px") fun s2 S2 => ne_forms hA.u64 S2 (hfa.more up) (hf.more up) (wpAny_truthy_bool ?_)
  rw [if_neg Bool.false_ne_true]
  refine wpAny_isTrue_Compare1 (px_u G S2 (u := .ref lr) (by walk_at "px") fun s3 S3 => ev_callSP T 43 1 9 G hA S3 (by walk_at "spl") hg2 (by walk_at "pxs") (limbs_spec T hB (n := o) (by omega)) fun v s4 R4 S4 hp => ?_)
  obtain ⟨r, rfl, hr, hs4⟩ := hp
  dsimp only [List.cons_append, List.nil_append] at S4
  have hlr4 := hs4 _ hlr
  refine cmp_rowsN hA.u64 S4 (ns := lb b o) (ms := lb b o) (by walk_at "mem") (by walk_at "mem") (wpAny_truthy_bool ?_)
  rw [decide_eq_true rfl, Bool.not_true, if_neg Bool.false_ne_true]
  refine x_nil ?_
  refine x_dset (prog := prog) (w := w) G S4 (u := .ref fl) (kk := n) (by walk_at "px") (by walk_at "px") (by walk_at "px") (kvs := kvs) (by walk_at "mem") (by omega) (by walk_at "put") fun s5 S5 => ?_
  refine x_asg G S5 (v := .val (.ref fl)) (by walk_at "px") (by walk_at "put") fun s6 S6 => ?_
  refine x_nil ⟨rfl, n, fl, stored kvs n (.ref fl), R4, _, _, _, _, hn, S6.fit (by walk_at "weak") (List.Sublist.refl _), L.more hs4, hf.more hs4, (hk.more hs4).put (hf.more hs4), ?_⟩
  have := stored_length_le kvs (n : Int) (.ref fl)
  omega
end
end

section
open PySem PySem.Calls PySem.W
theorem emod_sub_l {a b x : Int} : (a % x - b) % x = (a - b) % x := by
  have h := Int.emod_add_mul_ediv a x
  have e : a % x - b = (a - b) + x * (-(a / x)) := by rw [Int.mul_neg]; omega
  rw [e, Int.add_mul_emod_self_left]
theorem emod_add_l {a b x : Int} : (a % x + b) % x = (a + b) % x := by
  have h := Int.emod_add_mul_ediv a x
  have e : a % x + b = (a + b) + x * (-(a / x)) := by rw [Int.mul_neg]; omega
  rw [e, Int.add_mul_emod_self_left]
theorem emod_sub_r {a b x : Int} : (b - a % x) % x = (b - a) % x := by
  have h := Int.emod_add_mul_ediv a x
  have e : b - a % x = (b - a) + x * (a / x) := by omega
  rw [e, Int.add_mul_emod_self_left]
theorem nat_emod {n x : Nat} (h : n < x) : (n : Int) % x = n := Int.emod_eq_of_lt (by omega) (by omega)
theorem back0 {n o x : Nat} (h : n < x) : dn 1 (dn 0 n o x) o x = n := by
  have hx : 0 < x := by omega
  have e : ((dn 1 (dn 0 n o x) o x : Nat) : Int) = n := by
    rw [dn_cast hx, dn_cast hx]
    show ((((n : Int) + o) % x) - o) % x = n
    rw [emod_sub_l, show (n : Int) + o - o = n by omega, nat_emod h]
  omega
theorem back1 {n o x : Nat} (h : n < x) : dn 0 (dn 1 n o x) o x = n := by
  have hx : 0 < x := by omega
  have e : ((dn 0 (dn 1 n o x) o x : Nat) : Int) = n := by
    rw [dn_cast hx, dn_cast hx]
    show ((((n : Int) - o) % x) + o) % x = n
    rw [emod_add_l, show (n : Int) - o + o = n by omega, nat_emod h]
  omega
theorem back5 {n o x : Nat} (h : n < x) : dn 5 (dn 5 n o x) o x = n := by
  have hx : 0 < x := by omega
  have e : ((dn 5 (dn 5 n o x) o x : Nat) : Int) = n := by
    rw [dn_cast hx, dn_cast hx]
    show (0 - ((0 - (n : Int)) % x)) % x = n
    rw [emod_sub_r, show (0 : Int) - (0 - n) = n by omega, nat_emod h]
  omega
theorem back2 {n o y x : Nat} (h : n < x) (hy : o * y % x = 1) : dn 2 (dn 2 n o x) y x = n := by
  have hx : 0 < x := by omega
  have e : ((dn 2 (dn 2 n o x) y x : Nat) : Int) = n := by
    rw [dn_cast hx, dn_cast hx]
    show (((n : Int) * o) % x * y) % x = n
    rw [dnI, Int.mul_assoc, Int.mul_emod, show ((o : Int) * y) % x = 1 from by rw [← Int.natCast_mul, ← Int.natCast_emod, hy]; rfl, Int.mul_one, Int.emod_emod, nat_emod h]
  omega

theorem Rows.at {b x n i : Nat} {R : Led} {rs : List Addr} (h : Rows R rs (fm b x n)) (hi : i < 3) : (rs.getD i 0, il (fo b x n i)) ∈ R := by
  have e : (fm b x n)[i]? = some (fo b x n i) := by
    unfold fm
    rw [List.getElem?_map, List.getElem?_range hi]; rfl
  obtain ⟨r, h1, h2⟩ := h.get e
  rw [List.getD_eq_getElem?_getD, h1]
  exact h2
theorem Rows.three {b x n : Nat} {R : Led} {rs : List Addr} (h : Rows R rs (fm b x n)) : rs.length = 3 := by
  rw [h.len]; unfold fm; simp

noncomputable def ifBody : List Stmt := match lawBody[5]? with
  | some (Stmt.If _ b _ _) => b
  | _ => []

section
variable {prog : Program} {w : World} {g s : Shared} {B : Heap} {c : Cx} {m : Loc} {H Ct R : Led} {A : Around} {E : Value → Shared → Prop} {γ : Gl}
variable {k b x : Nat} {aby away alimbs aform anumber arow aw cg kd t ml mm P sc : Addr} {ts : List Int} {ms : List Addr} {kvs : List (Int × Value)} {vby vway vlimbs vform vnumber : V}

theorem seg5c (T : Top γ) {st : Stmt} {sts : List Stmt} (hb : ifBody.drop 1 = st :: sts) (hB : Bs k b) (hM : Md b x) (C : LC c aby away alimbs aform anumber arow aw) (G : GW γ B) (hA : AOk A 9) {n n' y f : Nat} {hl fl br I : Addr} {it : O} {tv vb vo : V}
    (L : LR prog w g γ b x R t ml mm P ts ms) (hh : Forms R hl (fm b x n)) (hf : Forms R fl (fm b x n')) (hbr : (br, il (lb b y)) ∈ R) (hy : y < x) (hf6 : f < 6) (hback : dn f n' y x = n)
    (S : St g B c ([((Str.ofString "script"), V.val (.ref sc)), ((Str.ofString "cog"), V.val (.ref cg)), ((Str.ofString "m"), V.int x), ((Str.ofString "machines"), V.val (.ref ml)), ((Str.ofString "machine"), V.any), ((Str.ofString "helds"), .val (.ref hl)), ((Str.ofString "kept"), V.val (.ref kd)), ((Str.ofString "turn"), tv), ((Str.ofString "other"), vo), ((Str.ofString "back"), vb), ((Str.ofString "found"), .val (.ref fl)), ((Str.ofString "one"), V.any)]) ((I, it) :: (aby, O.cell (.val (.ref br))) :: (away, O.cell (.int f)) :: (alimbs, O.cell (vlimbs)) :: (aform, O.cell (vform)) :: (anumber, O.cell (vnumber)) :: (arow, O.cell (V.val (.ref mm))) :: (aw, O.cell (V.int k)) :: (cg, cogO t) :: (kd, dictO prog w kvs) :: R) s) :
    wpAny (model prog w) A (execs (ifBody.drop 1) c.env) (fun fl' s' => fl' = .next ∧ ∃ R', (∀ p ∈ R, p ∈ R') ∧
      St g B c ([((Str.ofString "script"), V.val (.ref sc)), ((Str.ofString "cog"), V.val (.ref cg)), ((Str.ofString "m"), V.int x), ((Str.ofString "machines"), V.val (.ref ml)), ((Str.ofString "machine"), V.any), ((Str.ofString "helds"), .val (.ref hl)), ((Str.ofString "kept"), V.val (.ref kd)), ((Str.ofString "turn"), tv), ((Str.ofString "other"), vo), ((Str.ofString "back"), vb), ((Str.ofString "found"), .val (.ref fl)), ((Str.ofString "one"), V.any)]) ((I, it) :: (aby, O.cell (.val (.ref br))) :: (away, O.cell (.int f)) :: (alimbs, O.cell (vlimbs)) :: (aform, O.cell (vform)) :: (anumber, O.cell (vnumber)) :: (arow, O.cell (V.val (.ref mm))) :: (aw, O.cell (V.int k)) :: (cg, cogO t) :: (kd, dictO prog w kvs) :: R') s') NoE s := by
  rw [hb]
  cases hb
  have C' := C
  obtain ⟨hc0, hc1, hc2, hc3, hc4, hc5, hc6, hg0, hg1, hg2, hg3, hg4, hg5, hg6, hg7⟩ := C
  obtain ⟨rs, hrs, hrows⟩ := hf
  refine x_ifG (wpAny_isTrue_Compare1 (ev_compZ (n := 3) G hA.hd S (by walk_at "spl") (by decide) [(Str.ofString "_law_done")] [((Str.ofString "by"), aby), ((Str.ofString "row"), arow), ((Str.ofString "w"), aw), ((Str.ofString "way"), away)] [(Str.ofString "by"), (Str.ofString "row"), (Str.ofString "w"), (Str.ofString "way")] (by decide +kernel) rfl (C'.fc fun p hp => ?_) hg5 (by walk_at "pxs") L.mach hrs L.mn hrows.three (by decide) (fo b x n)
    (fun B' c' D z TI TO i1 i2 i vs R' s2 G' hgs hcs hi hR S2 => ?_) (fun D rs' R' s2 S2 hD hR hr => ?_)))
  · simp only [List.mem_cons, List.not_mem_nil, or_false] at hp
    rcases hp with rfl | rfl | rfl | rfl <;> walk_at "mem"
  · dsimp only [zipIts, List.cons_append, List.nil_append] at S2
    have hg : (Str.ofString "_law_done") ∈ c'.gs := by rw [hgs]; exact .head _
    have k0 : ((Str.ofString "by"), aby) ∈ c'.cs := by rw [hcs]; exact .head _
    have k1 : ((Str.ofString "row"), arow) ∈ c'.cs := by rw [hcs]; exact .tail _ (.head _)
    have k2 : ((Str.ofString "w"), aw) ∈ c'.cs := by rw [hcs]; exact .tail _ (.tail _ (.head _))
    have k3 : ((Str.ofString "way"), away) ∈ c'.cs := by rw [hcs]; exact .tail _ (.tail _ (.tail _ (.head _)))
    have L' := L.more hR
    refine ev_callSP T 46 9 9 G' hA S2 (by walk_at "spl") hg (by walk_at "pxs") (done_spec T hB hM (L'.ok i hi) ((hrows.more hR).at hi) (hR _ hbr) hy L'.row hf6) fun v s3 R3 S3 hp => ?_
    obtain ⟨r, rfl, hr, hs3⟩ := hp
    rw [hback] at hr
    exact ⟨r, _, R3, rfl, by walk_at "weak", S3, hs3, hr⟩
  · have up : ∀ p ∈ R', p ∈ ((I, it) :: (aby, O.cell (.val (.ref br))) :: (away, O.cell (.int f)) :: (alimbs, O.cell (vlimbs)) :: (aform, O.cell (vform)) :: (anumber, O.cell (vnumber)) :: (arow, O.cell (V.val (.ref mm))) :: (aw, O.cell (V.int k)) :: (cg, cogO t) :: (kd, dictO prog w kvs) :: R' : Led) := fun p hp => by walk_at "mem"
    dsimp only [List.cons_append, List.nil_append] at S2
    refine px_u G S2 (u := .ref hl) (by walk_at "px") fun s3 S3 => ne_forms hA.u64 S3 (nss := fm b x n) (Forms.more ⟨rs', hD, hr⟩ up) ((hh.more hR).more up) (wpAny_truthy_bool ?_)
    rw [if_neg Bool.false_ne_true]
    exact x_nil (x_nil ⟨rfl, R', hR, S3⟩)
end
end

section
open PySem PySem.Calls PySem.W
section
variable {prog : Program} {w : World} {g s : Shared} {B : Heap} {c : Cx} {m : Loc} {H Ct R : Led} {A : Around} {E : Value → Shared → Prop} {γ : Gl}
variable {k b x : Nat} {aby away alimbs aform anumber arow aw cg kd t ml mm P sc : Addr} {ts : List Int} {ms : List Addr} {kvs : List (Int × Value)} {vby vway vlimbs vform vnumber : V}

theorem way_of {f n o x : Nat} (hn : n < x) (h : f = 0 ∨ f = 1 ∨ f = 5) : ∃ wy : Nat, ([1, 0, 0, 0, 0, 5] : List Int).getD f 0 = wy ∧ wy < 6 ∧ dn wy (dn f n o x) o x = n := by
  rcases h with rfl | rfl | rfl
  · exact ⟨1, rfl, by decide, back0 hn⟩
  · exact ⟨0, rfl, by decide, back1 hn⟩
  · exact ⟨5, rfl, by decide, back5 hn⟩

/-- what is told of the inverse -/
noncomputable def Bk (x f o : Nat) (vb : V) : Prop := vb = .val .none ∨ ∃ y : Nat, vb = .int y ∧ y < x ∧ f = 2 ∧ o * y % x = 1

theorem seg5 (T : Top γ) {st : Stmt} {sts : List Stmt} (hb : lawBody.drop 5 = st :: sts) {st1 : Stmt} {sts1 : List Stmt} (hb1 : ifBody.drop 1 = st1 :: sts1) {st6 : Stmt} {sts6 : List Stmt} (hb6 : lawBody.drop 6 = st6 :: sts6) (hB : Bs k b) (hM : Md b x) (C : LC c aby away alimbs aform anumber arow aw) (G : GW γ B) (hA : AOk A 9) {n f o N : Nat} {hl fl lr I : Addr} {it : O} {tv vb : V}
    (L : LR prog w g γ b x R t ml mm P ts ms) (hn : n < x) (hf6 : f < 6) (ho : o < x) (hh : Forms R hl (fm b x n)) (hf : Forms R fl (fm b x (dn f n o x))) (hk : KP b x R kvs) (hN : kvs.length < N) (hN2 : N ≤ 1000) (hsys : (kd == sysModules) = false) (hlr : (lr, il (lb b o)) ∈ R) (hbk : Bk x f o vb)
    (S : St g B c ([((Str.ofString "script"), V.val (.ref sc)), ((Str.ofString "cog"), V.val (.ref cg)), ((Str.ofString "m"), V.int x), ((Str.ofString "machines"), V.val (.ref ml)), ((Str.ofString "machine"), V.any), ((Str.ofString "helds"), .val (.ref hl)), ((Str.ofString "kept"), V.val (.ref kd)), ((Str.ofString "turn"), tv), ((Str.ofString "other"), .int o), ((Str.ofString "back"), vb), ((Str.ofString "found"), .val (.ref fl)), ((Str.ofString "one"), V.any)]) ((I, it) :: (aby, O.cell (vby)) :: (away, O.cell (vway)) :: (alimbs, O.cell (.val (.ref lr))) :: (aform, O.cell (.int f)) :: (anumber, O.cell (.int (dn f n o x))) :: (arow, O.cell (V.val (.ref mm))) :: (aw, O.cell (V.int k)) :: (cg, cogO t) :: (kd, dictO prog w kvs) :: R) s) :
    wpAny (model prog w) A (execs (lawBody.drop 5) c.env) (TurnEnd prog w g γ B c k b x aby away alimbs aform anumber arow aw cg kd t ml mm P sc ts ms tv I it N) NoE s := by
  rw [hb]
  cases hb
  have C' := C
  have hhi := hM.hi
  have hn' : dn f n o x < x := dn_lt hM.pos
  obtain ⟨hc0, hc1, hc2, hc3, hc4, hc5, hc6, hg0, hg1, hg2, hg3, hg4, hg5, hg6, hg7⟩ := C
  refine x_ifG (t_or (t_in3 G S (i := f) (by walk_at "px") (a := 0) (b := 1) (d := 5) (by walk_at "pxs") fun s1 S1 => ?_))
  by_cases h015 : f = 0 ∨ f = 1 ∨ f = 5
  · rw [if_pos (by rcases h015 with rfl | rfl | rfl <;> rfl), if_pos rfl]
    obtain ⟨wy, hw, hwy, hback⟩ := way_of (o := o) hn h015
    refine x_two' hA.hd S1 (wpAny_IfExp (px_t G S1 (b := decide ((f : Int) = 2)) (by walk_at "px") fun s2 S2 => ite_b (fun hq => ?_) fun hq => ?_))
    · exfalso
      have := of_decide_eq_true hq
      omega
    refine ev_Tuple ?_
    refine sp_cons ?_
    refine ev_itemL G S2 ?_ (fun _ _ => rfl)
    refine ev_listI (ns := [1, 0, 0, 0, 0, 5]) G S2 (.cons .int (.cons .int (.cons .int (.cons .int (.cons .int (.cons .int .nil (fun _ => rfl)) (fun _ => rfl)) (fun _ => rfl)) (fun _ => rfl)) (fun _ => rfl)) (fun _ => rfl)) (by simp [bigN]) fun r s3 S3 => ?_
    refine ⟨r, _, _, f, .int (([1, 0, 0, 0, 0, 5] : List Int).getD f 0), rfl, S3, .head _, by walk_at "px", by omega, getI (k := f) (by simpa using hf6), fun val s4 hv S4 => ?_⟩
    rw [hw] at hv
    obtain ⟨tk, ev⟩ := hv
    cases ev
    refine sp_cons (px_u G S4 (u := .ref lr) (by walk_at "px") fun s5 S5 => sp_nil _ (ev_newTuple S5.tail (vs := [.int wy, .val (.ref lr)]) ⟨⟨tk, rfl⟩, rfl, trivial⟩ (by simp [bigN]) fun r2 s6 S6 => ?_))
    refine ⟨r2, .int wy, .val (.ref lr), _, _, _, _, _, _, _, rfl, S6, .head _, List.sublist_cons_self .., .cel hc1 (by walk_at "putc"), .cel hc0 (by walk_at "putc"), fun s7 S7 => ?_⟩
    refine wpAny_mono (seg5c T hb1 hB hM C' G hA L hh hf hlr ho hwy hback S7) (fun f' s8 hq => ?_) fun _ _ e => e
    obtain ⟨rfl, R', hR, S8⟩ := hq
    exact seg6 T hb6 hB C' G hA (L.more hR) hn' (by omega) (hf.more hR) (hk.more hR) hN hN2 hsys (hR _ hlr) S8
  · rw [if_neg (by
      intro q
      simp only [Bool.or_eq_true, beq_iff_eq] at q
      omega)]
    rcases hbk with rfl | ⟨y, rfl, hy, hf2, hoy⟩
    · refine t_isnot G S1 (v := .val .none) (by walk_at "px") false (fun val hv => .inr ⟨rfl, by cases hv; rfl⟩) fun s2 S2 => ?_
      rw [if_neg Bool.false_ne_true]
      exact x_nil (seg6 T hb6 hB C' G hA L hn' (by omega) hf hk hN hN2 hsys hlr S2)
    · subst hf2
      refine t_isnot G S1 (v := .int y) (by walk_at "px") true (fun val hv => .inl ⟨rfl, by obtain ⟨tk, e⟩ := hv; cases e; exact ⟨_, _, rfl⟩⟩) fun s2 S2 => ?_
      rw [if_pos rfl]
      refine x_two' hA.hd S2 (wpAny_IfExp (px_t G S2 (b := decide (((2 : Nat) : Int) = 2)) (by walk_at "px") fun s3 S3 => ite_b (fun hq => ?_) fun hq => ?_))
      · refine ev_Tuple ?_
        refine sp_cons (px_i G S3 (i := 2) (by walk_at "px") fun tk s4 S4 => ?_)
        refine sp_cons (ev_callSP T 43 1 9 G hA S4 (by walk_at "spl") hg2 (by walk_at "pxs") (limbs_spec T hB (n := y) (by omega)) fun v s5 R5 S5 hp => ?_)
        obtain ⟨r, rfl, hr, hR⟩ := hp
        dsimp only [List.cons_append, List.nil_append] at S5
        refine sp_nil _ (ev_newTuple S5 (vs := [.int ((2 : Nat) : Int), .val (.ref r)]) ⟨⟨tk, rfl⟩, rfl, trivial⟩ (by simp [bigN]) fun r2 s6 S6 => ?_)
        refine ⟨r2, .int ((2 : Nat) : Int), .val (.ref r), _, _, _, _, _, _, _, rfl, S6, .head _, List.sublist_cons_self .., .cel hc1 (by walk_at "putc"), .cel hc0 (by walk_at "putc"), fun s7 S7 => ?_⟩
        refine wpAny_mono (seg5c T hb1 hB hM C' G hA (L.more hR) (hh.more hR) (hf.more hR) hr hy (by decide) (back2 hn hoy) S7) (fun f' s8 hq => ?_) fun _ _ e => e
        obtain ⟨rfl, R', hR', S8⟩ := hq
        have hRR : ∀ p ∈ R, p ∈ R' := fun p hp => hR' p (hR p hp)
        exact seg6 T hb6 hB C' G hA (L.more hRR) hn' (by omega) (hf.more hRR) (hk.more hRR) hN hN2 hsys (hRR _ hlr) S8
      · exfalso
        exact of_decide_eq_false hq rfl
end
end

section
open PySem PySem.Calls PySem.W
section
variable {prog : Program} {w : World} {g s : Shared} {B : Heap} {c : Cx} {m : Loc} {H Ct R : Led} {A : Around} {E : Value → Shared → Prop} {γ : Gl}
variable {k b x : Nat} {aby away alimbs aform anumber arow aw cg kd t ml mm P sc : Addr} {ts : List Int} {ms : List Addr} {kvs : List (Int × Value)} {vby vway vlimbs vform vnumber : V}

theorem seg4 (T : Top γ) {st : Stmt} {sts : List Stmt} (hb : lawBody.drop 4 = st :: sts) {st5 : Stmt} {sts5 : List Stmt} (hb5 : lawBody.drop 5 = st5 :: sts5) {st1 : Stmt} {sts1 : List Stmt} (hb1 : ifBody.drop 1 = st1 :: sts1) {st6 : Stmt} {sts6 : List Stmt} (hb6 : lawBody.drop 6 = st6 :: sts6) (hB : Bs k b) (hM : Md b x) (C : LC c aby away alimbs aform anumber arow aw) (G : GW γ B) (hA : AOk A 9) {n f o N : Nat} {hl fl lr I : Addr} {it : O} {tv vb vmachine vone : V}
    (L : LR prog w g γ b x R t ml mm P ts ms) (hn : n < x) (hf6 : f < 6) (ho : o < x) (hh : Forms R hl (fm b x n)) (hf : Forms R fl (fm b x (dn f n o x))) (hk : KP b x R kvs) (hN : kvs.length < N) (hN2 : N ≤ 1000) (hsys : (kd == sysModules) = false) (hlr : (lr, il (lb b o)) ∈ R) (hbk : Bk x f o vb)
    (S : St g B c ([((Str.ofString "script"), V.val (.ref sc)), ((Str.ofString "cog"), V.val (.ref cg)), ((Str.ofString "m"), V.int x), ((Str.ofString "machines"), V.val (.ref ml)), ((Str.ofString "machine"), V.any), ((Str.ofString "helds"), .val (.ref hl)), ((Str.ofString "kept"), V.val (.ref kd)), ((Str.ofString "turn"), tv), ((Str.ofString "other"), .int o), ((Str.ofString "back"), vb), ((Str.ofString "found"), .val (.ref fl)), ((Str.ofString "one"), V.any)]) ((I, it) :: (aby, O.cell (vby)) :: (away, O.cell (vway)) :: (alimbs, O.cell (.val (.ref lr))) :: (aform, O.cell (.int f)) :: (anumber, O.cell (.int (dn f n o x))) :: (arow, O.cell (V.val (.ref mm))) :: (aw, O.cell (V.int k)) :: (cg, cogO t) :: (kd, dictO prog w kvs) :: R) s) :
    wpAny (model prog w) A (execs (lawBody.drop 4) c.env) (TurnEnd prog w g γ B c k b x aby away alimbs aform anumber arow aw cg kd t ml mm P sc ts ms tv I it N) NoE s := by
  rw [hb]
  cases hb
  have C' := C
  have hhi := hM.hi
  have hn' : dn f n o x < x := dn_lt hM.pos
  obtain ⟨hc0, hc1, hc2, hc3, hc4, hc5, hc6, hg0, hg1, hg2, hg3, hg4, hg5, hg6, hg7⟩ := C
  obtain ⟨rs, hrs, hrows⟩ := id hf
  refine x_forZip (n := 3) G hA.hd (fun v u => [((Str.ofString "script"), V.val (.ref sc)), ((Str.ofString "cog"), V.val (.ref cg)), ((Str.ofString "m"), V.int x), ((Str.ofString "machines"), V.val (.ref ml)), ((Str.ofString "machine"), v), ((Str.ofString "helds"), .val (.ref hl)), ((Str.ofString "kept"), V.val (.ref kd)), ((Str.ofString "turn"), tv), ((Str.ofString "other"), .int o), ((Str.ofString "back"), vb), ((Str.ofString "found"), .val (.ref fl)), ((Str.ofString "one"), u)]) S (by walk_at "spl") hg5 (by walk_at "pxs") L.mach hrs L.mn hrows.three (fun v u => ⟨by walk_at "put", by walk_at "put"⟩)
    (fun z TI TO i1 i2 i R' s1 hi hR S1 => ?_) (fun R' s1 S1 hR => ?_)
  · dsimp only [zipIts, List.cons_append, List.nil_append] at S1
    have L' := L.more hR
    obtain ⟨f0, f1, f2, f3, m1, m2, m3, m4, m5, m6⟩ := L'.ok i hi
    have hrow := (hrows.more hR).at hi
    have hm3 : IsF R' f1 := m3
    refine x_ifG (t_or (wpAny_isTrue_Compare1 (ev_callG T 44 G S1 hg7 fun s2 S2 => ?_)))
    refine sp_cons (ev_callFP 8 9 G hA S2 (by walk_at "spl") (.itemT (k := 1) (by walk_at "px") .int (by walk_at "mem") (by decide) rfl (fun _ _ => rfl)) m3 (by walk_at "pxs") ((m6 R' fun _ h => h).2.1 _ (dn f n o x) hrow) fun v s3 R3 S3 hp => ?_)
    obtain ⟨r, rfl, g1, g2⟩ := hp
    dsimp only [List.cons_append, List.nil_append] at S3
    rw [Nat.mod_eq_of_lt hn'] at g1
    refine sp_cons (px_i G S3 (i := k) (by walk_at "px") fun u s4 S4 => sp_nil _ ⟨⟨_, _, _, S4⟩, Spec.useP S4 (by walk_at "spl") (number_spec T hB g1 (by omega) [.ref r, .int k u] ⟨rfl, ⟨u, rfl⟩, trivial⟩) G hA (by omega) fun v s5 R5 S5 hp => ?_⟩)
    obtain ⟨⟨tk, rfl⟩, g3⟩ := hp
    dsimp only [List.cons_append, List.nil_append] at S5
    refine px_i G S5 (i := dn f n o x) (by walk_at "px") fun u2 s6 S6 => cmp_int (.ne _ _) (wpAny_truthy_bool ?_)
    rw [decide_eq_false (fun h => h rfl), if_neg Bool.false_ne_true]
    have hrow5 := g3 _ (g2 _ hrow)
    have hlt : dn f n o x * (rsOf b x).getD i 1 % x < x := Nat.mod_lt _ hM.pos
    refine wpAny_isTrue_Not (PyProof.Rows.isTrue_chain (px_i G S6 (i := 0) .int fun u3 s7 S7 => PyProof.Rows.test_link (ev_callSP T 44 1 9 G hA S7 (by walk_at "spl") hg7 (by walk_at "pxs") (number_spec T hB hrow5 (by omega)) fun v s8 R8 S8 hp => ?_)))
    obtain ⟨⟨tk2, rfl⟩, g4⟩ := hp
    dsimp only [List.cons_append, List.nil_append] at S8
    refine cmp_int (.le _ _) (wpAny_truthy_bool ?_)
    rw [decide_eq_true (by omega), if_pos rfl]
    refine PyProof.Rows.test_last (px_i G S8 (i := x) (by walk_at "px") fun u4 s9 S9 => cmp_int (.lt _ _) (wpAny_truthy_bool ?_))
    rw [decide_eq_true (by omega), Bool.not_true, if_neg Bool.false_ne_true]
    refine x_nil (x_nil ⟨rfl, R8, S9.fit (by walk_at "weak") (List.Sublist.refl _), fun p hp => g4 p (g3 p (g2 p hp))⟩)
  · dsimp only [List.cons_append, List.nil_append] at S1
    exact seg5 T hb5 hb1 hb6 hB hM C' G hA (L.more hR) hn hf6 ho (hh.more hR) (hf.more hR) (hk.more hR) hN hN2 hsys (hR _ hlr) hbk S1
end
end

section
open PySem PySem.Calls PySem.W
section
variable {prog : Program} {w : World} {g s : Shared} {B : Heap} {c : Cx} {m : Loc} {H Ct R : Led} {A : Around} {E : Value → Shared → Prop} {γ : Gl}
variable {k b x : Nat} {aby away alimbs aform anumber arow aw cg kd t ml mm P sc : Addr} {ts : List Int} {ms : List Addr} {kvs : List (Int × Value)} {vby vway vlimbs vform vnumber : V}

theorem seg2 (T : Top γ) {st : Stmt} {sts : List Stmt} (hb : lawBody.drop 2 = st :: sts) {st4 : Stmt} {sts4 : List Stmt} (hb4 : lawBody.drop 4 = st4 :: sts4) {st5 : Stmt} {sts5 : List Stmt} (hb5 : lawBody.drop 5 = st5 :: sts5) {st1 : Stmt} {sts1 : List Stmt} (hb1 : ifBody.drop 1 = st1 :: sts1) {st6 : Stmt} {sts6 : List Stmt} (hb6 : lawBody.drop 6 = st6 :: sts6) (hB : Bs k b) (hM : Md b x) (C : LC c aby away alimbs aform anumber arow aw) (G : GW γ B) (hA : AOk A 9) {n f o N : Nat} {hl lr I : Addr} {it : O} {tv vb : V}
    (L : LR prog w g γ b x R t ml mm P ts ms) (hn : n < x) (hf6 : f < 6) (ho : o < x) (hh : Forms R hl (fm b x n)) (hk : KP b x R kvs) (hN : kvs.length < N) (hN2 : N ≤ 1000) (hsys : (kd == sysModules) = false) (hlr : (lr, il (lb b o)) ∈ R) (hbk : Bk x f o vb)
    (S : St g B c ([((Str.ofString "script"), V.val (.ref sc)), ((Str.ofString "cog"), V.val (.ref cg)), ((Str.ofString "m"), V.int x), ((Str.ofString "machines"), V.val (.ref ml)), ((Str.ofString "machine"), V.any), ((Str.ofString "helds"), .val (.ref hl)), ((Str.ofString "kept"), V.val (.ref kd)), ((Str.ofString "turn"), tv), ((Str.ofString "other"), .int o), ((Str.ofString "back"), vb), ((Str.ofString "found"), V.any), ((Str.ofString "one"), V.any)]) ((I, it) :: (aby, O.cell (vby)) :: (away, O.cell (vway)) :: (alimbs, O.cell (.val (.ref lr))) :: (aform, O.cell (.int f)) :: (anumber, O.cell (.int n)) :: (arow, O.cell (V.val (.ref mm))) :: (aw, O.cell (V.int k)) :: (cg, cogO t) :: (kd, dictO prog w kvs) :: R) s) :
    wpAny (model prog w) A (execs (lawBody.drop 2) c.env) (TurnEnd prog w g γ B c k b x aby away alimbs aform anumber arow aw cg kd t ml mm P sc ts ms tv I it N) NoE s := by
  rw [hb]
  cases hb
  have C' := C
  have hhi := hM.hi
  obtain ⟨hc0, hc1, hc2, hc3, hc4, hc5, hc6, hg0, hg1, hg2, hg3, hg4, hg5, hg6, hg7⟩ := C
  obtain ⟨rs, hrs, hrows⟩ := id hh
  refine x_asgCompZ (n := 3) (m' := fun D => [((Str.ofString "script"), V.val (.ref sc)), ((Str.ofString "cog"), V.val (.ref cg)), ((Str.ofString "m"), V.int x), ((Str.ofString "machines"), V.val (.ref ml)), ((Str.ofString "machine"), V.any), ((Str.ofString "helds"), .val (.ref hl)), ((Str.ofString "kept"), V.val (.ref kd)), ((Str.ofString "turn"), tv), ((Str.ofString "other"), .int o), ((Str.ofString "back"), vb), ((Str.ofString "found"), .val (.ref D)), ((Str.ofString "one"), V.any)]) G hA.hd S (by walk_at "spl") (by decide) [(Str.ofString "_law_done")] [((Str.ofString "form"), aform), ((Str.ofString "limbs"), alimbs), ((Str.ofString "row"), arow), ((Str.ofString "w"), aw)] [(Str.ofString "form"), (Str.ofString "limbs"), (Str.ofString "row"), (Str.ofString "w")] (by decide +kernel) rfl (C'.fc fun p hp => ?_) hg5 (by walk_at "pxs") L.mach hrs L.mn hrows.three (by decide) (fo b x (dn f n o x)) (fun D => by walk_at "put")
    (fun B' c' D z TI TO i1 i2 i vs R' s2 G' hgs hcs hi hR S2 => ?_) (fun D rs' R' s2 S2 hD hR hr => ?_)
  · simp only [List.mem_cons, List.not_mem_nil, or_false] at hp
    rcases hp with rfl | rfl | rfl | rfl <;> walk_at "mem"
  · dsimp only [zipIts, List.cons_append, List.nil_append] at S2
    have hg : (Str.ofString "_law_done") ∈ c'.gs := by rw [hgs]; exact .head _
    have k0 : ((Str.ofString "form"), aform) ∈ c'.cs := by rw [hcs]; exact .head _
    have k1 : ((Str.ofString "limbs"), alimbs) ∈ c'.cs := by rw [hcs]; exact .tail _ (.head _)
    have k2 : ((Str.ofString "row"), arow) ∈ c'.cs := by rw [hcs]; exact .tail _ (.tail _ (.head _))
    have k3 : ((Str.ofString "w"), aw) ∈ c'.cs := by rw [hcs]; exact .tail _ (.tail _ (.tail _ (.head _)))
    have L' := L.more hR
    refine ev_callSP T 46 9 9 G' hA S2 (by walk_at "spl") hg (by walk_at "pxs") (done_spec T hB hM (L'.ok i hi) ((hrows.more hR).at hi) (hR _ hlr) ho L'.row hf6) fun v s3 R3 S3 hp => ?_
    obtain ⟨r, rfl, hr, hs3⟩ := hp
    exact ⟨r, _, R3, rfl, by walk_at "weak", S3, hs3, hr⟩
  · dsimp only [List.cons_append, List.nil_append] at S2
    refine x_stoG S2 (ev_callS T 47 1 9 G hA S2 hg6 (by walk_at "pxs") (plainly_spec T (a := n) (b := o) (mm := x) hf6 (by omega) (by omega) (by omega)) fun v s3 H3 S3 hp => ?_)
    obtain ⟨⟨tk, rfl⟩, rfl⟩ := hp
    refine ⟨.int (dn f n o x : Nat), _, _, _, _, ⟨tk, by rw [dn_cast hM.pos]⟩, S3, .cel hc4 (by walk_at "putc"), fun s4 S4 => ?_⟩
    exact seg4 T hb4 hb5 hb1 hb6 hB hM C' G hA (vmachine := V.any) (vone := V.any) (L.more hR) hn hf6 ho (hh.more hR) ⟨rs', hD, hr⟩ (hk.more hR) hN hN2 hsys (hR _ hlr) hbk S4

theorem seg0 (T : Top γ) {st : Stmt} {sts : List Stmt} (hb : lawBody = st :: sts) {st2 : Stmt} {sts2 : List Stmt} (hb2 : lawBody.drop 2 = st2 :: sts2) {st4 : Stmt} {sts4 : List Stmt} (hb4 : lawBody.drop 4 = st4 :: sts4) {st5 : Stmt} {sts5 : List Stmt} (hb5 : lawBody.drop 5 = st5 :: sts5) {st1 : Stmt} {sts1 : List Stmt} (hb1 : ifBody.drop 1 = st1 :: sts1) {st6 : Stmt} {sts6 : List Stmt} (hb6 : lawBody.drop 6 = st6 :: sts6) (hB : Bs k b) (hM : Md b x) (C : LC c aby away alimbs aform anumber arow aw) (G : GW γ B) (hA : AOk A 9) {n N : Nat} {hl I : Addr} {it : O} {tv : V}
    (L : LR prog w g γ b x R t ml mm P ts ms) (hn : n < x) (hh : Forms R hl (fm b x n)) (hk : KP b x R kvs) (hN : kvs.length < N) (hN2 : N ≤ 1000) (hsys : (kd == sysModules) = false)
    (S : St g B c ([((Str.ofString "script"), V.val (.ref sc)), ((Str.ofString "cog"), V.val (.ref cg)), ((Str.ofString "m"), V.int x), ((Str.ofString "machines"), V.val (.ref ml)), ((Str.ofString "machine"), V.any), ((Str.ofString "helds"), .val (.ref hl)), ((Str.ofString "kept"), V.val (.ref kd)), ((Str.ofString "turn"), tv), ((Str.ofString "other"), V.any), ((Str.ofString "back"), V.any), ((Str.ofString "found"), V.any), ((Str.ofString "one"), V.any)]) ((I, it) :: (aby, O.cell (vby)) :: (away, O.cell (vway)) :: (alimbs, O.cell (vlimbs)) :: (aform, O.cell (vform)) :: (anumber, O.cell (.int n)) :: (arow, O.cell (V.val (.ref mm))) :: (aw, O.cell (V.int k)) :: (cg, cogO t) :: (kd, dictO prog w kvs) :: R) s) :
    wpAny (model prog w) A (execs lawBody c.env) (TurnEnd prog w g γ B c k b x aby away alimbs aform anumber arow aw cg kd t ml mm P sc ts ms tv I it N) NoE s := by
  rw [hb]
  cases hb
  have C' := C
  have hhi := hM.hi
  have hpos := hM.pos
  have hteeth := L.teeth
  have htl := L.tl
  obtain ⟨hc0, hc1, hc2, hc3, hc4, hc5, hc6, hg0, hg1, hg2, hg3, hg4, hg5, hg6, hg7⟩ := C
  refine x_tup2 hA.hd S hc3 (.inl rfl) ?_
  refine sp_cons (ev_callS T 42 1 9 G hA S hg0 (by walk_at "pxs") (geared_specC T (many := 6) (by walk_at "mem") (by walk_at "mem") (by decide) htl) fun v s1 H1 S1 hp => ?_)
  obtain ⟨r, tk, rfl, h0, h1, rfl⟩ := hp
  obtain ⟨f, rfl⟩ := Int.eq_ofNat_of_zero_le h0
  refine sp_cons (ev_callS T 42 1 9 G hA S1 hg0 (by walk_at "pxs") (geared_specC T (many := x) (by walk_at "mem") (by walk_at "mem") (by omega) htl) fun v s2 H2 S2 hp => ?_)
  obtain ⟨r, tk2, rfl, h2, h3, rfl⟩ := hp
  obtain ⟨o, rfl⟩ := Int.eq_ofNat_of_zero_le h2
  have hf6 : f < 6 := by omega
  have ho : o < x := by omega
  refine sp_nil _ ⟨.int f, .int o, _, _, _, _, _, _, ⟨⟨tk, rfl⟩, ⟨tk2, rfl⟩, trivial⟩, S2, .cel hc3 (by walk_at "putc"), .loc (by walk_at "put"), fun s3 S3 => ?_⟩
  refine x_tup2 hA.hd S3 hc2 (.inl rfl) ?_
  refine sp_cons (ev_callSP T 43 1 9 G hA S3 (by walk_at "spl") hg2 (by walk_at "pxs") (limbs_spec T hB (n := o) (by omega)) fun v s4 R4 S4 hp => ?_)
  obtain ⟨lr, rfl, hlr, hR4⟩ := hp
  dsimp only [List.cons_append, List.nil_append] at S4
  refine sp_cons (wpAny_IfExp (px_t G S4 (b := decide ((f : Int) = 2)) (by walk_at "px") fun s5 S5 => ite_b (fun hq => ?_) fun hq => ?_))
  · have hf2 : f = 2 := by have := of_decide_eq_true hq; omega
    refine ev_callSP T 48 1 9 G hA S5 (by walk_at "spl") hg4 (by walk_at "pxs") (inverse_spec T (n := o) (mm := x) hpos (by omega) (by omega)) fun v s6 R6 S6 hp => ?_
    obtain ⟨hv, hR6⟩ := hp
    dsimp only [List.cons_append, List.nil_append] at S6
    have hRR : ∀ p ∈ R, p ∈ R6 := fun p hp => hR6 p (hR4 p hp)
    rcases hv with rfl | ⟨y, tk3, rfl, hy, hoy⟩
    · refine sp_nil _ ⟨.val (.ref lr), .val .none, _, _, _, _, _, _, ⟨rfl, rfl, trivial⟩, S6, .cel hc2 (by walk_at "putc"), .loc (by walk_at "put"), fun s7 S7 => ?_⟩
      exact seg2 T hb2 hb4 hb5 hb1 hb6 hB hM C' G hA (L.more hRR) hn hf6 ho (hh.more hRR) (hk.more hRR) hN hN2 hsys (hR6 _ hlr) (.inl rfl) S7
    · refine sp_nil _ ⟨.val (.ref lr), .int y, _, _, _, _, _, _, ⟨rfl, ⟨tk3, rfl⟩, trivial⟩, S6, .cel hc2 (by walk_at "putc"), .loc (by walk_at "put"), fun s7 S7 => ?_⟩
      exact seg2 T hb2 hb4 hb5 hb1 hb6 hB hM C' G hA (L.more hRR) hn hf6 ho (hh.more hRR) (hk.more hRR) hN hN2 hsys (hR6 _ hlr) (.inr ⟨y, rfl, hy, hf2, hoy⟩) S7
  · refine px_u G S5 .none fun s6 S6 => ?_
    refine sp_nil _ ⟨.val (.ref lr), .val .none, _, _, _, _, _, _, ⟨rfl, rfl, trivial⟩, S6, .cel hc2 (by walk_at "putc"), .loc (by walk_at "put"), fun s7 S7 => ?_⟩
    exact seg2 T hb2 hb4 hb5 hb1 hb6 hB hM C' G hA (L.more hR4) hn hf6 ho (hh.more hR4) (hk.more hR4) hN hN2 hsys hlr (.inl rfl) S7
end
end

section
open PySem PySem.Calls PySem.W
/-- law's state between the turns -/
structure LSt where
  nb : Nat
  hl : Addr
  kvs : List (Int × Value)
  R : Led
  v1 : V
  v2 : V
  v3 : V
  v4 : V

section
variable {prog : Program} {w : World} {g s : Shared} {B : Heap} {c : Cx} {m : Loc} {H Ct R : Led} {A : Around} {E : Value → Shared → Prop} {γ : Gl}
variable {k b x : Nat} {aby away alimbs aform anumber arow aw cg kd t ml mm P sc : Addr} {ts : List Int} {ms : List Addr} {kvs : List (Int × Value)} {vby vway vlimbs vform vnumber : V}

/-- law's last statement -/
noncomputable abbrev RetT (P : Addr) : Value → Led → Prop := fun v H' => v = .bool true ∧ ∃ done, (P, tabO done) ∈ H'
noncomputable def lawLast : List Stmt := (dr 49).body.drop 6

theorem law_end (T : Top γ) {st : Stmt} {sts : List Stmt} (hb : lawLast = st :: sts) (hB : Bs k b) (hM : Md b x) (C : LC c aby away alimbs aform anumber arow aw) (G : GW γ B) (hA : AOk A 9) {n : Nat} {hl : Addr}
    (L : LR prog w g γ b x R t ml mm P ts ms) (hn : n < x) (hh : Forms R hl (fm b x n))
    (S : St g B c ([((Str.ofString "script"), V.val (.ref sc)), ((Str.ofString "cog"), V.val (.ref cg)), ((Str.ofString "m"), V.int x), ((Str.ofString "machines"), V.val (.ref ml)), ((Str.ofString "machine"), V.any), ((Str.ofString "helds"), .val (.ref hl)), ((Str.ofString "kept"), V.val (.ref kd)), ((Str.ofString "turn"), V.any), ((Str.ofString "other"), V.any), ((Str.ofString "back"), V.any), ((Str.ofString "found"), V.any), ((Str.ofString "one"), V.any)]) ((aby, O.cell (vby)) :: (away, O.cell (vway)) :: (alimbs, O.cell (vlimbs)) :: (aform, O.cell (vform)) :: (anumber, O.cell (.int n)) :: (arow, O.cell (V.val (.ref mm))) :: (aw, O.cell (V.int k)) :: (cg, cogO t) :: (kd, dictO prog w kvs) :: R) s) :
    wpAny (model prog w) A (execs lawLast c.env) (Ends g B (RetT P)) NoE s := by
  rw [hb]
  cases hb
  have C' := C
  have hhi := hM.hi
  obtain ⟨hc0, hc1, hc2, hc3, hc4, hc5, hc6, hg0, hg1, hg2, hg3, hg4, hg5, hg6, hg7⟩ := C
  obtain ⟨rs, hrs, hrows⟩ := id hh
  refine x_retG ?_
  refine wpAny_Compare1 ?_ rfl
  refine ev_compZ (n := 3) G hA.hd S (by walk_at "spl") (by decide) [] [] [] (by decide +kernel) rfl (fun p hp => by cases hp) hg5 (by walk_at "pxs") L.mach hrs L.mn hrows.three (by decide) (fun _ => lb b n)
    (fun B' c' D z TI TO i1 i2 i vs R' s2 G' hgs hcs hi hR S2 => ?_) (fun D rs' R' s2 S2 hD hR hr => ?_)
  · dsimp only [zipIts, List.cons_append, List.nil_append] at S2
    obtain ⟨f0, f1, f2, f3, m1, m2, m3, m4, m5, m6⟩ := (L.more hR).ok i hi
    have hrow := (hrows.more hR).at hi
    refine ev_callFP 8 9 G' hA S2 (by walk_at "spl") (.itemT (k := 1) (by walk_at "px") .int (by walk_at "mem") (by decide) rfl (fun _ _ => rfl)) m3 (by walk_at "pxs") ((m6 R' fun _ h => h).2.1 _ n hrow) fun v s3 R3 S3 hp => ?_
    obtain ⟨r, rfl, g1, g2⟩ := hp
    rw [Nat.mod_eq_of_lt hn] at g1
    exact ⟨r, _, R3, rfl, by walk_at "weak", S3, g2, g1⟩
  · dsimp only [List.cons_append, List.nil_append] at S2
    refine wpAny_BinOp ?_
    refine ev_List ?_
    refine sp_cons (ev_callSP T 43 1 9 G hA S2 (by walk_at "spl") hg2 (by walk_at "pxs") (limbs_spec T hB (n := n) (by omega)) fun v s3 R3 S3 hp => ?_)
    obtain ⟨r, rfl, h1, h2⟩ := hp
    dsimp only [List.cons_append, List.nil_append] at S3
    refine sp_nil _ (ev_newList S3 (vs := [.val (.ref r)]) ⟨rfl, trivial⟩ (by simp [bigN]) fun q s4 S4 => ?_)
    refine px_i G S4 (i := 3) .int fun tk s5 S5 => bo_rep S5 (.head _) (by simp) (by decide) (by decide) (by show 1 * 3 ≤ 100000; decide) fun q2 s6 S6 => ?_
    refine eq_forms hA.u64 S6 (nss := (List.range 3).map fun _ => lb b n) ⟨rs', ?_, hr.more fun p hp => ?_⟩ ⟨[r, r, r], .head _, .cons ?_ (.cons ?_ (.cons ?_ .nil))⟩ ?_
    · have := h2 _ hD
      walk_at "mem"
    · have := h2 _ hp
      walk_at "mem"
    · walk_at "mem"
    · walk_at "mem"
    · walk_at "mem"
    · obtain ⟨done, hd⟩ := (L.more hR).tab
      have := h2 _ hd
      exact ⟨_, _, _, S6, rfl, done, by walk_at "mem"⟩
end
end

section
open PySem PySem.Calls PySem.W
section
variable {prog : Program} {w : World} {g s : Shared} {B : Heap} {c : Cx} {m : Loc} {H Ct R : Led} {A : Around} {E : Value → Shared → Prop} {γ : Gl}
variable {k b x : Nat} {aby away alimbs aform anumber arow aw cg kd t ml mm P sc : Addr} {ts : List Int} {ms : List Addr} {kvs : List (Int × Value)} {vby vway vlimbs vform vnumber : V}

/-- law from its third statement on -/
noncomputable def lawRest : List Stmt := (dr 49).body.drop 3

theorem law_rest (T : Top γ) {st : Stmt} {sts : List Stmt} (hb : lawRest = st :: sts) {st6 : Stmt} {sts6 : List Stmt} (hb6 : lawLast = st6 :: sts6) (hB : Bs k b) (hM : Md b x) (C : LC c aby away alimbs aform anumber arow aw) (G : GW γ B) (hA : AOk A 9) {n : Nat}
    (L : LR prog w g γ b x R t ml mm P ts ms) (hn : n < x)
    (S : St g B c ([((Str.ofString "script"), V.val (.ref sc)), ((Str.ofString "cog"), V.val (.ref cg)), ((Str.ofString "m"), V.int x), ((Str.ofString "machines"), V.val (.ref ml)), ((Str.ofString "machine"), V.any), ((Str.ofString "helds"), V.any), ((Str.ofString "kept"), V.any), ((Str.ofString "turn"), V.any), ((Str.ofString "other"), V.any), ((Str.ofString "back"), V.any), ((Str.ofString "found"), V.any), ((Str.ofString "one"), V.any)]) ((aby, O.cell vby) :: (away, O.cell vway) :: (alimbs, O.cell vlimbs) :: (aform, O.cell vform) :: (anumber, O.cell (V.int n)) :: (arow, O.cell (V.val (.ref mm))) :: (aw, O.cell (V.int k)) :: (cg, cogO t) :: R) s) :
    wpAny (model prog w) A (execs lawRest c.env) (Ends g B (RetT P)) NoE s := by
  rw [hb]
  cases hb
  have C' := C
  have hhi := hM.hi
  have hpos := hM.pos
  obtain ⟨hc0, hc1, hc2, hc3, hc4, hc5, hc6, hg0, hg1, hg2, hg3, hg4, hg5, hg6, hg7⟩ := C
  refine x_asgCompL (n := 3) (m' := fun D => [((Str.ofString "script"), V.val (.ref sc)), ((Str.ofString "cog"), V.val (.ref cg)), ((Str.ofString "m"), V.int x), ((Str.ofString "machines"), V.val (.ref ml)), ((Str.ofString "machine"), V.any), ((Str.ofString "helds"), .val (.ref D)), ((Str.ofString "kept"), V.any), ((Str.ofString "turn"), V.any), ((Str.ofString "other"), V.any), ((Str.ofString "back"), V.any), ((Str.ofString "found"), V.any), ((Str.ofString "one"), V.any)]) G hA.hd S (by walk_at "spl") [(Str.ofString "_law_limbs")] [((Str.ofString "number"), anumber), ((Str.ofString "w"), aw)] [(Str.ofString "number"), (Str.ofString "w")] (by decide +kernel) rfl (C'.fc fun p hp => ?_) (by walk_at "px") L.mach L.mn (by decide) (fo b x n) (fun D => by walk_at "put")
    (fun B' c' D I i vs R' s2 G' hgs hcs hi hR S2 => ?_) (fun hl rs R' s2 S2 hD hR hr => ?_)
  · simp only [List.mem_cons, List.not_mem_nil, or_false] at hp
    rcases hp with rfl | rfl <;> walk_at "mem"
  · dsimp only [List.cons_append, List.nil_append] at S2
    have hg : (Str.ofString "_law_limbs") ∈ c'.gs := by rw [hgs]; exact .head _
    have k0 : ((Str.ofString "number"), anumber) ∈ c'.cs := by rw [hcs]; exact .head _
    have k1 : ((Str.ofString "w"), aw) ∈ c'.cs := by rw [hcs]; exact .tail _ (.head _)
    obtain ⟨f0, f1, f2, f3, m1, m2, m3, m4, m5, m6⟩ := (L.more hR).ok i hi
    refine ev_callFG G' S2 (.itemT (k := 0) (by walk_at "px") .int (by walk_at "mem") (by decide) rfl (fun _ _ => rfl)) (m2.more fun p hp => by walk_at "mem") fun s3 S3 => ?_
    refine sp_cons (ev_callSP T 43 1 9 G' hA S3 (by walk_at "spl") hg (by walk_at "pxs") (limbs_spec T hB (n := n) (by omega)) fun v s4 R4 S4 hp => ?_)
    obtain ⟨r, rfl, g1, g2⟩ := hp
    dsimp only [List.cons_append, List.nil_append] at S4
    refine sp_nil _ ⟨⟨_, _, _, S4, (m2.more g2).more fun p hp => by walk_at "mem"⟩, Spec.useP S4 (by walk_at "spl") ((m6 R4 g2).1 r n g1 hn [.ref r] ⟨rfl, trivial⟩) G' hA (by omega) fun v s5 R5 S5 hp => ?_⟩
    obtain ⟨r2, rfl, g3, g4⟩ := hp
    exact ⟨r2, _, R5, rfl, by walk_at "weak", S5, fun p hp => g4 p (g2 p hp), g3⟩
  dsimp only [List.cons_append, List.nil_append] at S2
  have L2 := L.more hR
  have hh : Forms R' hl (fm b x n) := ⟨rs, hD, hr⟩
  refine x_asgG (ev_dict1 (prog := prog) (w := w) G S2 (i := n) (u := .ref hl) (by walk_at "px") (by walk_at "px") fun kd s3 S3 hsys => st_loc S3 (v := .val (.ref kd)) (by walk_at "put") rfl fun s4 S4 => ?_)
  have S5 := S4.perm (perm_shift [(kd, dictO prog w [((n : Int), .ref hl)])] [(aby, O.cell vby), (away, O.cell vway), (alimbs, O.cell vlimbs), (aform, O.cell vform), (anumber, O.cell (V.int n)), (arow, O.cell (V.val (.ref mm))), (aw, O.cell (V.int k)), (cg, cogO t)] R')
  dsimp only [List.cons_append, List.nil_append] at S5
  refine x_forNG (σ := LSt) (fun σ v => [((Str.ofString "script"), V.val (.ref sc)), ((Str.ofString "cog"), V.val (.ref cg)), ((Str.ofString "m"), V.int x), ((Str.ofString "machines"), V.val (.ref ml)), ((Str.ofString "machine"), V.any), ((Str.ofString "helds"), .val (.ref σ.hl)), ((Str.ofString "kept"), V.val (.ref kd)), ((Str.ofString "turn"), v), ((Str.ofString "other"), V.any), ((Str.ofString "back"), V.any), ((Str.ofString "found"), V.any), ((Str.ofString "one"), V.any)]) (fun σ => (aby, O.cell (σ.v1)) :: (away, O.cell (σ.v2)) :: (alimbs, O.cell (σ.v3)) :: (aform, O.cell (σ.v4)) :: (anumber, O.cell (.int σ.nb)) :: (arow, O.cell (V.val (.ref mm))) :: (aw, O.cell (V.int k)) :: (cg, cogO t) :: (kd, dictO prog w σ.kvs) :: σ.R)
    (fun N i σ => N ≤ 8 ∧ σ.nb < x ∧ LR prog w g γ b x σ.R t ml mm P ts ms ∧ Forms σ.R σ.hl (fm b x σ.nb) ∧ KP b x σ.R σ.kvs ∧ σ.kvs.length ≤ i + 1) G hA.hd hg3 S5 ?_ (fun σ v => ?_) (fun N i σ s6 I it hi hP S6 => ?_) (fun N σ s6 hP S6 => ?_)
  · have hteeth := L2.teeth
    refine ev_callS T 42 1 9 G hA S5 hg0 (by walk_at "pxs") (geared_specC T (many := 8) (by walk_at "mem") (by walk_at "mem") (by decide) L2.tl) fun v s6 H6 S6 hp => ?_
    obtain ⟨r, tk, rfl, h0, h1, rfl⟩ := hp
    obtain ⟨f, rfl⟩ := Int.eq_ofNat_of_zero_le h0
    refine ⟨f, tk, ⟨n, hl, [((n : Int), .ref hl)], R', vby, vway, vlimbs, vform⟩, rfl, by omega, S6, by omega, hn, L2, hh, fun p hp => ?_, Nat.le_refl _⟩
    rw [List.mem_singleton] at hp
    exact ⟨n, hl, hp, hh⟩
  · walk_at "put"
  · obtain ⟨nb, hl', kvs', R6, v1, v2, v3, v4⟩ := σ
    obtain ⟨p1, p2, p3, p4, p5, p6⟩ := hP
    dsimp only at p2 p3 p4 p5 p6 S6
    refine wpAny_mono (seg0 T rfl rfl rfl rfl rfl rfl hB hM C' G hA (N := i + 2) p3 p2 p4 p5 (by omega) (by omega) hsys S6) (fun f s7 hq => ?_) fun _ _ e => e
    obtain ⟨rfl, nb', hl2, kvs2, R7, w1, w2, w3, w4, q1, S7, q2, q3, q4, q5⟩ := hq
    have S8 := S7.fit (m' := [((Str.ofString "script"), V.val (.ref sc)), ((Str.ofString "cog"), V.val (.ref cg)), ((Str.ofString "m"), V.int x), ((Str.ofString "machines"), V.val (.ref ml)), ((Str.ofString "machine"), V.any), ((Str.ofString "helds"), .val (.ref hl2)), ((Str.ofString "kept"), V.val (.ref kd)), ((Str.ofString "turn"), V.any), ((Str.ofString "other"), V.any), ((Str.ofString "back"), V.any), ((Str.ofString "found"), V.any), ((Str.ofString "one"), V.any)]) (by walk_at "weak") (List.Sublist.refl _)
    exact ⟨rfl, ⟨nb', hl2, kvs2, R7, w1, w2, w3, w4⟩, S8, p1, q1, q2, q3, q4, q5⟩
  · obtain ⟨nb, hl', kvs', R6, v1, v2, v3, v4⟩ := σ
    obtain ⟨p1, p2, p3, p4, p5, p6⟩ := hP
    dsimp only at p2 p3 p4 p5 p6 S6
    exact law_end T hb6 hB hM C' G hA p3 p2 p4 S6
end
end

section
open PySem PySem.Calls PySem.W
section
variable {prog : Program} {w : World} {g s : Shared} {B : Heap} {c : Cx} {m : Loc} {H Ct R : Led} {A : Around} {E : Value → Shared → Prop} {γ : Gl}

set_option maxHeartbeats 4000000 in
theorem law_ok (T : Top γ) (M : MI γ) (hcl : γ.mg (Str.ofString "Montgomery") = some (.ref γ.C)) {cc P sc : Addr} (W : MT γ cc P) {st3 : Stmt} {sts3 : List Stmt} (hb3 : lawRest = st3 :: sts3) {st6 : Stmt} {sts6 : List Stmt} (hb6 : lawLast = st6 :: sts6)
    {xs : List Value} {ns : List Int} (hl : B.IsList sc xs.toArray) (hn : PyProof.Rows.IntsAre xs ns) (hlen : ns.length ≤ 63) (hA : AOk A 10) (G : GW γ B) {H : Led} (hH : H = [(P, tabO [])]) (S : LS g B H s) :
    codeAny (model prog w) A (.call (.ref (γ.fa 49)) ⟨[.ref sc], []⟩) (fun r s' => ∃ v H', r = .ok (.ret v) ∧ LS g B H' s' ∧ (v = .bool true ∧ ∃ done, (P, tabO done) ∈ H')) s := by
  refine code_specB T 49 9 [(Str.ofString "script")] [.val (.ref sc)] [((Str.ofString "script"), .val (.ref sc)), ((Str.ofString "cog"), V.any), ((Str.ofString "m"), V.any), ((Str.ofString "machines"), V.any), ((Str.ofString "machine"), V.any), ((Str.ofString "helds"), V.any), ((Str.ofString "kept"), V.any), ((Str.ofString "turn"), V.any), ((Str.ofString "other"), V.any), ((Str.ofString "back"), V.any), ((Str.ofString "found"), V.any), ((Str.ofString "one"), V.any)] [((Str.ofString "by"), V.any), ((Str.ofString "way"), V.any), ((Str.ofString "limbs"), V.any), ((Str.ofString "form"), V.any), ((Str.ofString "number"), V.any), ((Str.ofString "row"), V.any), ((Str.ofString "w"), V.any)] [(Str.ofString "script"), (Str.ofString "cog"), (Str.ofString "m"), (Str.ofString "machines"), (Str.ofString "machine"), (Str.ofString "helds"), (Str.ofString "kept"), (Str.ofString "turn"), (Str.ofString "other"), (Str.ofString "back"), (Str.ofString "found"), (Str.ofString "one")] [(Str.ofString "by"), (Str.ofString "way"), (Str.ofString "limbs"), (Str.ofString "form"), (Str.ofString "number"), (Str.ofString "row"), (Str.ofString "w")] [(Str.ofString "_law_geared"), (Str.ofString "_law_machines"), (Str.ofString "_law_limbs"), (Str.ofString "range"), (Str.ofString "_law_inverse"), (Str.ofString "zip"), (Str.ofString "_law_plainly"), (Str.ofString "_law_number")] (vals := [.ref sc]) ⟨rfl, trivial⟩ hA G S rfl (fun cx A s1 as hA G hcode hgs has hcs S1 => ?_) (by decide +kernel) rfl rfl rfl (by walk_at "hmc") (by walk_at "hmc") (by intro k; rfl) (by walk_at "bnd")
  obtain ⟨aby, away, alimbs, aform, anumber, arow, aw, rfl⟩ := len7 has
  replace hcs : cx.cs = [((Str.ofString "by"), aby), ((Str.ofString "way"), away), ((Str.ofString "limbs"), alimbs), ((Str.ofString "form"), aform), ((Str.ofString "number"), anumber), ((Str.ofString "row"), arow), ((Str.ofString "w"), aw)] := hcs
  have hc0 : ((Str.ofString "by"), aby) ∈ cx.cs := by rw [hcs]; walk_at "mem"
  have hc1 : ((Str.ofString "way"), away) ∈ cx.cs := by rw [hcs]; walk_at "mem"
  have hc2 : ((Str.ofString "limbs"), alimbs) ∈ cx.cs := by rw [hcs]; walk_at "mem"
  have hc3 : ((Str.ofString "form"), aform) ∈ cx.cs := by rw [hcs]; walk_at "mem"
  have hc4 : ((Str.ofString "number"), anumber) ∈ cx.cs := by rw [hcs]; walk_at "mem"
  have hc5 : ((Str.ofString "row"), arow) ∈ cx.cs := by rw [hcs]; walk_at "mem"
  have hc6 : ((Str.ofString "w"), aw) ∈ cx.cs := by rw [hcs]; walk_at "mem"
  replace S1 : St g B cx [((Str.ofString "script"), .val (.ref sc)), ((Str.ofString "cog"), V.any), ((Str.ofString "m"), V.any), ((Str.ofString "machines"), V.any), ((Str.ofString "machine"), V.any), ((Str.ofString "helds"), V.any), ((Str.ofString "kept"), V.any), ((Str.ofString "turn"), V.any), ((Str.ofString "other"), V.any), ((Str.ofString "back"), V.any), ((Str.ofString "found"), V.any), ((Str.ofString "one"), V.any)] ((aby, O.cell (V.any)) :: (away, O.cell (V.any)) :: (alimbs, O.cell (V.any)) :: (aform, O.cell (V.any)) :: (anumber, O.cell (V.any)) :: (arow, O.cell (V.any)) :: (aw, O.cell (V.any)) :: H) s1 := S1
  have hg0 : (Str.ofString "_law_geared") ∈ cx.gs := by rw [hgs]; walk_at "mem"
  have hg1 : (Str.ofString "_law_machines") ∈ cx.gs := by rw [hgs]; walk_at "mem"
  have hg2 : (Str.ofString "_law_limbs") ∈ cx.gs := by rw [hgs]; walk_at "mem"
  have hg3 : (Str.ofString "range") ∈ cx.gs := by rw [hgs]; walk_at "mem"
  have hg4 : (Str.ofString "_law_inverse") ∈ cx.gs := by rw [hgs]; walk_at "mem"
  have hg5 : (Str.ofString "zip") ∈ cx.gs := by rw [hgs]; walk_at "mem"
  have hg6 : (Str.ofString "_law_plainly") ∈ cx.gs := by rw [hgs]; walk_at "mem"
  have hg7 : (Str.ofString "_law_number") ∈ cx.gs := by rw [hgs]; walk_at "mem"
  clear hgs
  subst hH
  have C : LC cx aby away alimbs aform anumber arow aw := ⟨hc0, hc1, hc2, hc3, hc4, hc5, hc6, hg0, hg1, hg2, hg3, hg4, hg5, hg6, hg7⟩
  have hbig : bigN = 100000 := rfl
  have hlx : xs.length = ns.length := hn.length
  -- the cog
  refine x_asgG ?_
  refine ev_List ?_
  refine sp_cons (px_i G S1 (i := 0) .int fun tk0 s2 S2 => ?_)
  refine sp_cons ?_
  refine ev_comp G S2 [(Str.ofString "tooth")] [(Str.ofString "abs"), (Str.ofString "int")] [] (fun D H3 => ∃ (ts : List Int) (r : Addr) (o : O), H3 = (D, il ts) :: (r, o) :: (aby, O.cell V.any) :: (away, O.cell V.any) :: (alimbs, O.cell V.any) :: (aform, O.cell V.any) :: (anumber, O.cell V.any) :: (arow, O.cell V.any) :: (aw, O.cell (V.any)) :: [(P, tabO [])] ∧ ts.length ≤ 1000) (by show chkComp _ _ _ [] = true; decide +kernel) (fun p hp => by cases hp)
    (ev_sliceB G S2 (by walk_at "px") hl (by omega) .int (by decide) hn fun r s3 S3 => iter_list S3 (vs := (ns.take (20 : Int).toNat).map V.int) (.head _) fun I s4 S4 => ⟨I, _, rfl, S4, fun B' c' m' D s' Q E S' hq => list_self S' (.tail _ (.head _)) hq, fun B' c' D s' G' hgs' hcs' S' => ?_⟩) (fun D H3 s5 S5 hK => ?_)
  · have T' := itr_list (prog := prog) (w := w) (g := g) (B := B') (c := c') hA.hd I r ((ns.take (20 : Int).toNat).map V.int) (Str.ofString "tooth") ⟨288, 35, 288, 40⟩
    rw [il_length] at T'
    have hlt : (ns.take (20 : Int).toNat).length ≤ 63 := Nat.le_trans (List.length_take_le' ..) hlen
    have k0 : (Str.ofString "abs") ∈ c'.gs := by rw [hgs']; exact .head _
    have k1 : (Str.ofString "int") ∈ c'.gs := by rw [hgs']; exact .tail _ (.head _)
    have S'' := S'.perm (List.perm_middle (l₁ := [(I, listIt r 0)])).symm
    refine codeAny_mono (comp_core T' [((Str.ofString "tooth"), V.any)] (fun i => [((Str.ofString "tooth"), .int ((ns.take (20 : Int).toNat).getD i 0))]) (fun i vs H' => ∃ ts : List Int, vs = ts.map V.int ∧ ts.length = i ∧ H' = (r, il (ns.take (20 : Int).toNat)) :: (aby, O.cell V.any) :: (away, O.cell V.any) :: (alimbs, O.cell V.any) :: (aform, O.cell V.any) :: (anumber, O.cell V.any) :: (arow, O.cell V.any) :: (aw, O.cell (V.any)) :: [(P, tabO [])]) (by omega)
      (fun i vs H' hF => ?_) (fun i hi v hv => ?_) S'' ⟨[], rfl, rfl, rfl⟩ (fun i vs H' s6 hi' hF S6 => ?_)) (fun r s6 h6 => ?_)
    · obtain ⟨ts, rfl, _, rfl⟩ := hF
      exact .tail _ (.head _)
    · rw [getI (d := 0) hi] at hv
      cases hv
      walk_at "put"
    · obtain ⟨ts, rfl, hts, rfl⟩ := hF
      dsimp only [List.cons_append, List.nil_append] at S6
      refine ev_absint G' S6 k0 k1 (by walk_at "px") fun j tk s7 S7 => ⟨.int j, _, _, ⟨tk, rfl⟩, by walk_at "weak", S7, ts ++ [j], by rw [List.map_append]; rfl, by rw [List.length_append, hts]; rfl, rfl⟩
    · obtain ⟨h1, m3, H3, S7, vs, H', h2, h3, ts, h4, h5, h6⟩ := h6
      exact ⟨h1, m3, H3, S7, ts, _, _, by rw [h2, h4, h6]; rfl, by omega⟩
  obtain ⟨ts, r, o, rfl, htl⟩ := hK
  refine sp_nil _ (ev_newList S5 (vs := [.int 0, .val (.ref D)]) ⟨⟨tk0, rfl⟩, rfl, trivial⟩ (by simp [bigN]) fun cg s6 S6 => st_loc S6 (v := .val (.ref cg)) (by walk_at "put") rfl fun s7 S7 => ?_)
  have S8 := (S7.recast (o' := cogO D) (fun ob h => ⟨0, by decide, h⟩)).perm ((perm_shift [(cg, cogO D), (D, il ts), (r, o)] [(aby, O.cell V.any), (away, O.cell V.any), (alimbs, O.cell V.any), (aform, O.cell V.any), (anumber, O.cell V.any), (arow, O.cell V.any), (aw, O.cell V.any)] [(P, tabO [])]).trans (List.Perm.append_left _ (.cons _ (List.perm_middle (l₁ := [(D, il ts), (r, o)])))))
  dsimp only [List.cons_append, List.nil_append] at S8
  obtain ⟨R0, hR0, hteeth⟩ : ∃ R0 : Led, R0 = [(D, il ts), (r, o)] ∧ (D, il ts) ∈ R0 := ⟨_, rfl, .head _⟩
  rw [← hR0] at S8
  clear hR0
  -- w and m
  refine x_tup2 hA.hd S8 hc6 (.inl rfl) ?_
  refine sp_cons (wpAny_BinOp (px_i G S8 (i := 4) .int fun tk1 s9 S9 => ?_))
  refine ev_callS T 42 1 9 G hA S9 hg0 (by walk_at "pxs") (geared_specC T (many := 5) (by walk_at "mem") (by walk_at "mem") (by decide) htl) fun v s10 H10 S10 hp => ?_
  obtain ⟨r1, tk2, rfl, h0, h1, rfl⟩ := hp
  obtain ⟨f, rfl⟩ := Int.eq_ofNat_of_zero_le h0
  refine binop_int (.add _ _) fun tk3 tn3 => ?_
  refine sp_cons (wpAny_BinOp (px_i G (S10.toks tn3) (i := 3) .int fun tk4 s11 S11 => ?_))
  refine wpAny_BinOp (px_i G S11 (i := 2) .int fun tk5 s12 S12 => ?_)
  refine ev_callS T 42 1 9 G hA S12 hg0 (by walk_at "pxs") (geared_specC T (many := 127) (by walk_at "mem") (by walk_at "mem") (by decide) htl) fun v s13 H13 S13 hp => ?_
  obtain ⟨r2, tk6, rfl, h2, h3, rfl⟩ := hp
  obtain ⟨e, rfl⟩ := Int.eq_ofNat_of_zero_le h2
  refine binop_int (.mul (by decide)) fun tk7 tn7 => binop_int (.add _ _) fun tk8 tn8 => ?_
  refine sp_nil _ ⟨.int (4 + f : Nat), .int (3 + 2 * e : Nat), _, _, _, _, _, _, ⟨⟨tk3, by rw [Int.natCast_add]; rfl⟩, ⟨tk8, by rw [Int.natCast_add, Int.natCast_mul]; rfl⟩, trivial⟩, (S13.toks tn7).toks tn8, .cel hc6 (by walk_at "putc"), .loc (by walk_at "put"), fun s14 S14 => ?_⟩
  obtain ⟨k, hk⟩ : ∃ k, k = 4 + f := ⟨_, rfl⟩
  obtain ⟨x, hx⟩ : ∃ x, x = 3 + 2 * e := ⟨_, rfl⟩
  rw [← hk, ← hx] at S14
  obtain ⟨b, hB⟩ : ∃ b, Bs k b := ⟨2 ^ k, rfl, by omega, by omega⟩
  have hM : Md b x := ⟨by omega, by omega⟩
  have hodd : x % 2 = 1 := by omega
  have hx3 : 3 ≤ x := by omega
  have hx8 : x < 256 := by omega
  clear hk hx
  -- the machines, the row, the number
  refine x_tup3 hA.hd S14 hc5 (.inr (.inl rfl)) ?_
  refine sp_cons (ev_callSP T 45 6 9 G hA S14 (.cons (.cons (.cons (.cons (.cons (.cons (.cons (.cons .nil)))))))) hg1 (by walk_at "pxs") (machines_spec T M hcl W hB hM hodd hx3 rfl) fun v s15 R1 S15 hp => ?_)
  obtain ⟨ml, t0, t1, t2, done, rfl, hml, hm0, hm1, hm2, hP, hs1⟩ := hp
  dsimp only [List.cons_append, List.nil_append] at S15
  refine sp_cons (ev_callSP T 43 1 9 G hA S15 (by walk_at "spl") hg2 (by walk_at "pxs") (limbs_spec T hB (n := x) (by omega)) fun v s16 R2 S16 hp => ?_)
  obtain ⟨mm, rfl, hmm, hs2⟩ := hp
  dsimp only [List.cons_append, List.nil_append] at S16
  have hteeth2 := hs2 _ (hs1 _ hteeth)
  refine sp_cons (ev_callS T 42 1 9 G hA S16 hg0 (by walk_at "pxs") (geared_specC T (many := x) (by walk_at "mem") (by walk_at "mem") (by omega) htl) fun v s17 H17 S17 hp => ?_)
  obtain ⟨r3, tk9, rfl, h4, h5, rfl⟩ := hp
  obtain ⟨n, rfl⟩ := Int.eq_ofNat_of_zero_le h4
  refine sp_nil _ ⟨.val (.ref ml), .val (.ref mm), .int n, _, _, _, _, _, _, _, _, ⟨rfl, rfl, ⟨tk9, rfl⟩, trivial⟩, S17, .loc (by walk_at "put"), .cel hc5 (by walk_at "putc"), .cel hc4 (by walk_at "putc"), fun s18 S18 => ?_⟩
  have L : LR prog w g γ b x R2 D ml mm P ts [t0, t1, t2] := ⟨hteeth2, htl, hs2 _ hml, rfl, hmm, ⟨done, hs2 _ hP⟩, fun i hi => by
    match i, hi with
    | 0, _ => exact hm0.more hs2
    | 1, _ => exact hm1.more hs2
    | 2, _ => exact hm2.more hs2⟩
  exact law_rest T hb3 hb6 hB hM C G hA L (by omega) S18
end
end

end
end
section
open PySem PySem.Calls PySem.W
noncomputable def gam (K : Frag) (mg mb : Str → Option Value) : Gl where
  mg := mg
  mb := mb
  fa := fun i => match mg (dr i).name with | some (.ref a) => a | _ => 0
  D := dr
  ix := theIx
  K := K
  C := 199
  fI := 196

/-- what the written part of the heap says of the class and of the code that makes functions -/
structure KOk (K : Frag) : Prop where
  made : makesIn K 199 = true
  ini : findIn K (.ref 199) "__init__" = some (some (.ref 196))
  isf : isFn K (.ref 196) = true
  dic : hasDictIn K 199 = true
  get : ∀ n, plainGet K 199 n = true
  fnd1 : findIn K (.ref 199) "modulus" = some none
  fnd2 : findIn K (.ref 199) "minus" = some none
  fnd3 : findIn K (.ref 199) "one" = some none
  fnd4 : findIn K (.ref 199) "square" = some none
  ng : noGet K none = true
  tak1 : takerIn K 199 "modulus" = some none
  tak2 : takerIn K 199 "minus" = some none
  tak3 : takerIn K 199 "one" = some none
  tak4 : takerIn K 199 "square" = some none
  ov : plainOver K 199 = true
  set : findIn K (.ref 199) "__setattr__" = some (some (.builtin "object.__setattr__"))
  kp : keepIn K (.ref 199) = true
  fnI : ∃ oc od osl doc pm an cdv ct, K.lookup 196 = some ⟨oc, od, .func (fnOf dI.name "Montgomery.__init__" dI.params dI.body dI.scope .none .none doc pm an cdv ct), osl⟩ ∧ codeIn K cdv "Montgomery.__init__" = true
  nt : noTabs K = true
  tab : tabIn K (Str.ofString "_law_machines") = some (333, 329)
  hd : codeHdIn K 333 329 = true
  cls : nsIn K mainGlobals (Str.ofString "Montgomery") = some (some (.ref 199))

theorem gam_mc {K : Frag} (k : KOk K) (mg mb : Str → Option Value) : MC (gam K mg mb) where
  made := k.made
  ini := k.ini
  isf := k.isf
  dic := k.dic
  get := k.get
  fnd := fun n hn => by
    simp only [mNames, List.mem_cons, List.not_mem_nil, or_false] at hn
    rcases hn with rfl | rfl | rfl | rfl
    · exact k.fnd1
    · exact k.fnd2
    · exact k.fnd3
    · exact k.fnd4
  ng := k.ng
  tak := fun n hn => by
    simp only [mNames, List.mem_cons, List.not_mem_nil, or_false] at hn
    rcases hn with rfl | rfl | rfl | rfl
    · exact k.tak1
    · exact k.tak2
    · exact k.tak3
    · exact k.tak4
  ov := k.ov
  set := k.set

theorem gam_mi {K : Frag} (k : KOk K) (mg mb : Str → Option Value) : MI (gam K mg mb) where
  toMC := gam_mc k mg mb
  kp := k.kp
  fnI := k.fnI

/-- what the view says of its names -/
structure VOk (p : Program) (loose : List Str) : Prop where
  recs : PyProof.Rows.recsOf p = theIx.map dr
  free : (usedBuiltins.all fun x => !(startupNames.contains x) && !(loose.contains x) && !(((PyProof.Rows.recsOf p).map (·.name)).contains x) && !(((PyProof.Rows.litsOf p).map (·.1)).contains x) && !(((PyProof.Rows.clssOf p loose).map (·.name)).contains x)) = true

theorem gam_gw {p : Program} {loose : List Str} {K : Frag} (v : VOk p loose) (k : KOk K) {mg mb : Str → Option Value} {mean : ExcName → Option Value} {h : Heap} {tabs : List (Addr × Addr)} (T : PyProof.Rows.Top p loose mean mg mb h) (KX : K.In h) (hT : TabsAt tabs h) :
    GW (gam K mg mb) (ghostOf h tabs) where
  g := ghost_ns hT T.g
  b := ghost_ns hT T.b
  nolimit := let ⟨mc, a, r⟩ := T.nolimit; ⟨mc, ghost_ns hT a, r⟩
  bi := T.builtins
  nob := fun x hx => by
    have := List.all_eq_true.mp v.free x hx
    simp only [Bool.and_eq_true, Bool.not_eq_true', List.contains_eq_mem, decide_eq_false_iff_not] at this
    obtain ⟨⟨⟨⟨a, b⟩, c⟩, d⟩, e⟩ := this
    exact T.free x a b c d e
  fn := fun i hi => by
    obtain ⟨a, o, pm, code, doc, h1, h2, h3, c, oc, vs, t, e1, e2, e3, e4⟩ := T.fn (dr i) (by rw [v.recs]; exact List.mem_map_of_mem hi)
    have hfa : (gam K mg mb).fa i = a := by
      show (match mg (dr i).name with | some (.ref a) => a | _ => 0) = a
      rw [h1]
    rw [hfa]
    refine ⟨h1, o, pm, code, doc, ghost_get hT h2 (fun q => by rw [q] at h3; cases h3), h3, c, oc, vs, t, e1, ghost_get hT e2 (fun q => ?_), e3, e4⟩
    rw [q] at e3
    cases e3
    simp at e4
  X := ghost_K hT KX k.nt
  bm := let ⟨bm, ob, a1, a2, a3, a4, r⟩ := T.bmain; ⟨bm, ob, a1, a2, ghost_get hT a3 (fun q => by rw [q] at a4; cases a4), a4, r⟩

theorem start_led {s : Shared} (hT : TabsAt [(333, 329)] s.heap) : LS s (ghostOf s.heap [(333, 329)]) [(329, tabO [])] s := by
  obtain ⟨h1, h2⟩ := hT (333, 329) (.head _)
  refine ⟨⟨rfl, rfl, rfl⟩, fun b o e => of_hideAll _ e, fun p hp => ?_, by simp, Nat.le_of_eq (hideAll_size _ _)⟩
  rw [List.mem_singleton] at hp
  subst hp
  exact ⟨⟨_, h2, #[], rfl, trivial, fun pos _ => rfl⟩, hideAll_none _ (.head _)⟩

theorem law_good {p : Program} {loose : List Str} {K : Frag} (v : VOk p loose) (k : KOk K) {w : World} {s₀ s₁ : Shared} {mean : ExcName → Option Value} {mg mb : Str → Option Value} {fa sc : Addr} {xs : List Value} {ns : List Int} (hg : s₁.gens = #[]) (hfa : mg (Str.ofString "law") = some (.ref fa)) (KX : K.In s₁.heap)
    (T : PyProof.Rows.Top p loose mean mg mb s₁.heap) (hT : TabsAt [(333, 329)] s₁.heap) (hl : s₁.heap.IsList sc xs.toArray) (hn : PyProof.Rows.IntsAre xs ns) (hlen : ns.length ≤ 63) :
    codeAny (model PySem.Challenge.rw_sj0085_01.row.prog w) callerA (.call (.ref fa) ⟨[.ref sc], []⟩) (GoodWG PySem.Challenge.rw_sj0085_01.row.claim (classAt s₀.heap) (ExcName.means s₀.heap) [ofPy (.list (ns.map PyData.int))] s₁) s₁ := by
  have G := gam_gw v k T KX hT
  have e : (gam K mg mb).fa 49 = fa := by
    show (match mg (dr 49).name with | some (.ref a) => a | _ => 0) = fa
    rw [show (dr 49).name = Str.ofString "law" from rfl, hfa]
  refine kn_post hT (fun _ _ => rfl) ?_
  have h := law_ok (prog := PySem.Challenge.rw_sj0085_01.row.prog) (w := w) (g := s₁) (γ := gam K mg mb) (A := callerA) (s := s₁) ⟨rfl, rfl⟩ (gam_mi k mg mb) (PySem.W.mg_of KX T.g k.cls) (cc := 333) (P := 329) ⟨k.tab, k.hd⟩ rfl rfl
    (ghost_list hT hl) hn hlen ⟨rfl, by decide +kernel, by decide +kernel⟩ G rfl (start_led hT)
  rw [e] at h
  refine codeAny_mono h (fun r s' hq => ?_)
  obtain ⟨v, H', rfl, S', rfl, done, hd⟩ := hq
  obtain ⟨⟨o, h1, ps, h2, _⟩, _⟩ := S'.led _ hd
  subst h2
  refine ⟨⟨.inl ⟨.bool true, .bool true, [], rfl, fun _ => rfl, .bool true, by kernel_rfl, fun _ => ⟨List.nodup_nil, fun a ha => by cases ha⟩⟩, S'.base, S'.same.2.2, S'.same.1.trans hg⟩, ⟨ps, h1⟩, trivial⟩
noncomputable def topT (tb : String → Option Builtin) (p : Program) (w : World) (n₀ : Nat) (ann : Option Value) : Nat → SharedT → Thread → Option SharedT
  | 0, _, _ => none
  | n + 1, s, t => match through t with
    | true => some s
    | false => match Fast.tw6613529449190102663 n₀ ann t with
      | false => none
      | true => match Fast.tw10156331382660048174 (Fast.tw11892475500146522536 tb) p w s t with
        | some (s', t') => topT tb p w n₀ ann n s' t'
        | none => none
theorem topT_of {tb : String → Option Builtin} {p : Program} {w : World} {n₀ : Nat} {ann : Option Value} : ∀ {n : Nat} {s s' : SharedT} {t : Thread}, topT tb p w n₀ ann n s t = some s' → topRun tb p w n₀ ann n s.abs t = some s'.abs
  | 0, _, _, _, h => by cases h
  | n + 1, s, s', t, h => by
    unfold topT at h
    rw [← Fast.te6613529449190102663, ← Fast.te10156331382660048174, ← Fast.te11892475500146522536] at h
    unfold topRun
    cases ht : through t with
    | true => rw [ht] at h; cases h; rfl
    | false =>
      rw [ht] at h
      cases hk : stepOk n₀ ann t with
      | false => rw [hk] at h; cases h
      | true =>
        rw [hk] at h
        cases hs : stepT (denote tb) p w s t with
        | none => rw [hs] at h; cases h
        | some r => obtain ⟨s₂, t₂⟩ := r; rw [hs] at h; rw [stepT_spec hs]; exact topT_of h
noncomputable def bootT (P : Params) (os : OsState) : SharedT :=
  ⟨((((((((((BT.nil.ins 0 (boot_o_0 P)).ins 1 (boot_o_1 P)).ins 2 (boot_o_2 P)).ins 3 (boot_o_3 P)).ins 4 (boot_o_4 P)).ins 5 (boot_o_5 P)).ins 6 (boot_o_6 P)).ins 7 (boot_o_7 P)).ins 8 (boot_o_8 P)).ins 9 (boot_o_9 P)).ins 10 (boot_o_10 P), 11, (boot_heap P).life, Array.mk [], boot_drawn, boot_toks, os⟩
theorem bootT_abs (P : Params) (os : OsState) : (bootT P os).abs = ⟨boot_heap P, Array.mk [], boot_drawn, boot_toks, os⟩ := by kernel_rfl

/-- the part of a heap that stands at the given addresses -/
noncomputable def Kof : List Addr → Heap → Frag
  | [], _ => []
  | a :: r, h => match h.get? a with
    | some o => (a, o) :: Kof r h
    | none => Kof r h
theorem Kof_in : ∀ (l : List Addr) (h : Heap), (Kof l h).In h
  | [], h => fun a o e => by cases e
  | b :: r, h => fun a o e => by
    unfold Kof at e
    cases q : h.get? b with
    | none => rw [q] at e; exact Kof_in r h a o e
    | some o' =>
      rw [q] at e
      show h.get? a = some o
      simp only [List.lookup] at e
      by_cases hab : a = b
      · subst hab
        simp only [beq_self_eq_true] at e
        cases e
        exact q
      · have : (a == b) = false := by simpa using hab
        rw [this] at e
        exact Kof_in r h a o e
noncomputable def iniOf (K : Frag) := match K.lookup 196 with
  | some ⟨_, _, .func fd, _⟩ => some (fd.name, fd.qualname, fd.params, fd.body, fd.scope, fd.globals, fd.closure, fd.defaults, fd.kwdefaults, fd.builtins, codeIn K fd.code "Montgomery.__init__")
  | _ => none
noncomputable def kobs (K : Frag) := ([makesIn K 199, isFn K (.ref 196), hasDictIn K 199, plainGet K 199 "", noGet K none, plainOver K 199, keepIn K (.ref 199), noTabs K, codeHdIn K 333 329],
  [findIn K (.ref 199) "__init__", findIn K (.ref 199) "modulus", findIn K (.ref 199) "minus", findIn K (.ref 199) "one", findIn K (.ref 199) "square", takerIn K 199 "modulus", takerIn K 199 "minus", takerIn K 199 "one", takerIn K 199 "square",
   findIn K (.ref 199) "__setattr__", nsIn K mainGlobals (Str.ofString "Montgomery")], tabIn K (Str.ofString "_law_machines"), iniOf K)
noncomputable def kval : List Bool × List (Option (Option Value)) × Option (Addr × Addr) × Option (Str × Str × Arguments × FuncBody × Scope × Addr × List (Str × Addr) × Value × Value × Addr × Bool) :=
  ([true, true, true, true, true, true, true, true, true], [some (some (.ref 196)), some none, some none, some none, some none, some none, some none, some none, some none, some (some (.builtin "object.__setattr__")), some (some (.ref 199))], some (333, 329),
   some (dI.name, "Montgomery.__init__", dI.params, .stmts dI.body, dI.scope, mainGlobals, [], .none, .none, builtinsNs, true))
theorem kok_of {K : Frag} (h : kobs K = kval) : KOk K := by
  simp only [kobs, kval, Prod.mk.injEq, List.cons.injEq, and_true] at h
  obtain ⟨⟨a1, a2, a3, a4, a5, a6, a7, a8, a9⟩, ⟨b1, b2, b3, b4, b5, b6, b7, b8, b9, b10, b11⟩, c, d⟩ := h
  refine ⟨a1, b1, a2, a3, fun n => a4, b2, b3, b4, b5, a5, b6, b7, b8, b9, a6, b10, a7, ?_, a8, c, a9, b11⟩
  unfold iniOf at d
  split at d
  · rename_i oc od fd osl hk
    obtain ⟨q1, q2, q3, q4, q5, q6, q7, q8, q9, q10, q11, q12, q13, q14, q15⟩ := fd
    simp only [Option.some.injEq, Prod.mk.injEq] at d
    obtain ⟨rfl, rfl, rfl, rfl, rfl, rfl, rfl, rfl, rfl, rfl, e⟩ := d
    exact ⟨_, _, _, _, _, _, _, _, hk, e⟩
  · cases d
noncomputable def asK : List Addr := [2, 3, 190, 192, 193, 195, 196, 197, 198, 199, 200, 201, 330, 331, 333, 334, 335]
noncomputable def hk : Hook where
  α := _
  obs := fun s => (kobs (Kof asK s.heap), s.heap.get? 329)
  val := fun _ => (kval, some (tabObj #[]))
  says := fun _ h => ∃ K : Frag, K.In h ∧ KOk K ∧ h.get? 329 = some (tabObj #[])
  of := fun _ s e => ⟨_, Kof_in asK s.heap, kok_of (Prod.mk.inj e).1, (Prod.mk.inj e).2⟩
  keeps := fun _ _ _ ⟨K, a, b, c⟩ k => ⟨K, a.keeps k, b, k _ _ c⟩
noncomputable def vq : Program := view PySem.Challenge.pw_sj0085_01 [1,2,3,4,5,6,7,8,9,10,11,12,13,14,15,16,18,20,21,22,23,24,25,26,27,28,29,30,31,32,34,35,36,37,38,39,40,42,43,44,45,46,47,48,49]
theorem left_of {p q : Program} {loose : List Str} {Xt : Shared → Bool} {α : Type} {Yf : Shared → α} {Ya : World → α} {N : Nat} {g0 : Bool}
    (open_ : ∀ w : World, (fencedOpening treeTable p w N).map (fun s => (s.heap, s.gens, s.drawn, s.toks)) = some (boot_heap w.params, Array.mk [], boot_drawn, boot_toks))
    (size : ∀ w : World, ((boot_heap w.params).isNs mainGlobals && (Array.mk [] : Array GenState).size == 0, (boot_heap w.params).objs.size, (boot_heap w.params).nsMap mainGlobals "__annotations__") = (true, 11, some (.ref 6)))
    (run : ∀ w os, (topT Fast.tw14364793385576792824 p w 11 (some (.ref 6)) N (bootT w.params os) (topStub p)).map (fun F => ((staticsOk (importedModules p.main.body) (boot_heap w.params) F.abs.heap && namesBound p F.abs.heap && gensDone F.abs && laidKept (boot_heap w.params) F.abs.heap),
      openSeen q loose (importedModules p.main.body) Xt g0 F.abs, Yf F.abs)) = some (true, openGood q loose, Ya w)) : LeftO p q loose Xt Yf Ya N g0 := fun w => by
  obtain ⟨⟨h, gs, d, k, os⟩, e, e'⟩ := Option.map_eq_some_iff.mp (open_ w)
  obtain ⟨rfl, rfl, rfl, rfl⟩ : h = boot_heap w.params ∧ gs = Array.mk [] ∧ d = boot_drawn ∧ k = boot_toks := by simpa using e'
  obtain ⟨z1, z2, z3⟩ : _ ∧ _ ∧ _ := by simpa only [Prod.mk.injEq] using size w
  obtain ⟨F, r, l⟩ := Option.map_eq_some_iff.mp (run w os)
  obtain ⟨l1, l2, l3⟩ : _ ∧ _ ∧ _ := by simpa only [Prod.mk.injEq] using l
  rw [← Fast.te14364793385576792824] at r
  have r := topT_of r
  rw [bootT_abs] at r
  have t : topFrom treeTable p w N ⟨boot_heap w.params, Array.mk [], boot_drawn, boot_toks, os⟩ = some F.abs := by
    unfold topFrom
    dsimp only
    rw [z1, z2, z3, r]
    show (match staticsOk (importedModules p.main.body) (boot_heap w.params) F.abs.heap && namesBound p F.abs.heap && gensDone F.abs && laidKept (boot_heap w.params) F.abs.heap with | true => _ | false => _) = _
    rw [l1]
  unfold openEnds
  rw [e]
  show (topFrom treeTable p w N _).map _ = _
  rw [t]
  exact congrArg some (Prod.ext l2 l3)
theorem left : LeftO PySem.Challenge.pw_sj0085_01 vq [] (fun s => xlAt vq [] s && recOk [] s) hk.obs hk.val 3000 := by
  refine left_of (boot_open (by kernel_rfl) (by decide) (fun s => by kernel_rfl)) (fun w => by kernel_rfl) ?_
  intro w os
  kernel_rfl
theorem wsaid : OpenLaw.wellSaid PySem.Challenge.rw_sj0085_01 = true := by
  rw [Fast.te9446332074065402090]
  kernel_rfl
end
end
end Mj

open PySem PySem.Calls PySem.W
set_option maxHeartbeats 8000000 in
theorem PySem.Challenge.cw_sj0085_01_holds : PySem.Challenge.rw_sj0085_01.Holds := by
  w_on
  refine holds_law Mj.wsaid fun said => ?_
  refine holds_open (q := Mj.vq) (loose := []) (Xt := fun s => xlAt Mj.vq [] s && recOk [] s) (XP := XL Mj.vq []) (Yf := Hook.obs Mj.hk) (Ya := Hook.val Mj.hk) (YP := Hook.says Mj.hk) (N := 3000) Mj.left (Hook.of Mj.hk) (Hook.keeps Mj.hk) (fun s e => xl_of s (Bool.and_eq_true_iff.mp e).1) XL.keeps (by rfl) (by rfl) (by rfl) (fun s e => recFacts_of (Bool.and_eq_true_iff.mp e).2) (by rfl) (by first | assumption | decide +kernel) (by decide +kernel) ⟨rfl, rfl, rfl, rfl, rfl, by decide +kernel⟩ ?hw ?hc
  case hw => w_witness2
  intro w s₀ s₁ mg mb G Y fa o pm cd doc dV kV ho hd hcd hD hmg hg args vals as hpre hlay hrd hwl hlo
  obtain ⟨K, KX, kk, h9⟩ := Y
  have hT9 : TabsAt [(333, 329)] s₁.heap := List.forall_mem_cons.mpr ⟨⟨codeHd_of_K KX kk.hd, h9⟩, fun _ h => nomatch h⟩
  refine Ground.open G ?_
  intro T B D TE TW
  try (refine PyProof.Rows.guard_noD D (by decide +kernel) ?_; clear D)
  have hmg' : mg (Str.ofString "law") = some (.ref fa) := hmg
  clear hmg hd hcd hD ho
  wrow_args hpre hlay hrd hwl hlo
  all_goals (
    refine enter_call ?_
    exact Mj.law_good (Mj.VOk.mk (by kernel_rfl) (by kernel_rfl)) kk hg hmg' KX T hT9 (by assumption) (by assumption) (by omega))
