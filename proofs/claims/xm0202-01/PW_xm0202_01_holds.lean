import PyProof.Rows.All
import Wide.All
import OpenK.AllK
import OpenK.KCell
import Wide.FinOn
import Lean
import PySem.Challenge.RW_xm0202_01
set_option genInjectivity false
set_option genSizeOf false
set_option bootstrap.genMatcherCode false
set_option compiler.extract_closed false
set_option linter.all false
set_option Elab.async false
section
open PySem PySem.W PyProof.Rows
set_option tactic.hygienic false
namespace Mine
theorem ns {α : Type _} {a : α} {P : Prop} (h : Option.none = some a) : P := nomatch h
theorem sn {α : Type _} {a : α} {P : Prop} (h : some a = Option.none) : P := nomatch h
theorem tf {P : Prop} (h : false = true) : P := nomatch h
theorem ft {P : Prop} (h : true = false) : P := nomatch h
theorem cd {α : Type _} (f : α → Nat) {a b : α} {P : Prop} (h : a = b) (q : Nat.beq (f a) (f b) = false) : P := by
  subst h
  rw [Nat.beq_refl] at q
  exact ft q
theorem ss {α : Type _} {a b : α} (h : some a = some b) : a = b := Option.some.inj h
theorem sp {α β : Type _} {a c : α} {b d : β} (h : some (a, b) = some (c, d)) : a = c ∧ b = d := by
  cases h
  exact ⟨rfl, rfl⟩
theorem bc {P : Prop} {b : Bool} (h : b = true → P) (k : b = false → P) : P := by
  cases b with
  | true => exact h rfl
  | false => exact k rfl
theorem lo1 {a c k : Nat} (h : a + k < c) : a < c := Nat.lt_of_le_of_lt (Nat.le_add_right a k) h
theorem lo2 {a c x y : Nat} (h : a + x + y < c) : a < c := lo1 (lo1 h)
theorem lo3 {a c x y z : Nat} (h : a + x + y + z < c) : a < c := lo1 (lo2 h)
theorem lo4 {a c j k : Nat} (h : a + k < c) (q : j ≤ k) : a + j < c := Nat.lt_of_le_of_lt (Nat.add_le_add_left q a) h
theorem lo5 {a c x y k : Nat} (h : a + x + y < c) (q : k ≤ y) : a + k < c := by omega
theorem lo6 {a c x y j k : Nat} (h : a + x + y < c) (q : j + k ≤ y) : a + j + k < c := by omega
theorem rg {a b c d k y : Nat} (h : a ≤ b) (g : c + k * b + y < d) : c + k * a + y < d := Nat.lt_of_le_of_lt (Nat.add_le_add_right (Nat.add_le_add_left (Nat.mul_le_mul_left k h) c) y) g
theorem rt {a b c i j k y : Nat} (h : a + k * (b + 1) + y < c) (q : i + j ≤ k) : a + i + j + k * b + y < c := by
  rw [Nat.mul_succ] at h
  omega
theorem rs {a b c j k y : Nat} (h : a + k * (b + 1) + y < c) (q : j ≤ k) : a + j + k * b + y < c := rt (i := 0) h ((Nat.zero_add j).symm ▸ q)
theorem mn {a b c d k m : Nat} (h : a + k < b) (g : c ≤ m) (q : m ≤ k) : a + min c d < b := lo4 h (Nat.le_trans (Nat.min_le_left c d) (Nat.le_trans g q))
theorem mo {a b c d k m : Nat} (h : a + k < b) (g : c ≤ m) (q : 1 + m ≤ k) : a + 1 + min c d < b := by omega
theorem io {a k : Nat} {b : Int} (h : a ≤ k) (q : (k : Int) < b) : (a : Int) < b := Int.lt_of_le_of_lt (Int.ofNat_le.mpr h) q
theorem ip {a : Nat} {b : Int} (q : -b ≤ 0) : -b ≤ (a : Int) := Int.le_trans q (Int.natCast_nonneg a)
theorem iq {a b k : Nat} {c : Int} (h : a ≤ k) (e : b = a) (q : (k : Int) < c) : (b : Int) < c := io (e ▸ h) q
theorem ir {a k : Nat} {b c : Int} (h : a ≤ k) (e : b = (a : Int)) (q : (k : Int) < c) : b < c := e ▸ io h q
theorem it {a b : Nat} {n : Nat} (h : a = b) (q : b < n) : a < n := h ▸ q
theorem iu {a : Nat} (h : 0 < (a : Int)) : 0 < a := Int.ofNat_lt.mp h
theorem x02 {p q : Prop} {G : Prop} (h : p ∧ q) (k : p → q → G) : G := k h.1 h.2
theorem x11 {α : Sort _} {p : α → Prop} {G : Prop} (h : ∃ a, p a) (k : ∀ a, p a → G) : G := h.elim fun a h => k a h
theorem x03 {p q r : Prop} {G : Prop} (h : p ∧ q ∧ r) (k : p → q → r → G) : G := k h.1 h.2.1 h.2.2
theorem x12 {α : Sort _} {p q : α → Prop} {G : Prop} (h : ∃ a, p a ∧ q a) (k : ∀ a, p a → q a → G) : G := h.elim fun a h => k a h.1 h.2
theorem x21 {α : Sort _} {β : Sort _} {p : α → β → Prop} {G : Prop} (h : ∃ a b, p a b) (k : ∀ a b, p a b → G) : G := h.elim fun a h => h.elim fun b h => k a b h
theorem x04 {p q r t : Prop} {G : Prop} (h : p ∧ q ∧ r ∧ t) (k : p → q → r → t → G) : G := k h.1 h.2.1 h.2.2.1 h.2.2.2
theorem x13 {α : Sort _} {p q r : α → Prop} {G : Prop} (h : ∃ a, p a ∧ q a ∧ r a) (k : ∀ a, p a → q a → r a → G) : G := h.elim fun a h => k a h.1 h.2.1 h.2.2
theorem x22 {α : Sort _} {β : Sort _} {p q : α → β → Prop} {G : Prop} (h : ∃ a b, p a b ∧ q a b) (k : ∀ a b, p a b → q a b → G) : G := h.elim fun a h => h.elim fun b h => k a b h.1 h.2
theorem x31 {α : Sort _} {β : Sort _} {δ : Sort _} {p : α → β → δ → Prop} {G : Prop} (h : ∃ a b c, p a b c) (k : ∀ a b c, p a b c → G) : G := h.elim fun a h => h.elim fun b h => h.elim fun c h => k a b c h
theorem x05 {p q r t u : Prop} {G : Prop} (h : p ∧ q ∧ r ∧ t ∧ u) (k : p → q → r → t → u → G) : G := k h.1 h.2.1 h.2.2.1 h.2.2.2.1 h.2.2.2.2
theorem x14 {α : Sort _} {p q r t : α → Prop} {G : Prop} (h : ∃ a, p a ∧ q a ∧ r a ∧ t a) (k : ∀ a, p a → q a → r a → t a → G) : G := h.elim fun a h => k a h.1 h.2.1 h.2.2.1 h.2.2.2
theorem x23 {α : Sort _} {β : Sort _} {p q r : α → β → Prop} {G : Prop} (h : ∃ a b, p a b ∧ q a b ∧ r a b) (k : ∀ a b, p a b → q a b → r a b → G) : G := h.elim fun a h => h.elim fun b h => k a b h.1 h.2.1 h.2.2
theorem x32 {α : Sort _} {β : Sort _} {δ : Sort _} {p q : α → β → δ → Prop} {G : Prop} (h : ∃ a b c, p a b c ∧ q a b c) (k : ∀ a b c, p a b c → q a b c → G) : G := h.elim fun a h => h.elim fun b h => h.elim fun c h => k a b c h.1 h.2
theorem x41 {α : Sort _} {β : Sort _} {δ : Sort _} {ε : Sort _} {p : α → β → δ → ε → Prop} {G : Prop} (h : ∃ a b c d, p a b c d) (k : ∀ a b c d, p a b c d → G) : G := h.elim fun a h => h.elim fun b h => h.elim fun c h => h.elim fun d h => k a b c d h
theorem x06 {p q r t u v : Prop} {G : Prop} (h : p ∧ q ∧ r ∧ t ∧ u ∧ v) (k : p → q → r → t → u → v → G) : G := k h.1 h.2.1 h.2.2.1 h.2.2.2.1 h.2.2.2.2.1 h.2.2.2.2.2
theorem x15 {α : Sort _} {p q r t u : α → Prop} {G : Prop} (h : ∃ a, p a ∧ q a ∧ r a ∧ t a ∧ u a) (k : ∀ a, p a → q a → r a → t a → u a → G) : G := h.elim fun a h => k a h.1 h.2.1 h.2.2.1 h.2.2.2.1 h.2.2.2.2
theorem x24 {α : Sort _} {β : Sort _} {p q r t : α → β → Prop} {G : Prop} (h : ∃ a b, p a b ∧ q a b ∧ r a b ∧ t a b) (k : ∀ a b, p a b → q a b → r a b → t a b → G) : G := h.elim fun a h => h.elim fun b h => k a b h.1 h.2.1 h.2.2.1 h.2.2.2
theorem x33 {α : Sort _} {β : Sort _} {δ : Sort _} {p q r : α → β → δ → Prop} {G : Prop} (h : ∃ a b c, p a b c ∧ q a b c ∧ r a b c) (k : ∀ a b c, p a b c → q a b c → r a b c → G) : G := h.elim fun a h => h.elim fun b h => h.elim fun c h => k a b c h.1 h.2.1 h.2.2
theorem x42 {α : Sort _} {β : Sort _} {δ : Sort _} {ε : Sort _} {p q : α → β → δ → ε → Prop} {G : Prop} (h : ∃ a b c d, p a b c d ∧ q a b c d) (k : ∀ a b c d, p a b c d → q a b c d → G) : G := h.elim fun a h => h.elim fun b h => h.elim fun c h => h.elim fun d h => k a b c d h.1 h.2
theorem x51 {α : Sort _} {β : Sort _} {δ : Sort _} {ε : Sort _} {ζ : Sort _} {p : α → β → δ → ε → ζ → Prop} {G : Prop} (h : ∃ a b c d e, p a b c d e) (k : ∀ a b c d e, p a b c d e → G) : G := h.elim fun a h => h.elim fun b h => h.elim fun c h => h.elim fun d h => h.elim fun e h => k a b c d e h
theorem x07 {p q r t u v w : Prop} {G : Prop} (h : p ∧ q ∧ r ∧ t ∧ u ∧ v ∧ w) (k : p → q → r → t → u → v → w → G) : G := k h.1 h.2.1 h.2.2.1 h.2.2.2.1 h.2.2.2.2.1 h.2.2.2.2.2.1 h.2.2.2.2.2.2
theorem x16 {α : Sort _} {p q r t u v : α → Prop} {G : Prop} (h : ∃ a, p a ∧ q a ∧ r a ∧ t a ∧ u a ∧ v a) (k : ∀ a, p a → q a → r a → t a → u a → v a → G) : G := h.elim fun a h => k a h.1 h.2.1 h.2.2.1 h.2.2.2.1 h.2.2.2.2.1 h.2.2.2.2.2
theorem x25 {α : Sort _} {β : Sort _} {p q r t u : α → β → Prop} {G : Prop} (h : ∃ a b, p a b ∧ q a b ∧ r a b ∧ t a b ∧ u a b) (k : ∀ a b, p a b → q a b → r a b → t a b → u a b → G) : G := h.elim fun a h => h.elim fun b h => k a b h.1 h.2.1 h.2.2.1 h.2.2.2.1 h.2.2.2.2
theorem x34 {α : Sort _} {β : Sort _} {δ : Sort _} {p q r t : α → β → δ → Prop} {G : Prop} (h : ∃ a b c, p a b c ∧ q a b c ∧ r a b c ∧ t a b c) (k : ∀ a b c, p a b c → q a b c → r a b c → t a b c → G) : G := h.elim fun a h => h.elim fun b h => h.elim fun c h => k a b c h.1 h.2.1 h.2.2.1 h.2.2.2
theorem x43 {α : Sort _} {β : Sort _} {δ : Sort _} {ε : Sort _} {p q r : α → β → δ → ε → Prop} {G : Prop} (h : ∃ a b c d, p a b c d ∧ q a b c d ∧ r a b c d) (k : ∀ a b c d, p a b c d → q a b c d → r a b c d → G) : G := h.elim fun a h => h.elim fun b h => h.elim fun c h => h.elim fun d h => k a b c d h.1 h.2.1 h.2.2
theorem x52 {α : Sort _} {β : Sort _} {δ : Sort _} {ε : Sort _} {ζ : Sort _} {p q : α → β → δ → ε → ζ → Prop} {G : Prop} (h : ∃ a b c d e, p a b c d e ∧ q a b c d e) (k : ∀ a b c d e, p a b c d e → q a b c d e → G) : G := h.elim fun a h => h.elim fun b h => h.elim fun c h => h.elim fun d h => h.elim fun e h => k a b c d e h.1 h.2
theorem x61 {α : Sort _} {β : Sort _} {δ : Sort _} {ε : Sort _} {ζ : Sort _} {η : Sort _} {p : α → β → δ → ε → ζ → η → Prop} {G : Prop} (h : ∃ a b c d e f, p a b c d e f) (k : ∀ a b c d e f, p a b c d e f → G) : G := h.elim fun a h => h.elim fun b h => h.elim fun c h => h.elim fun d h => h.elim fun e h => h.elim fun f h => k a b c d e f h
theorem x08 {p q r t u v w y : Prop} {G : Prop} (h : p ∧ q ∧ r ∧ t ∧ u ∧ v ∧ w ∧ y) (k : p → q → r → t → u → v → w → y → G) : G := k h.1 h.2.1 h.2.2.1 h.2.2.2.1 h.2.2.2.2.1 h.2.2.2.2.2.1 h.2.2.2.2.2.2.1 h.2.2.2.2.2.2.2
theorem x17 {α : Sort _} {p q r t u v w : α → Prop} {G : Prop} (h : ∃ a, p a ∧ q a ∧ r a ∧ t a ∧ u a ∧ v a ∧ w a) (k : ∀ a, p a → q a → r a → t a → u a → v a → w a → G) : G := h.elim fun a h => k a h.1 h.2.1 h.2.2.1 h.2.2.2.1 h.2.2.2.2.1 h.2.2.2.2.2.1 h.2.2.2.2.2.2
theorem x26 {α : Sort _} {β : Sort _} {p q r t u v : α → β → Prop} {G : Prop} (h : ∃ a b, p a b ∧ q a b ∧ r a b ∧ t a b ∧ u a b ∧ v a b) (k : ∀ a b, p a b → q a b → r a b → t a b → u a b → v a b → G) : G := h.elim fun a h => h.elim fun b h => k a b h.1 h.2.1 h.2.2.1 h.2.2.2.1 h.2.2.2.2.1 h.2.2.2.2.2
theorem x35 {α : Sort _} {β : Sort _} {δ : Sort _} {p q r t u : α → β → δ → Prop} {G : Prop} (h : ∃ a b c, p a b c ∧ q a b c ∧ r a b c ∧ t a b c ∧ u a b c) (k : ∀ a b c, p a b c → q a b c → r a b c → t a b c → u a b c → G) : G := h.elim fun a h => h.elim fun b h => h.elim fun c h => k a b c h.1 h.2.1 h.2.2.1 h.2.2.2.1 h.2.2.2.2
theorem x44 {α : Sort _} {β : Sort _} {δ : Sort _} {ε : Sort _} {p q r t : α → β → δ → ε → Prop} {G : Prop} (h : ∃ a b c d, p a b c d ∧ q a b c d ∧ r a b c d ∧ t a b c d) (k : ∀ a b c d, p a b c d → q a b c d → r a b c d → t a b c d → G) : G := h.elim fun a h => h.elim fun b h => h.elim fun c h => h.elim fun d h => k a b c d h.1 h.2.1 h.2.2.1 h.2.2.2
theorem x53 {α : Sort _} {β : Sort _} {δ : Sort _} {ε : Sort _} {ζ : Sort _} {p q r : α → β → δ → ε → ζ → Prop} {G : Prop} (h : ∃ a b c d e, p a b c d e ∧ q a b c d e ∧ r a b c d e) (k : ∀ a b c d e, p a b c d e → q a b c d e → r a b c d e → G) : G := h.elim fun a h => h.elim fun b h => h.elim fun c h => h.elim fun d h => h.elim fun e h => k a b c d e h.1 h.2.1 h.2.2
theorem x62 {α : Sort _} {β : Sort _} {δ : Sort _} {ε : Sort _} {ζ : Sort _} {η : Sort _} {p q : α → β → δ → ε → ζ → η → Prop} {G : Prop} (h : ∃ a b c d e f, p a b c d e f ∧ q a b c d e f) (k : ∀ a b c d e f, p a b c d e f → q a b c d e f → G) : G := h.elim fun a h => h.elim fun b h => h.elim fun c h => h.elim fun d h => h.elim fun e h => h.elim fun f h => k a b c d e f h.1 h.2
theorem x09 {p q r t u v w y z : Prop} {G : Prop} (h : p ∧ q ∧ r ∧ t ∧ u ∧ v ∧ w ∧ y ∧ z) (k : p → q → r → t → u → v → w → y → z → G) : G := k h.1 h.2.1 h.2.2.1 h.2.2.2.1 h.2.2.2.2.1 h.2.2.2.2.2.1 h.2.2.2.2.2.2.1 h.2.2.2.2.2.2.2.1 h.2.2.2.2.2.2.2.2
theorem x18 {α : Sort _} {p q r t u v w y : α → Prop} {G : Prop} (h : ∃ a, p a ∧ q a ∧ r a ∧ t a ∧ u a ∧ v a ∧ w a ∧ y a) (k : ∀ a, p a → q a → r a → t a → u a → v a → w a → y a → G) : G := h.elim fun a h => k a h.1 h.2.1 h.2.2.1 h.2.2.2.1 h.2.2.2.2.1 h.2.2.2.2.2.1 h.2.2.2.2.2.2.1 h.2.2.2.2.2.2.2
theorem x27 {α : Sort _} {β : Sort _} {p q r t u v w : α → β → Prop} {G : Prop} (h : ∃ a b, p a b ∧ q a b ∧ r a b ∧ t a b ∧ u a b ∧ v a b ∧ w a b) (k : ∀ a b, p a b → q a b → r a b → t a b → u a b → v a b → w a b → G) : G := h.elim fun a h => h.elim fun b h => k a b h.1 h.2.1 h.2.2.1 h.2.2.2.1 h.2.2.2.2.1 h.2.2.2.2.2.1 h.2.2.2.2.2.2
theorem x36 {α : Sort _} {β : Sort _} {δ : Sort _} {p q r t u v : α → β → δ → Prop} {G : Prop} (h : ∃ a b c, p a b c ∧ q a b c ∧ r a b c ∧ t a b c ∧ u a b c ∧ v a b c) (k : ∀ a b c, p a b c → q a b c → r a b c → t a b c → u a b c → v a b c → G) : G := h.elim fun a h => h.elim fun b h => h.elim fun c h => k a b c h.1 h.2.1 h.2.2.1 h.2.2.2.1 h.2.2.2.2.1 h.2.2.2.2.2
theorem x45 {α : Sort _} {β : Sort _} {δ : Sort _} {ε : Sort _} {p q r t u : α → β → δ → ε → Prop} {G : Prop} (h : ∃ a b c d, p a b c d ∧ q a b c d ∧ r a b c d ∧ t a b c d ∧ u a b c d) (k : ∀ a b c d, p a b c d → q a b c d → r a b c d → t a b c d → u a b c d → G) : G := h.elim fun a h => h.elim fun b h => h.elim fun c h => h.elim fun d h => k a b c d h.1 h.2.1 h.2.2.1 h.2.2.2.1 h.2.2.2.2
theorem x54 {α : Sort _} {β : Sort _} {δ : Sort _} {ε : Sort _} {ζ : Sort _} {p q r t : α → β → δ → ε → ζ → Prop} {G : Prop} (h : ∃ a b c d e, p a b c d e ∧ q a b c d e ∧ r a b c d e ∧ t a b c d e) (k : ∀ a b c d e, p a b c d e → q a b c d e → r a b c d e → t a b c d e → G) : G := h.elim fun a h => h.elim fun b h => h.elim fun c h => h.elim fun d h => h.elim fun e h => k a b c d e h.1 h.2.1 h.2.2.1 h.2.2.2
theorem x63 {α : Sort _} {β : Sort _} {δ : Sort _} {ε : Sort _} {ζ : Sort _} {η : Sort _} {p q r : α → β → δ → ε → ζ → η → Prop} {G : Prop} (h : ∃ a b c d e f, p a b c d e f ∧ q a b c d e f ∧ r a b c d e f) (k : ∀ a b c d e f, p a b c d e f → q a b c d e f → r a b c d e f → G) : G := h.elim fun a h => h.elim fun b h => h.elim fun c h => h.elim fun d h => h.elim fun e h => h.elim fun f h => k a b c d e f h.1 h.2.1 h.2.2
theorem y2_8 {α0 α1 : Type _} {p0 p1 p2 p3 p4 p5 p6 p7 : α0 → α1 → Prop} {G : Prop} (h : ∃ a0 a1, p0 a0 a1 ∧ p1 a0 a1 ∧ p2 a0 a1 ∧ p3 a0 a1 ∧ p4 a0 a1 ∧ p5 a0 a1 ∧ p6 a0 a1 ∧ p7 a0 a1) (k : ∀ a0 a1, p0 a0 a1 → p1 a0 a1 → p2 a0 a1 → p3 a0 a1 → p4 a0 a1 → p5 a0 a1 → p6 a0 a1 → p7 a0 a1 → G) : G := h.elim fun a0 h => h.elim fun a1 h => k a0 a1 h.1 h.2.1 h.2.2.1 h.2.2.2.1 h.2.2.2.2.1 h.2.2.2.2.2.1 h.2.2.2.2.2.2.1 h.2.2.2.2.2.2.2
theorem y3_7 {α0 α1 α2 : Type _} {p0 p1 p2 p3 p4 p5 p6 : α0 → α1 → α2 → Prop} {G : Prop} (h : ∃ a0 a1 a2, p0 a0 a1 a2 ∧ p1 a0 a1 a2 ∧ p2 a0 a1 a2 ∧ p3 a0 a1 a2 ∧ p4 a0 a1 a2 ∧ p5 a0 a1 a2 ∧ p6 a0 a1 a2) (k : ∀ a0 a1 a2, p0 a0 a1 a2 → p1 a0 a1 a2 → p2 a0 a1 a2 → p3 a0 a1 a2 → p4 a0 a1 a2 → p5 a0 a1 a2 → p6 a0 a1 a2 → G) : G := h.elim fun a0 h => h.elim fun a1 h => h.elim fun a2 h => k a0 a1 a2 h.1 h.2.1 h.2.2.1 h.2.2.2.1 h.2.2.2.2.1 h.2.2.2.2.2.1 h.2.2.2.2.2.2
theorem y3_9 {α0 α1 α2 : Type _} {p0 p1 p2 p3 p4 p5 p6 p7 p8 : α0 → α1 → α2 → Prop} {G : Prop} (h : ∃ a0 a1 a2, p0 a0 a1 a2 ∧ p1 a0 a1 a2 ∧ p2 a0 a1 a2 ∧ p3 a0 a1 a2 ∧ p4 a0 a1 a2 ∧ p5 a0 a1 a2 ∧ p6 a0 a1 a2 ∧ p7 a0 a1 a2 ∧ p8 a0 a1 a2) (k : ∀ a0 a1 a2, p0 a0 a1 a2 → p1 a0 a1 a2 → p2 a0 a1 a2 → p3 a0 a1 a2 → p4 a0 a1 a2 → p5 a0 a1 a2 → p6 a0 a1 a2 → p7 a0 a1 a2 → p8 a0 a1 a2 → G) : G := h.elim fun a0 h => h.elim fun a1 h => h.elim fun a2 h => k a0 a1 a2 h.1 h.2.1 h.2.2.1 h.2.2.2.1 h.2.2.2.2.1 h.2.2.2.2.2.1 h.2.2.2.2.2.2.1 h.2.2.2.2.2.2.2.1 h.2.2.2.2.2.2.2.2
theorem y7_10 {α0 α1 α2 α3 α4 α5 α6 : Type _} {p0 p1 p2 p3 p4 p5 p6 p7 p8 p9 : α0 → α1 → α2 → α3 → α4 → α5 → α6 → Prop} {G : Prop} (h : ∃ a0 a1 a2 a3 a4 a5 a6, p0 a0 a1 a2 a3 a4 a5 a6 ∧ p1 a0 a1 a2 a3 a4 a5 a6 ∧ p2 a0 a1 a2 a3 a4 a5 a6 ∧ p3 a0 a1 a2 a3 a4 a5 a6 ∧ p4 a0 a1 a2 a3 a4 a5 a6 ∧ p5 a0 a1 a2 a3 a4 a5 a6 ∧ p6 a0 a1 a2 a3 a4 a5 a6 ∧ p7 a0 a1 a2 a3 a4 a5 a6 ∧ p8 a0 a1 a2 a3 a4 a5 a6 ∧ p9 a0 a1 a2 a3 a4 a5 a6) (k : ∀ a0 a1 a2 a3 a4 a5 a6, p0 a0 a1 a2 a3 a4 a5 a6 → p1 a0 a1 a2 a3 a4 a5 a6 → p2 a0 a1 a2 a3 a4 a5 a6 → p3 a0 a1 a2 a3 a4 a5 a6 → p4 a0 a1 a2 a3 a4 a5 a6 → p5 a0 a1 a2 a3 a4 a5 a6 → p6 a0 a1 a2 a3 a4 a5 a6 → p7 a0 a1 a2 a3 a4 a5 a6 → p8 a0 a1 a2 a3 a4 a5 a6 → p9 a0 a1 a2 a3 a4 a5 a6 → G) : G := h.elim fun a0 h => h.elim fun a1 h => h.elim fun a2 h => h.elim fun a3 h => h.elim fun a4 h => h.elim fun a5 h => h.elim fun a6 h => k a0 a1 a2 a3 a4 a5 a6 h.1 h.2.1 h.2.2.1 h.2.2.2.1 h.2.2.2.2.1 h.2.2.2.2.2.1 h.2.2.2.2.2.2.1 h.2.2.2.2.2.2.2.1 h.2.2.2.2.2.2.2.2.1 h.2.2.2.2.2.2.2.2.2
theorem y7_7 {α0 α1 α2 α3 α4 α5 α6 : Type _} {p0 p1 p2 p3 p4 p5 p6 : α0 → α1 → α2 → α3 → α4 → α5 → α6 → Prop} {G : Prop} (h : ∃ a0 a1 a2 a3 a4 a5 a6, p0 a0 a1 a2 a3 a4 a5 a6 ∧ p1 a0 a1 a2 a3 a4 a5 a6 ∧ p2 a0 a1 a2 a3 a4 a5 a6 ∧ p3 a0 a1 a2 a3 a4 a5 a6 ∧ p4 a0 a1 a2 a3 a4 a5 a6 ∧ p5 a0 a1 a2 a3 a4 a5 a6 ∧ p6 a0 a1 a2 a3 a4 a5 a6) (k : ∀ a0 a1 a2 a3 a4 a5 a6, p0 a0 a1 a2 a3 a4 a5 a6 → p1 a0 a1 a2 a3 a4 a5 a6 → p2 a0 a1 a2 a3 a4 a5 a6 → p3 a0 a1 a2 a3 a4 a5 a6 → p4 a0 a1 a2 a3 a4 a5 a6 → p5 a0 a1 a2 a3 a4 a5 a6 → p6 a0 a1 a2 a3 a4 a5 a6 → G) : G := h.elim fun a0 h => h.elim fun a1 h => h.elim fun a2 h => h.elim fun a3 h => h.elim fun a4 h => h.elim fun a5 h => h.elim fun a6 h => k a0 a1 a2 a3 a4 a5 a6 h.1 h.2.1 h.2.2.1 h.2.2.2.1 h.2.2.2.2.1 h.2.2.2.2.2.1 h.2.2.2.2.2.2
theorem y7_8 {α0 α1 α2 α3 α4 α5 α6 : Type _} {p0 p1 p2 p3 p4 p5 p6 p7 : α0 → α1 → α2 → α3 → α4 → α5 → α6 → Prop} {G : Prop} (h : ∃ a0 a1 a2 a3 a4 a5 a6, p0 a0 a1 a2 a3 a4 a5 a6 ∧ p1 a0 a1 a2 a3 a4 a5 a6 ∧ p2 a0 a1 a2 a3 a4 a5 a6 ∧ p3 a0 a1 a2 a3 a4 a5 a6 ∧ p4 a0 a1 a2 a3 a4 a5 a6 ∧ p5 a0 a1 a2 a3 a4 a5 a6 ∧ p6 a0 a1 a2 a3 a4 a5 a6 ∧ p7 a0 a1 a2 a3 a4 a5 a6) (k : ∀ a0 a1 a2 a3 a4 a5 a6, p0 a0 a1 a2 a3 a4 a5 a6 → p1 a0 a1 a2 a3 a4 a5 a6 → p2 a0 a1 a2 a3 a4 a5 a6 → p3 a0 a1 a2 a3 a4 a5 a6 → p4 a0 a1 a2 a3 a4 a5 a6 → p5 a0 a1 a2 a3 a4 a5 a6 → p6 a0 a1 a2 a3 a4 a5 a6 → p7 a0 a1 a2 a3 a4 a5 a6 → G) : G := h.elim fun a0 h => h.elim fun a1 h => h.elim fun a2 h => h.elim fun a3 h => h.elim fun a4 h => h.elim fun a5 h => h.elim fun a6 h => k a0 a1 a2 a3 a4 a5 a6 h.1 h.2.1 h.2.2.1 h.2.2.2.1 h.2.2.2.2.1 h.2.2.2.2.2.1 h.2.2.2.2.2.2.1 h.2.2.2.2.2.2.2
noncomputable def guardO {β : Type} (b : Bool) (m : Option β) : Option β := match b with
  | true => m
  | false => Option.none
theorem bk {P : Prop} {b : Bool} (k : b = false → P) (h : b = true → P) : P := bc h k
theorem oc {α : Type _} {P : Prop} {o : Option α} (h : o = none → P) (k : ∀ a, o = some a → P) : P := by
  cases o with
  | none => exact h rfl
  | some a => exact k a rfl
theorem ok' {α : Type _} {P : Prop} {o : Option α} (k : ∀ a, o = some a → P) (h : o = none → P) : P := oc h k
theorem mc {β : Type _} {P : Prop} {b : Bool} {x y r : β} (h : (match b with | true => x | false => y) = r) (k : b = true → x = r → P) (l : b = false → y = r → P) : P := by
  cases b with
  | true => exact k rfl h
  | false => exact l rfl h
theorem mk' {β : Type _} {P : Prop} {b : Bool} {x y r : β} (h : (match b with | true => x | false => y) = r) (l : b = false → y = r → P) (k : b = true → x = r → P) : P := mc h k l
theorem mo1 {α β : Type _} {P : Prop} {o : Option α} {f : α → β} {y r : β} (h : (match o with | some a => f a | none => y) = r) (l : o = none → y = r → P) (k : ∀ a, o = some a → f a = r → P) : P := by
  cases o with
  | none => exact l rfl h
  | some a => exact k a rfl h
theorem mo2 {α β : Type _} {P : Prop} {o : Option α} {f : α → β} {y r : β} (h : (match o with | none => y | some a => f a) = r) (l : o = none → y = r → P) (k : ∀ a, o = some a → f a = r → P) : P := by
  cases o with
  | none => exact l rfl h
  | some a => exact k a rfl h
theorem mo3 {α β : Type _} {P : Prop} {o : Option α} {f : α → β} {y r : β} (h : (match o with | some a => f a | none => y) = r) (k : ∀ a, o = some a → f a = r → P) (l : o = none → y = r → P) : P := mo1 h l k
theorem mo4 {α β : Type _} {P : Prop} {o : Option α} {f : α → β} {y r : β} (h : (match o with | none => y | some a => f a) = r) (k : ∀ a, o = some a → f a = r → P) (l : o = none → y = r → P) : P := mo2 h l k
theorem om {α β : Type} {o : Option α} {f : α → Option β} {b : β} (h : Option.bind o f = some b) : ∃ a, o = some a ∧ f a = some b := by
  cases o with
  | none => exact ns h
  | some a => exact ⟨a, rfl, h⟩
theorem am {a b : Bool} (h : and a b = true) : a = true ∧ b = true := by cases a with | true => exact ⟨rfl, h⟩ | false => exact tf h
noncomputable def single {α : Type} (l : List α) : Option α := match l with
  | [] => Option.none
  | x :: r => match r with
    | [] => some x
    | _ :: _ => Option.none
theorem single_some {α : Type} {l : List α} {x : α} (h : single l = some x) : l = [x] := by
  cases l with
  | nil => exact ns h
  | cons y r => cases r with
    | nil => obtain rfl := ss h; rfl
    | cons => exact ns h
noncomputable def isNil {α : Type} (l : List α) : Bool := match l with
  | [] => true
  | _ :: _ => false
theorem isNil_eq {α : Type} {l : List α} (h : isNil l = true) : l = [] := by cases l with | nil => rfl | cons => exact tf h
noncomputable def noneB {α : Type} (o : Option α) : Bool := match o with
  | some _ => false
  | Option.none => true
theorem noneB_eq {α : Type} {o : Option α} (h : noneB o = true) : o = Option.none := by cases o with | none => rfl | some => exact tf h
noncomputable def pair {α : Type} (l : List α) : Option (α × α) := match l with
  | [] => Option.none
  | x :: r => Option.bind (single r) fun y => some (x, y)
theorem pair_some {α : Type} {l : List α} {p : α × α} (h : pair l = some p) : l = [p.1, p.2] := by
  cases l with
  | nil => exact ns h
  | cons y r =>
    refine x12 (om h) fun z q e => ?_
    obtain rfl := ss e
    rw [single_some q]
theorem notm {b : Bool} (h : (!b) = true) : b = false := by cases b with | true => exact tf h | false => rfl
theorem bm {β : Type} {c : Bool} {m : Option β} {b : β} (h : guardO c m = some b) : c = true ∧ m = some b := by cases c with | true => exact ⟨rfl, h⟩ | false => exact ns h
inductive Bf where
  | len | isinstance | sorted | tuple | list | range | enumerate
  deriving Inhabited
inductive SV where
  | none | bool (b : Bool) | int (i : Int) | str (s : Str) | tup (l : List SV)
  | top (a : Nat) | obj (j : Nat) | var (i : Nat) | tree (k : Nat) | fn (f : Bf)
  deriving Inhabited
inductive MO where
  | list (xs : List SV) | dict (kvs : List (Str × SV)) | inst (C : Nat) (fs : List (Str × SV))
  | tdict (kvs : List (SV × SV)) | hole | cell (v : Option SV) | tab (fresh : Bool) | lam (body : PySem.Expr) (names : List (Str × NameKind)) (cl : List (Str × Nat)) | reel | view (j : Nat) | frame
  deriving Inhabited
structure St where
  env : List (Str × SV)
  heap : List (Nat × MO)
  next : Nat
  doms : List (List SV)
  froz : List (Nat × MO)
  deriving Inhabited
inductive Fl where
  | next | brk | cont | ret (v : SV)
  deriving Inhabited
inductive Res (α : Type) where
  | ok (a : α) | ex (c : Nat) (v : SV)
noncomputable abbrev Out (α : Type) := List (Res α × St)
noncomputable abbrev R (α : Type) := Option (Out α)
noncomputable def okR {α : Type} (a : α) (σ : St) : R α := some [(.ok a, σ)]
noncomputable def appR {α : Type} (o : Out α) : R α → R α
  | Option.none => Option.none
  | some o' => some (o ++ o')
noncomputable def oneR {α β : Type} (k : α → St → R β) (r : Res α) (σ : St) : R β := match r with
  | .ok a => k a σ
  | .ex c v => some [(.ex c v, σ)]
noncomputable def goR {α β : Type} (k : α → St → R β) : Out α → R β
  | [] => some []
  | (r, ⟨e, h, n, d, z⟩) :: l => Option.bind (oneR k r ⟨e, h, n, d, z⟩) fun o => match l with
      | [] => some o
      | p :: l => appR o (goR k (p :: l))
noncomputable def bindR {α β : Type} (m : R α) (k : α → St → R β) : R β := Option.bind m fun l => goR k l
noncomputable def lB : List Nat → List Nat → Bool
  | [], [] => true
  | a :: x, b :: y => match Nat.beq a b with | true => lB x y | false => false
  | _, _ => false
noncomputable def codeL : List Nat → Nat
  | [] => 0
  | c :: l => c + 1114112 * codeL l
noncomputable def codeS (a : Str) : Nat := codeL a.cps.toList
noncomputable def sB (a b : Str) : Bool := match Nat.beq (codeS a) (codeS b) with
  | true => lB a.cps.toList b.cps.toList
  | false => false
noncomputable def lkS {α : Type} (x : Str) : List (Str × α) → Option α
  | [] => Option.none
  | (y, v) :: r => match sB x y with | true => some v | false => lkS x r
noncomputable def ptS {α : Type} (x : Str) (v : α) : List (Str × α) → List (Str × α)
  | [] => [(x, v)]
  | (y, w) :: r => match sB x y with | true => (y, v) :: r | false => (y, w) :: ptS x v r
noncomputable def lkN {α : Type} (a : Nat) : List (Nat × α) → Option α
  | [] => Option.none
  | (b, v) :: r => match Nat.beq a b with | true => some v | false => lkN a r
noncomputable def ptN {α : Type} (a : Nat) (v : α) : List (Nat × α) → List (Nat × α)
  | [] => []
  | (b, w) :: r => match Nat.beq a b with | true => (b, v) :: r | false => (b, w) :: ptN a v r
noncomputable def St.get (σ : St) (j : Nat) : Option MO := match lkN j σ.heap with
  | some o => some o
  | Option.none => lkN j σ.froz
noncomputable def objOf : SV → Option Nat
  | .obj j => some j
  | _ => Option.none
theorem objOf_some {v : SV} {j : Nat} (h : objOf v = some j) : v = .obj j := by cases v <;> first | exact ns h | exact congrArg SV.obj (ss h)
noncomputable def asInst (o : Option MO) : Option (Nat × List (Str × SV)) := match o with
  | some (.inst c fs) => some (c, fs)
  | _ => Option.none
theorem asInst_some {o : Option MO} {p : Nat × List (Str × SV)} (h : asInst o = some p) : o = some (.inst p.1 p.2) := by
  cases o with
  | none => exact ns h
  | some m => cases m <;> first | ((first | exact ns h | obtain rfl := ss h); rfl) | exact ns h
noncomputable def isHole (o : Option MO) : Bool := match o with
  | some .hole => true
  | _ => false
theorem isHole_some {o : Option MO} (h : isHole o = true) : o = some .hole := by
  cases o with
  | none => exact tf h
  | some m => cases m <;> first | rfl | exact tf h
noncomputable def isTab (o : Option MO) : Bool := match o with
  | some (.tab b) => b
  | _ => false
set_option tactic.hygienic true in
theorem isTab_some {o : Option MO} (h : isTab o = true) : o = some (.tab true) := by
  cases o with
  | none => exact tf h
  | some m => cases m <;> first | ((first | exact tf h | subst h); done) | (rename_i b; cases b; exact tf h; rfl)
noncomputable def natOf : SV → Option Nat
  | .int i => match i with
    | .ofNat n => some n
    | .negSucc _ => Option.none
  | _ => Option.none
set_option tactic.hygienic true in
theorem natOf_some {v : SV} {n : Nat} (h : natOf v = some n) : v = .int (.ofNat n) := by
  cases v <;> try (exact ns h; done)
  rename_i i
  cases i with
  | ofNat => obtain rfl := ss h; rfl
  | negSucc => exact ns h
noncomputable def asLam (o : Option MO) : Option (PySem.Expr × List (Str × NameKind) × List (Str × Nat)) := match o with
  | some (.lam b n c) => some (b, n, c)
  | _ => Option.none
theorem asLam_some {o : Option MO} {p : PySem.Expr × List (Str × NameKind) × List (Str × Nat)} (h : asLam o = some p) : o = some (.lam p.1 p.2.1 p.2.2) := by
  cases o with
  | none => exact ns h
  | some m => cases m <;> first | ((first | exact ns h | obtain rfl := ss h); rfl) | exact ns h
noncomputable def asList (o : Option MO) : Option (List SV) := match o with
  | some (.list l) => some l
  | _ => Option.none
noncomputable def asDict (o : Option MO) : Option (List (Str × SV)) := match o with
  | some (.dict l) => some l
  | _ => Option.none
noncomputable def asTd (o : Option MO) : Option (List (SV × SV)) := match o with
  | some (.tdict l) => some l
  | _ => Option.none
noncomputable def asCell (o : Option MO) : Option (Option SV) := match o with
  | some (.cell v) => some v
  | _ => Option.none
theorem asList_some {o : Option MO} {l : List SV} (h : asList o = some l) : o = some (.list l) := by
  cases o with
  | none => exact ns h
  | some m => cases m <;> first | ((first | exact ns h | obtain rfl := ss h); rfl) | exact ns h
theorem asDict_some {o : Option MO} {l : List (Str × SV)} (h : asDict o = some l) : o = some (.dict l) := by
  cases o with
  | none => exact ns h
  | some m => cases m <;> first | ((first | exact ns h | obtain rfl := ss h); rfl) | exact ns h
theorem asTd_some {o : Option MO} {l : List (SV × SV)} (h : asTd o = some l) : o = some (.tdict l) := by
  cases o with
  | none => exact ns h
  | some m => cases m <;> first | ((first | exact ns h | obtain rfl := ss h); rfl) | exact ns h
theorem asCell_some {o : Option MO} {l : Option SV} (h : asCell o = some l) : o = some (.cell l) := by
  cases o with
  | none => exact ns h
  | some m => cases m <;> first | ((first | exact ns h | obtain rfl := ss h); rfl) | exact ns h
noncomputable def St.new (σ : St) (o : MO) : St := { σ with heap := (σ.next, o) :: σ.heap, next := σ.next + 1 }
noncomputable def St.put (σ : St) (j : Nat) (o : MO) : Option St := Option.bind (lkN j σ.heap) fun _ => some { σ with heap := ptN j o σ.heap }
noncomputable def newR (o : MO) (σ : St) : R SV := okR (.obj σ.next) (σ.new o)
noncomputable def okL : List Nat → Bool
  | [] => true
  | c :: l => match Nat.blt c 1114112 with | true => okL l | false => false
noncomputable def okS (s : Str) : Bool := okL s.cps.toList
noncomputable def small {α : Type} (l : List α) : Bool := Nat.ble l.length 900
noncomputable def newL (l : List SV) (σ : St) : R SV := guardO (small l) <| newR (.list l) σ
noncomputable def tupR (l : List SV) (σ : St) : R SV := guardO (small l) <| okR (.tup l) σ
noncomputable def setAt {α : Type} (v : α) : Nat → List α → List α
  | _, [] => []
  | 0, _ :: r => v :: r
  | n + 1, a :: r => a :: setAt v n r
noncomputable def getAt {α : Type} : Nat → List α → Option α
  | _, [] => Option.none
  | 0, a :: _ => some a
  | n + 1, _ :: r => getAt n r
noncomputable def St.dom (σ : St) (i : Nat) : List SV := (getAt i σ.doms).getD []
noncomputable def St.setDom (σ : St) (i : Nat) (l : List SV) : St := { σ with doms := setAt l i σ.doms }
noncomputable def retO (v : Option SV) (σ : St) : R SV := Option.bind v fun v => okR v σ
noncomputable def force (v : SV) (σ : St) : Out SV := match v with
  | .var i => (σ.dom i).map fun d => (.ok d, σ.setDom i [d])
  | v => [(.ok v, σ)]
noncomputable def forced {α : Type} (v : SV) (σ : St) (k : SV → St → R α) : R α := goR k (force v σ)
noncomputable def iB (a b : Int) : Bool := match a, b with
  | .ofNat m, .ofNat n => Nat.beq m n
  | .negSucc m, .negSucc n => Nat.beq m n
  | _, _ => false
noncomputable def iLt (a b : Int) : Bool := match a, b with
  | .ofNat m, .ofNat n => Nat.blt m n
  | .negSucc m, .negSucc n => Nat.blt n m
  | .negSucc _, .ofNat _ => true
  | .ofNat _, .negSucc _ => false
noncomputable def bB (a b : Bool) : Bool := match a with | true => b | false => !b
mutual
noncomputable def eqG (a b : SV) : Option Bool := match a with
  | .none => match b with | .none => some true | .bool _ | .int _ | .str _ | .tup _ => some false | _ => Option.none
  | .bool x => match b with | .bool y => some (bB x y) | .none | .str _ | .tup _ => some false | _ => Option.none
  | .int x => match b with | .int y => some (iB x y) | .none | .str _ | .tup _ => some false | _ => Option.none
  | .str x => match b with | .str y => some (sB x y) | .none | .bool _ | .int _ | .tup _ => some false | _ => Option.none
  | .tup l => match b with | .tup r => eqGs l r | .none | .bool _ | .int _ | .str _ => some false | _ => Option.none
  | _ => Option.none
noncomputable def eqGs : List SV → List SV → Option Bool
  | [], [] => some true
  | a :: l, b :: r => match eqG a b with
    | some true => eqGs l r
    | some false => some false
    | Option.none => Option.none
  | _, _ => some false
end
noncomputable def parted (p : SV → Option Bool) : List SV → Option (List SV × List SV)
  | [] => some ([], [])
  | d :: r => match p d, parted p r with
    | some true, some (y, n) => some (d :: y, n)
    | some false, some (y, n) => some (y, d :: n)
    | _, _ => Option.none
noncomputable def partR (σ : St) (i : Nat) : Option (List SV × List SV) → R Bool
  | Option.none => Option.none
  | some ([], []) => some []
  | some ([], _ :: _) => okR false σ
  | some (_ :: _, []) => okR true σ
  | some (a :: y, b :: n) => some [(.ok true, σ.setDom i (a :: y)), (.ok false, σ.setDom i (b :: n))]
noncomputable def split (σ : St) (i : Nat) (p : SV → Option Bool) : R Bool := partR σ i (parted p (σ.dom i))
noncomputable def isVar : SV → Option Nat
  | .var i => some i
  | _ => Option.none
mutual
noncomputable def ground : SV → Bool
  | .none | .bool _ | .int _ | .str _ => true
  | .tup l => grounds l
  | _ => false
noncomputable def grounds : List SV → Bool
  | [] => true
  | a :: l => match ground a with | true => grounds l | false => false
end
noncomputable def shalG : Nat → SV → Bool
  | _, .none => true
  | _, .bool _ => true
  | _, .int _ => true
  | _, .str _ => true
  | n + 1, .tup l => shalGs n l
  | _, _ => false
where
  shalGs (n : Nat) : List SV → Bool
    | [] => true
    | a :: l => match shalG n a with | true => shalGs n l | false => false
noncomputable def shalGL (n : Nat) : List SV → Bool
  | [] => true
  | a :: l => match shalG n a with | true => shalGL n l | false => false
noncomputable def shal (σ : St) : Nat → SV → Bool
  | _, .none => true
  | _, .bool _ => true
  | _, .int _ => true
  | _, .str _ => true
  | n, .var i => shalGL n (σ.dom i)
  | n + 1, .tup l => shals σ n l
  | _, _ => false
where
  shals (σ : St) (n : Nat) : List SV → Bool
    | [] => true
    | a :: l => match shal σ n a with | true => shals σ n l | false => false
noncomputable def shalL (σ : St) (n : Nat) : List SV → Bool
  | [] => true
  | a :: l => match shal σ n a with | true => shalL σ n l | false => false
noncomputable def guardR {α : Type} (b : Bool) (m : R α) : R α := guardO b <| m
noncomputable def okB (o : Option Bool) (σ : St) : R Bool := Option.bind o fun c => okR c σ
noncomputable def tupOf : SV → Option (List SV)
  | .tup l => some l
  | _ => Option.none
theorem tupOf_some {v : SV} {l : List SV} (h : tupOf v = some l) : v = .tup l := by cases v <;> first | exact ns h | exact congrArg SV.tup (ss h)
noncomputable def eqV : Nat → SV → SV → St → R Bool
  | 0, _, _, _ => Option.none
  | n + 1, a, b, σ => match isVar a, isVar b with
    | some i, some j => match Nat.beq i j with
      | true => okR true σ
      | false => forced b σ fun d τ => eqV n a d τ
    | some i, Option.none => match ground b with
      | true => split σ i fun d => eqG d b
      | false => forced a σ fun d τ => eqV n d b τ
    | Option.none, some j => match ground a with
      | true => split σ j fun d => eqG a d
      | false => forced b σ fun d τ => eqV n a d τ
    | Option.none, Option.none => match tupOf a, tupOf b with
      | some l, some r => match Nat.beq l.length r.length with
        | true => eqVs (eqV n) l r σ
        | false => okR false σ
      | _, _ => okB (eqG a b) σ
where
  eqVs (k : SV → SV → St → R Bool) : List SV → List SV → St → R Bool
    | a :: l, b :: r, σ => bindR (k a b σ) fun c τ => match c with
      | true => eqVs k l r τ
      | false => okR false τ
    | _, _, σ => okR true σ
noncomputable def inSeq (x : SV) : List SV → St → R Bool
  | [], σ => okR false σ
  | y :: r, σ => bindR (eqV 12 y x σ) fun c τ => match c with
    | true => okR true τ
    | false => inSeq x r τ
noncomputable def inG (d : SV) : List SV → Option Bool
  | [] => some false
  | y :: r => match eqG y d with
    | some true => some true
    | some false => inG d r
    | Option.none => Option.none
noncomputable def inItems (x : SV) (l : List SV) (σ : St) : R Bool := match isVar x with
  | some i => match grounds l with
    | true => split σ i fun d => inG d l
    | false => inSeq x l σ
  | Option.none => inSeq x l σ
structure FnRec where
  params : List Str
  dfl : List SV
  body : List Stmt
  names : List (Str × NameKind)
  gc : Bool
  tab : Option Nat
structure ClsRec where
  init : Nat
  meths : List (Str × Nat)
  flds : List Str
structure Cfg where
  glob : List (Str × SV)
  fns : List (Nat × FnRec)
  cls : List (Nat × ClsRec)
  prim : Nat → List SV → St → Option (R SV)
  tried : Nat
  excs : List (Nat × Str)
structure Fm where
  names : List (Str × NameKind)
  cells : List (Str × Nat)
  cv : Option (Str × SV)
  tab : Option Nat
noncomputable def cellV (fm : Fm) (x : Str) (σ : St) : Option SV := Option.bind (lkS x fm.cells) fun j => Option.bind (asCell (σ.get j)) fun v => v
noncomputable def compV (p : Str × SV) (x : Str) : Option SV := guardO (sB x p.1) (some p.2)
noncomputable def localV (fm : Fm) (x : Str) (σ : St) : Option SV := match fm.cv with
  | some p => compV p x
  | Option.none => lkS x σ.env
noncomputable def nameV (C : Cfg) (fm : Fm) (x : Str) (σ : St) : Option SV := Option.bind (lkS x fm.names) fun k => match k with
    | .local => localV fm x σ
    | .cell => cellV fm x σ
    | .free => cellV fm x σ
    | .globalImplicit => lkS x C.glob
    | .globalExplicit => Option.none
noncomputable def storeC (fm : Fm) (x : Str) (v : SV) (σ : St) : Option St := Option.bind (lkS x fm.cells) fun j => Option.bind (asCell (σ.get j)) fun _ => σ.put j (.cell (some v))
noncomputable def storeK (k : NameKind) (fm : Fm) (x : Str) (v : SV) (σ : St) : Option St := match k with
  | .local => some { σ with env := ptS x v σ.env }
  | .cell => storeC fm x v σ
  | _ => Option.none
noncomputable def storeV (fm : Fm) (x : Str) (v : SV) (σ : St) : Option St := guardO (noneB fm.cv) <| Option.bind (lkS x fm.names) fun k => storeK k fm x v σ
noncomputable def nameOfE : PySem.Expr → Option Str
  | .Name x _ => some x
  | _ => Option.none
noncomputable def storeAll (fm : Fm) : List PySem.Expr → List SV → St → Option St
  | [], [], σ => some σ
  | t :: ts, v :: vs, σ => Option.bind (nameOfE t) fun x => Option.bind (storeV fm x v σ) fun τ => storeAll fm ts vs τ
  | _, _, _ => Option.none
noncomputable def nextR (o : Option St) : R Fl := Option.bind o fun σ => okR .next σ
structure EC where
  run : Fm → St → R SV
structure BC where
  run : Fm → St → R Bool
structure XC where
  run : Fm → St → R Fl
structure TC where
  run : Fm → SV → St → Option St
inductive Src where
  | lst (j : Nat) | fix (l : List SV) | enum (j : Nat) | keys (j : Nat) (kvs : List (Str × SV))
structure SC where
  run : Fm → St → R Src
structure Sems where
  ev : Fm → PySem.Expr → St → R SV
  ts : Fm → PySem.Expr → St → R Bool
  xs : Fm → List Stmt → St → R Fl
  cl : SV → List SV → St → R SV
section
variable (C : Cfg) (S : Sems)
noncomputable def evs (fm : Fm) : List PySem.Expr → St → R (List SV)
  | [], σ => okR [] σ
  | e :: es, σ => bindR (S.ev fm e σ) fun v τ => bindR (evs fm es τ) fun vs τ' => okR (v :: vs) τ'
noncomputable def boolOf : SV → Option Bool
  | .bool b => some b
  | _ => Option.none
theorem boolOf_some {v : SV} {i : Bool} (h : boolOf v = some i) : v = .bool i := by cases v <;> first | exact ns h | exact congrArg SV.bool (ss h)
noncomputable def truth (v : SV) (σ : St) : R Bool := forced v σ fun v τ => okB (boolOf v) τ
noncomputable def isNoneG : SV → Option Bool
  | .none => some true
  | .var _ | .tree _ => Option.none
  | _ => some false
noncomputable def isNone (v : SV) (σ : St) : R Bool := match isVar v with
  | some i => split σ i isNoneG
  | Option.none => okB (isNoneG v) σ
noncomputable def notR (m : R Bool) : R Bool := bindR m fun c τ => okR (!c) τ
noncomputable def listOfObj (σ : St) (v : SV) : Option (List SV) := Option.bind (objOf v) fun j => asList (σ.get j)
noncomputable def dictOfObj (σ : St) (v : SV) : Option (List (Str × SV)) := Option.bind (objOf v) fun j => asDict (σ.get j)
noncomputable def eqLists (l r : List SV) (σ : St) : R Bool := match Nat.beq l.length r.length with
  | true => guardR (shalL σ 12 l) (guardR (shalL σ 12 r) (eqV.eqVs (eqV 12) l r σ))
  | false => okR false σ
noncomputable def snap (σ : St) (v : SV) : Option (Bool × List SV) := match listOfObj σ v with
  | some l => guardO (shalL σ 12 l) <| some (true, l)
  | Option.none => guardO (shal σ 12 v) <| some (false, [v])
noncomputable def snaps (σ : St) : List SV → Option (List (Bool × List SV))
  | [] => some []
  | v :: r => Option.bind (snap σ v) fun x => Option.bind (snaps σ r) fun l => some (x :: l)
noncomputable def eqSnap (a b : Bool × List SV) (σ : St) : R Bool := guardO (bB a.1 b.1) <| guardO (Nat.beq a.2.length b.2.length) <| eqV.eqVs (eqV 13) a.2 b.2 σ
noncomputable def eqSnaps : List (Bool × List SV) → List (Bool × List SV) → St → R Bool
  | x :: l, y :: r, σ => bindR (eqSnap x y σ) fun c τ => match c with
    | true => eqSnaps l r τ
    | false => okR false τ
  | _, _, σ => okR true σ
noncomputable def eqParts (a b : SV) (σ : St) : R Bool := Option.bind (tupOf a) fun l => Option.bind (tupOf b) fun r => Option.bind (snaps σ l) fun x => Option.bind (snaps σ r) fun y => guardO (Nat.beq l.length r.length) <| eqSnaps x y σ
noncomputable def eqDatas (a b : SV) (σ : St) : R Bool := match shal σ 12 a, shal σ 12 b with
  | true, true => eqV 13 a b σ
  | _, _ => eqParts a b σ
noncomputable def cmpEq (a b : SV) (σ : St) : R Bool := match listOfObj σ a, listOfObj σ b with
  | some l, some r => eqLists l r σ
  | Option.none, Option.none => eqDatas a b σ
  | _, _ => Option.none
noncomputable def strOf : SV → Option Str
  | .str s => some s
  | _ => Option.none
theorem strOf_some {v : SV} {i : Str} (h : strOf v = some i) : v = .str i := by cases v <;> first | exact ns h | exact congrArg SV.str (ss h)
noncomputable def intOf : SV → Option Int
  | .int i => some i
  | _ => Option.none
theorem intOf_some {v : SV} {i : Int} (h : intOf v = some i) : v = .int i := by cases v <;> first | exact ns h | exact congrArg SV.int (ss h)
noncomputable def inData (a : SV) (l : List SV) (σ : St) : R Bool := guardR (shal σ 12 a) (guardR (shalL σ 12 l) (inItems a l σ))
noncomputable def cmpIn (a b : SV) (σ : St) : R Bool := match tupOf b with
  | some l => inData a l σ
  | Option.none => match listOfObj σ b with
    | some l => inData a l σ
    | Option.none => Option.bind (dictOfObj σ b) fun kvs => Option.bind (strOf a) fun s => okR (lkS s kvs).isSome σ
noncomputable def cmpIs (a b : SV) (σ : St) : R Bool := match b with
  | .none => isNone a σ
  | _ => Option.none
noncomputable def ltOf (flip : Bool) (a b : SV) (σ : St) : R Bool := forced a σ fun a τ => Option.bind (intOf a) fun x => Option.bind (intOf b) fun y => okR (match flip with | true => iLt y x | false => iLt x y) τ
noncomputable def compare (op : CmpOp) (a b : SV) (σ : St) : R Bool := match op with
  | .Eq => cmpEq a b σ
  | .NotEq => notR (cmpEq a b σ)
  | .Is => cmpIs a b σ
  | .IsNot => notR (cmpIs a b σ)
  | .In => cmpIn a b σ
  | .NotIn => notR (cmpIn a b σ)
  | .Lt => ltOf false a b σ
  | .Gt => ltOf true a b σ
  | _ => Option.none
noncomputable def addStr (x y : Str) (σ : St) : R SV := guardO (Nat.ble (x.cps.size + y.cps.size) 4096) <| okR (.str (x ++ y)) σ
noncomputable def addG (a b : SV) (σ : St) : R SV := match a with
  | .int x => Option.bind (intOf b) fun y => okR (.int (x + y)) σ
  | .str x => Option.bind (strOf b) fun y => addStr x y σ
  | a => Option.bind (listOfObj σ a) fun l => Option.bind (listOfObj σ b) fun r => newL (l ++ r) σ
noncomputable def subG (a b : SV) (σ : St) : R SV := Option.bind (intOf a) fun x => Option.bind (intOf b) fun y => okR (.int (x - y)) σ
noncomputable def binop (op : Operator) (a b : SV) (σ₀ : St) : R SV := forced a σ₀ fun a σ₁ => forced b σ₁ fun b σ => match op with
  | .Add => addG a b σ
  | .Sub => subG a b σ
  | _ => Option.none
noncomputable def atNat (n : Nat) (l : List SV) : Option SV := guardO (Nat.ble n 1000) (getAt n l)
noncomputable def itemOf (l : List SV) (i : Int) : Option SV := match i with
  | .ofNat n => atNat n l
  | .negSucc n => guardO (Nat.ble n 1000) <| guardO (Nat.blt n l.length) <| getAt (l.length - (n + 1)) l
noncomputable def listItem (l : List SV) (i : Int) : Option SV := match i with
  | .ofNat n => atNat n l
  | .negSucc _ => Option.none
noncomputable def subG2 (o i : SV) (σ : St) : Option SV := match i with
  | .int k => match tupOf o with
    | some l => itemOf l k
    | Option.none => Option.bind (listOfObj σ o) fun l => listItem l k
  | .str s => Option.bind (dictOfObj σ o) fun kvs => lkS s kvs
  | _ => Option.none
noncomputable def subscr (o i : SV) (σ : St) : R SV := forced o σ fun o τ₀ => forced i τ₀ fun i τ => retO (subG2 o i τ) τ
noncomputable def field (o : SV) (x : Str) (σ : St) : Option SV := Option.bind (objOf o) fun j => Option.bind (asInst (σ.get j)) fun p => lkS x p.2
noncomputable def lenL (l : List SV) : Option SV := guardO (small l) <| some (.int (.ofNat l.length))
noncomputable def lenOf (v : SV) (σ : St) : Option SV := match tupOf v with
  | some l => lenL l
  | Option.none => Option.bind (listOfObj σ v) fun l => lenL l
noncomputable def isTupV : SV → Option SV
  | .tup _ | .tree _ => some (.bool true)
  | .none | .bool _ | .int _ | .str _ => some (.bool false)
  | _ => Option.none
noncomputable def sortedR (kvs : List (Str × SV)) (σ : St) : R SV := match kvs with
  | [] => newR (.list []) σ
  | [(k, _)] => newR (.list [.str k]) σ
  | _ => Option.none
noncomputable def listM (m : MO) (σ : St) : R SV := match m with
  | .list l => newL l σ
  | .view i => Option.bind (asDict (σ.get i)) fun kvs => newL (kvs.map fun p => p.2) σ
  | _ => Option.none
noncomputable def listR (v : SV) (σ : St) : R SV := Option.bind (objOf v) fun j => Option.bind (σ.get j) fun m => listM m σ
noncomputable def isTupleFn : SV → Bool
  | .fn .tuple => true
  | _ => false
noncomputable def builtin1 (f : Bf) (v : SV) (σ : St) : R SV := match f with
  | .len => forced v σ fun v τ => retO (lenOf v τ) τ
  | .tuple => Option.bind (listOfObj σ v) fun l => tupR l σ
  | .list => listR v σ
  | .sorted => Option.bind (dictOfObj σ v) fun kvs => sortedR kvs σ
  | _ => Option.none
noncomputable def builtin (f : Bf) (args : List SV) (σ : St) : R SV := Option.bind (single args) fun v => builtin1 f v σ
noncomputable def doneR (o : Option St) : R SV := Option.bind o fun σ => okR .none σ
noncomputable def putL (j : Nat) (l : List SV) (σ : St) : R SV := guardO (small l) <| doneR (σ.put j (.list l))
noncomputable def extendR (j : Nat) (l : List SV) (x : SV) (σ : St) : R SV := Option.bind (listOfObj σ x) fun r => putL j (l ++ r) σ
noncomputable def tkItem : SV → Option (Option Str)
  | .str s => some (some s)
  | .tup l => guardO (isNil l) <| some Option.none
  | _ => Option.none
noncomputable def tkItems : List SV → Option (List (Option Str))
  | [] => some []
  | x :: r => Option.bind (tkItem x) fun a => Option.bind (tkItems r) fun l => some (a :: l)
noncomputable def tkOf : SV → Option (List (Option Str))
  | .tup l => tkItems l
  | _ => Option.none
noncomputable def tkB1 : Option Str → Option Str → Bool
  | some x, some y => sB x y
  | Option.none, Option.none => true
  | _, _ => false
noncomputable def tkB : List (Option Str) → List (Option Str) → Bool
  | [], [] => true
  | x :: l, y :: r => match tkB1 x y with | true => tkB l r | false => false
  | _, _ => false
noncomputable def tkIn (x : List (Option Str)) : List (List (Option Str)) → Bool
  | [] => false
  | y :: r => match tkB x y with | true => true | false => tkIn x r
noncomputable def tkNodup : List (List (Option Str)) → Bool
  | [] => true
  | x :: r => match tkIn x r with | true => false | false => tkNodup r
noncomputable def tkKeys : List (SV × SV) → Option (List (List (Option Str)))
  | [] => some []
  | (x, _) :: r => Option.bind (tkOf x) fun k => Option.bind (tkKeys r) fun l => some (k :: l)
noncomputable def tkGet (k : List (Option Str)) (d : SV) : List (SV × SV) → Option SV
  | [] => some d
  | (x, v) :: r => Option.bind (tkOf x) fun y => match tkB y k with | true => some v | false => tkGet k d r
noncomputable def getT (x d : SV) (kvs : List (SV × SV)) (σ : St) : R SV := Option.bind (tkOf x) fun k => Option.bind (tkGet k d kvs) fun v => okR v σ
inductive MK where
  | fn (f : Nat) | app | ext | tget | vals | rpart
noncomputable def instKd (name : Str) (c : Nat) (fs : List (Str × SV)) : Option MK := Option.bind (lkN c C.cls) fun r => guardO (noneB (lkS name fs)) <| Option.bind (lkS name r.meths) fun f => some (.fn f)
noncomputable def listKd (name : Str) : Option MK := match sB name "append" with
  | true => some .app
  | false => guardO (sB name "extend") <| some .ext
noncomputable def oneKd (name want : Str) (k : MK) : Option MK := guardO (sB name want) <| some k
noncomputable def objKd (name : Str) (m : MO) : Option MK := match m with
  | .inst c fs => instKd C name c fs
  | .list _ => listKd name
  | .tdict _ => oneKd name "get" .tget
  | .dict _ => oneKd name "values" .vals
  | _ => Option.none
noncomputable def methKd (o : SV) (name : Str) (σ : St) : Option MK := match o with
  | .obj j => Option.bind (σ.get j) fun m => objKd C name m
  | .str _ => oneKd name "rpartition" .rpart
  | _ => Option.none
noncomputable def runApp (o : SV) (args : List SV) (σ : St) : R SV := Option.bind (objOf o) fun j => Option.bind (single args) fun x => Option.bind (asList (σ.get j)) fun l => putL j (l ++ [x]) σ
noncomputable def runExt (o : SV) (args : List SV) (σ : St) : R SV := Option.bind (objOf o) fun j => Option.bind (single args) fun x => Option.bind (asList (σ.get j)) fun l => extendR j l x σ
noncomputable def runGet (o : SV) (args : List SV) (σ : St) : R SV := Option.bind (objOf o) fun j => Option.bind (pair args) fun p => Option.bind (asTd (σ.get j)) fun kvs => forced p.1 σ fun x τ => getT x p.2 kvs τ
noncomputable def runVals (o : SV) (args : List SV) (σ : St) : R SV := Option.bind (objOf o) fun j => guardO (isNil args) <| Option.bind (asDict (σ.get j)) fun _ => newR (.view j) σ
noncomputable def rpartR (p : Str × Str × Str) (σ : St) : R SV := guardO (okS p.1) <| guardO (okS p.2.1) <| guardO (okS p.2.2) <| okR (.tup [.str p.1, .str p.2.1, .str p.2.2]) σ
noncomputable def runRpart (o : SV) (args : List SV) (σ : St) : R SV := Option.bind (strOf o) fun s => Option.bind (single args) fun x => Option.bind (strOf x) fun d => guardO (!Nat.beq d.cps.size 0) <| guardO (Nat.ble s.cps.size 4096) <| rpartR (PySem.Txt.rpartition s d) σ
noncomputable def runM (o : SV) (k : MK) (args : List SV) (σ : St) : R SV := match k with
  | .fn f => S.cl (.top f) (o :: args) σ
  | .app => runApp o args σ
  | .ext => runExt o args σ
  | .tget => runGet o args σ
  | .vals => runVals o args σ
  | .rpart => runRpart o args σ
noncomputable def constOf : PySem.Expr → Option Const
  | .Constant c _ _ => some c
  | _ => Option.none
noncomputable def strC : Const → Option Str
  | .str s => some s
  | _ => Option.none
noncomputable def keyOf (e : PySem.Expr) : Option Str := Option.bind (constOf e) fun c => Option.bind (strC c) fun s => guardO (okS s) <| some s
noncomputable def keysOf : List (Option PySem.Expr) → Option (List Str)
  | [] => some []
  | e :: r => Option.bind e fun e => Option.bind (keyOf e) fun k => Option.bind (keysOf r) fun ks => some (k :: ks)
noncomputable def exprsOf : List (Option PySem.Expr) → Option (List PySem.Expr)
  | [] => some []
  | e :: r => Option.bind e fun e => Option.bind (exprsOf r) fun es => some (e :: es)
noncomputable def zipL {α β : Type} : List α → List β → List (α × β)
  | a :: l, b :: r => (a, b) :: zipL l r
  | _, _ => []
noncomputable def interleave (fm : Fm) : List PySem.Expr → List PySem.Expr → St → R (List (SV × SV))
  | k :: ks, v :: vs, σ => bindR (S.ev fm k σ) fun kv τ => bindR (S.ev fm v τ) fun vv τ' => bindR (interleave fm ks vs τ') fun r τ'' => okR ((kv, vv) :: r) τ''
  | _, _, σ => okR [] σ
noncomputable def isCell1 (o : Option NameKind) : Bool := match o with
  | some .cell => true
  | _ => false
theorem isCell1_some {o : Option NameKind} (h : isCell1 o = true) : o = some .cell := by
  cases o with
  | none => exact tf h
  | some m => cases m <;> first | rfl | exact tf h
noncomputable def relabK (outer : List (Str × NameKind)) (x : Str) (k : NameKind) : NameKind := match k with
  | .free => match isCell1 (lkS x outer) with
    | true => .cell
    | false => .free
  | k => k
noncomputable def relab (outer : List (Str × NameKind)) : List (Str × NameKind) → List (Str × NameKind)
  | [] => []
  | (x, k) :: r => (x, relabK outer x k) :: relab outer r
noncomputable def upTo : Nat → List SV → List SV
  | 0, l => l
  | n + 1, l => upTo n (.int (.ofNat n) :: l)
noncomputable def downFrom : Nat → List SV
  | 0 => [.int (.ofNat 0)]
  | n + 1 => .int (.ofNat (n + 1)) :: downFrom n
noncomputable def notStar : PySem.Expr → Bool
  | .Starred _ _ => false
  | _ => true
theorem star_ok {e : PySem.Expr} {rest : List PySem.Expr} {env : Env} (h : notStar e = true) : starEach (e :: rest) env = (false, eval e env) :: starEach rest env := by cases e <;> first | rfl | exact tf h
noncomputable def plainArgs : Nat → List PySem.Expr → Bool
  | _, [] => true
  | 0, _ => false
  | n + 1, e :: r => match notStar e with | true => plainArgs n r | false => false
noncomputable def srcM (j : Nat) (m : MO) (τ : St) : R Src := match m with
  | .list _ => okR (.lst j) τ
  | .dict kvs => okR (.keys j kvs) τ
  | _ => Option.none
noncomputable def srcV (v : SV) (τ : St) : R Src := match v with
  | .tup l => okR (.fix l) τ
  | .obj j => Option.bind (lkN j τ.heap) fun m => srcM j m τ
  | _ => Option.none
noncomputable def fixR (l : List SV) (τ : St) : R Src := guardO (small l) <| okR (.fix l) τ
noncomputable def isM1 (v : SV) : Bool := match v with
  | .int i => iB i (.negSucc 0)
  | _ => false
noncomputable def downI (a : Int) (τ : St) : R Src := match a with
  | .ofNat n => fixR (downFrom n) τ
  | .negSucc m => guardO (Nat.beq m 0) <| fixR [] τ
noncomputable def downR (v : SV) (p : SV × SV) (τ : St) : R Src := guardO (isM1 p.1) <| guardO (isM1 p.2) <| Option.bind (intOf v) fun a => downI a τ
noncomputable def rangeV (vs : List SV) (τ : St) : R Src := match vs with
  | [] => Option.none
  | v :: r => match r with
    | [] => Option.bind (natOf v) fun n => fixR (upTo n []) τ
    | w :: r => Option.bind (pair (w :: r)) fun p => downR v p τ
noncomputable def enumV (vs : List SV) (τ : St) : R Src := Option.bind (single vs) fun v => Option.bind (objOf v) fun j => Option.bind (asList (τ.get j)) fun _ => okR (.enum j) τ
noncomputable def fnOf (b : Option SV) : Option Bf := match b with
  | some (.fn f) => some f
  | _ => Option.none
theorem fnOf_some {b : Option SV} {f : Bf} (h : fnOf b = some f) : b = some (.fn f) := by
  cases b with
  | none => exact ns h
  | some v => cases v <;> first | ((first | exact ns h | obtain rfl := ss h); rfl) | exact ns h
noncomputable def srcNamed (b : Option SV) (fm : Fm) (args : List PySem.Expr) (e : PySem.Expr) (σ : St) : R Src := match fnOf b with
  | some .range => bindR (evs S fm args σ) rangeV
  | some .enumerate => bindR (evs S fm args σ) enumV
  | _ => bindR (S.ev fm e σ) srcV
noncomputable def callOf : PySem.Expr → Option (PySem.Expr × List PySem.Expr)
  | .Call f args kws _ => guardO (isNil kws) <| some (f, args)
  | _ => Option.none
noncomputable def srcPlain (e : PySem.Expr) : SC := ⟨fun fm σ => bindR (S.ev fm e σ) srcV⟩
noncomputable def callN (e : PySem.Expr) : Option (Str × List PySem.Expr) := Option.bind (callOf e) fun p => Option.bind (nameOfE p.1) fun n => guardO (plainArgs 4 p.2) <| some (n, p.2)
noncomputable def source (C : Cfg) (e : PySem.Expr) : SC := match callN e with
  | some p => ⟨fun fm σ => srcNamed S (nameV C fm p.1 σ) fm p.2 e σ⟩
  | Option.none => srcPlain S e
noncomputable def stuckX : XC := ⟨fun _ _ => Option.none⟩
noncomputable def guardX (b : Bool) (m : XC) : XC := match b with
  | true => m
  | false => stuckX
theorem xm {c : Bool} {m : XC} {fm : Fm} {σ : St} {o : Out Fl} (h : (guardX c m).run fm σ = some o) : c = true ∧ m.run fm σ = some o := by cases c with | true => exact ⟨rfl, h⟩ | false => exact ns h
noncomputable def bindX {α : Type} (o : Option α) (f : α → XC) : XC := match o with
  | some a => f a
  | Option.none => stuckX
theorem oxm {α : Type} {a : Option α} {f : α → XC} {fm : Fm} {σ : St} {o : Out Fl} (h : (bindX a f).run fm σ = some o) : ∃ x, a = some x ∧ (f x).run fm σ = some o := by
  cases a with
  | none => exact ns h
  | some a => exact ⟨a, rfl, h⟩
noncomputable def notSl : PySem.Expr → Bool
  | .Slice _ _ _ _ => false
  | _ => true
noncomputable def swapL (kind : Str → Option NameKind) (targets : List PySem.Expr) (value : PySem.Expr) : Option (Option (List Str)) :=
  match (match targets, value with
    | [.Tuple ts _ _], .Tuple vs _ _ | [.List ts _], .Tuple vs _ _ => some (ts, vs)
    | _, _ => Option.none) with
  | Option.none => some Option.none
  | some (ts, vs) =>
    if !(ts.length == 2 || ts.length == 3) || vs.length != ts.length then some Option.none
    else if vs.any fun | .Starred .. => true | _ => false then some Option.none
    else
      if (ts.filterMap fun
        | .Name id pos => if kind id == some .local && pos.line == (ts.head?.map (·.pos.line)).getD 0 then some id else Option.none
        | _ => Option.none).length != ts.length || (ts.filterMap fun
        | .Name id pos => if kind id == some .local && pos.line == (ts.head?.map (·.pos.line)).getD 0 then some id else Option.none
        | _ => Option.none).eraseDups.length != (ts.filterMap fun
        | .Name id pos => if kind id == some .local && pos.line == (ts.head?.map (·.pos.line)).getD 0 then some id else Option.none
        | _ => Option.none).length then some Option.none
      else if vs.all (foldedForSure 8) then some Option.none
      else if vs.all (constantsAlone 8) then Option.none
      else some (some (ts.filterMap fun
        | .Name id pos => if kind id == some .local && pos.line == (ts.head?.map (·.pos.line)).getD 0 then some id else Option.none
        | _ => Option.none))
noncomputable def storeNs (fm : Fm) : List Str → List SV → St → Option St
  | [], [], σ => some σ
  | x :: xs, v :: vs, σ => Option.bind (storeV fm x v σ) fun τ => storeNs fm xs vs τ
  | _, _, _ => Option.none
noncomputable def storeT (fm : Fm) (ts : List PySem.Expr) (v : SV) (σ : St) : Option St := Option.bind (tupOf v) fun vs => storeAll fm ts vs σ
noncomputable def target (t : PySem.Expr) : TC := match t with
  | .Name x _ => ⟨fun fm v σ => storeV fm x v σ⟩
  | .Tuple ts _ _ => ⟨fun fm v σ => storeT fm ts v σ⟩
  | _ => ⟨fun _ _ _ => Option.none⟩
noncomputable def turn (k : St → R Fl) (f : Fl) (τ : St) : R Fl := match f with
  | .next => k τ
  | .cont => k τ
  | .brk => okR .next τ
  | .ret v => okR (.ret v) τ
noncomputable def numbered (k : Nat) (o : Option SV) : Option SV := Option.bind o fun v => some (.tup [.int (.ofNat k), v])
noncomputable def itemAt (src : Src) (k : Nat) (σ : St) : Option (Option SV) := match src with
  | .fix l => some (getAt k l)
  | .lst j => Option.bind (listOfObj σ (.obj j)) fun l => some (getAt k l)
  | .enum j => Option.bind (listOfObj σ (.obj j)) fun l => some (numbered k (getAt k l))
  | .keys _ _ => Option.none
noncomputable def keysIn : List (Str × SV) → List SV
  | [] => []
  | (x, _) :: r => .str x :: keysIn r
noncomputable def backKs {α : Type} (j : Nat) (kvs : List (Str × SV)) : Out α → Option (Out α)
  | [] => some []
  | (r, τ) :: l => guardO (isHole (lkN j τ.heap)) <| Option.bind (backKs j kvs l) fun o => some ((r, { τ with heap := ptN j (.dict kvs) τ.heap }) :: o)
noncomputable def backK {α : Type} (j : Nat) (kvs : List (Str × SV)) (m : R α) : R α := Option.bind m fun o => backKs j kvs o
noncomputable def loopS (fm : Fm) (t : PySem.Expr) (body : List Stmt) (src : Src) : Nat → Nat → St → R Fl
  | 0, _, _ => Option.none
  | n + 1, k, σ => Option.bind (itemAt src k σ) fun o => match o with
    | Option.none => okR .next σ
    | some v => Option.bind ((target t).run fm v σ) fun τ => bindR (S.xs fm body τ) (turn (loopS fm t body src n (k + 1)))
noncomputable def constV (c : Const) : Option SV := match c with
  | .none => some .none
  | .bool b => some (.bool b)
  | .int i => some (.int i)
  | .str s => guardO (okS s) <| some (.str s)
  | _ => Option.none
noncomputable def stuckE : EC := ⟨fun _ _ => Option.none⟩
noncomputable def guardE (b : Bool) (m : EC) : EC := match b with
  | true => m
  | false => stuckE
theorem em {c : Bool} {m : EC} {fm : Fm} {σ : St} {o : Out SV} (h : (guardE c m).run fm σ = some o) : c = true ∧ m.run fm σ = some o := by cases c with | true => exact ⟨rfl, h⟩ | false => exact ns h
noncomputable def bindE {α : Type} (o : Option α) (f : α → EC) : EC := match o with
  | some a => f a
  | Option.none => stuckE
theorem oem {α : Type} {a : Option α} {f : α → EC} {fm : Fm} {σ : St} {o : Out SV} (h : (bindE a f).run fm σ = some o) : ∃ x, a = some x ∧ (f x).run fm σ = some o := by
  cases a with
  | none => exact ns h
  | some a => exact ⟨a, rfl, h⟩
noncomputable def evConst (c : Const) : EC := bindE (constV c) fun v => ⟨fun _ σ => okR v σ⟩
noncomputable def evTuple (fm : Fm) (es : List PySem.Expr) (σ : St) : R SV := bindR (evs S fm es σ) fun vs τ => tupR vs τ
noncomputable def evList (fm : Fm) (es : List PySem.Expr) (σ : St) : R SV := bindR (evs S fm es σ) fun vs τ => newL vs τ
noncomputable def memS (x : Str) : List Str → Bool
  | [] => false
  | y :: r => match sB x y with | true => true | false => memS x r
noncomputable def nodupS : List Str → Bool
  | [] => true
  | x :: r => match memS x r with | true => false | false => nodupS r
noncomputable def putR (j : Nat) (o : MO) (σ : St) : R SV := Option.bind (asDict (lkN j σ.heap)) fun l => guardO (isNil l) <| okR (.obj j) { σ with heap := ptN j o σ.heap }
noncomputable def evDictS (fm : Fm) (names : List Str) (vs : List PySem.Expr) (σ : St) : R SV := bindR (evs S fm vs (σ.new (.dict []))) fun vs τ => putR σ.next (.dict (zipL names vs)) τ
noncomputable def putT (j : Nat) (kvs : List (SV × SV)) (σ : St) : R SV := Option.bind (asTd (lkN j σ.heap)) fun l => guardO (isNil l) <| Option.bind (tkKeys kvs) fun ks => guardO (tkNodup ks) <| okR (.obj j) { σ with heap := ptN j (.tdict kvs) σ.heap }
noncomputable def evDictT (fm : Fm) (ks vs : List PySem.Expr) (σ : St) : R SV := guardO (!isNil ks) <| guardO (Nat.beq ks.length vs.length) <| guardO (Nat.ble ks.length 15) <| bindR (interleave S fm ks vs (σ.new (.tdict []))) (putT σ.next)
noncomputable def evDictG (names : List Str) (vs : List PySem.Expr) : EC := guardE (nodupS names) <| guardE (Nat.beq names.length vs.length) <| guardE (Nat.ble names.length 15) ⟨fun fm σ => evDictS S fm names vs σ⟩
noncomputable def evDict (ks : List (Option PySem.Expr)) (vs : List PySem.Expr) : EC := match isNil ks with
  | true => guardE (isNil vs) ⟨fun _ σ => newR (.dict []) σ⟩
  | false => match keysOf ks with
    | some names => evDictG S names vs
    | Option.none => bindE (exprsOf ks) fun kes => ⟨fun fm σ => evDictT S fm kes vs σ⟩
noncomputable def notBare : PySem.Expr → Bool
  | .Call _ [] _ _ => false
  | _ => true
noncomputable def evAttr (fm : Fm) (o : PySem.Expr) (x : Str) (σ : St) : R SV := bindR (S.ev fm o σ) fun v τ => retO (field v x τ) τ
noncomputable def evSub (fm : Fm) (o i : PySem.Expr) (σ : St) : R SV := bindR (S.ev fm o σ) fun v τ => bindR (S.ev fm i τ) fun iv τ' => subscr v iv τ'
noncomputable def cutR (v k : SV) (σ : St) : R SV := Option.bind (listOfObj σ v) fun l => Option.bind (natOf k) fun n => guardR (small l) (newL (l.take n) σ)
noncomputable def evSlice (o : PySem.Expr) (lo hi st : Option PySem.Expr) : EC := guardE (noneB lo) <| guardE (noneB st) <| bindE hi fun k => bindE (nameOfE o) fun _ => ⟨fun fm σ => bindR (S.ev fm o σ) fun v τ => bindR (S.ev fm k τ) fun kv τ' => cutR v kv τ'⟩
noncomputable def evSubscript (o i : PySem.Expr) : EC := match i with
  | .Slice lo hi st _ => evSlice S o lo hi st
  | i => ⟨fun fm σ => evSub S fm o i σ⟩
noncomputable def evBin (fm : Fm) (l : PySem.Expr) (op : Operator) (r : PySem.Expr) (σ : St) : R SV := bindR (S.ev fm l σ) fun a τ => bindR (S.ev fm r τ) fun b τ' => binop op a b τ'
noncomputable def boolR (m : R Bool) : R SV := bindR m fun c τ => okR (.bool c) τ
noncomputable def evUn (fm : Fm) (op : UnaryOp) (x : PySem.Expr) (σ : St) : R SV := match op with
  | .Not => bindR (S.ev fm x σ) fun v τ => boolR (notR (truth v τ))
  | .USub => bindR (S.ev fm x σ) fun v τ => Option.bind (intOf v) fun i => okR (.int (-i)) τ
  | _ => Option.none
noncomputable def cmpT (fm : Fm) (l : PySem.Expr) (op : CmpOp) (r : PySem.Expr) (σ : St) : R Bool := bindR (S.ev fm l σ) fun a τ => bindR (S.ev fm r τ) fun b τ' => compare op a b τ'
noncomputable def cmpC (l : PySem.Expr) (ops : List CmpOp) (rs : List PySem.Expr) : BC := ⟨fun fm σ => Option.bind (single ops) fun op => Option.bind (single rs) fun r => guardO (!behindInMarks op r) <| cmpT S fm l op r σ⟩
noncomputable def evCmp (l : PySem.Expr) (ops : List CmpOp) (rs : List PySem.Expr) : EC := ⟨fun fm σ => boolR ((cmpC S l ops rs).run fm σ)⟩
noncomputable def goesOn (op : BoolOp) (c : Bool) : Bool := match op with
  | .And => c
  | .Or => !c
noncomputable def evBool (fm : Fm) (op : BoolOp) (es : List PySem.Expr) (p : Pos) (σ : St) : R SV := match es with
  | [] => Option.none
  | x :: rest => match rest with
    | [] => S.ev fm x σ
    | y :: rest => bindR (S.ev fm x σ) fun v τ => bindR (truth v τ) fun c τ' => match goesOn op c with
      | true => S.ev fm (.BoolOp op (y :: rest) p) τ'
      | false => okR (.bool c) τ'
noncomputable def pick (fm : Fm) (c : Bool) (a b : PySem.Expr) (τ : St) : R SV := match c with
  | true => S.ev fm a τ
  | false => S.ev fm b τ
noncomputable def evIf (fm : Fm) (t a b : PySem.Expr) (σ : St) : R SV := bindR (S.ts fm t σ) fun c τ => pick S fm c a b τ
noncomputable def isFunK : ScopeKind → Bool
  | .function => true
  | _ => false
noncomputable def plainSc (sc : Scope) : Bool := and (isFunK sc.kind) (and (!sc.isGenerator) (!sc.isCoroutine))
inductive CSrc where
  | list (e : PySem.Expr) | range (f : Str) (e : PySem.Expr)
noncomputable def rangeArg (e : PySem.Expr) : Option (Str × PySem.Expr) := Option.bind (callOf e) fun p => Option.bind (nameOfE p.1) fun n => Option.bind (single p.2) fun a => guardO (sB n "range") <| some (n, a)
noncomputable def csrc (e : PySem.Expr) : CSrc := match rangeArg e with
  | some p => .range p.1 p.2
  | Option.none => .list e
noncomputable def allOkV : Out SV → Bool
  | [] => true
  | (.ok _, _) :: r => allOkV r
  | (.ex _ _, _) :: _ => false
noncomputable def okOnlyV (m : R SV) : R SV := Option.bind m fun o => guardO (allOkV o) <| some o
noncomputable def compI (fm : Fm) (x : Str) (elt : PySem.Expr) : List SV → St → R (List SV)
  | [], σ => okR [] σ
  | v :: vs, σ => bindR (okOnlyV (S.ev { fm with cv := some (x, v) } elt σ)) fun y τ => bindR (compI fm x elt vs τ) fun ys τ' => okR (y :: ys) τ'
noncomputable def compL (fm : Fm) (x : Str) (elt : PySem.Expr) (names : List (Str × NameKind)) (l : List SV) (τ : St) : R SV := guardO (small l) <| bindR (compI S { fm with names := relab fm.names names } x elt l τ) fun ys τ' => newL ys τ'
noncomputable def backL (j : Nat) (l : List SV) (ys : List SV) (σ : St) : R SV := guardO (isHole (lkN j σ.heap)) <| newL ys { σ with heap := ptN j (.list l) σ.heap }
noncomputable def compH (fm : Fm) (x : Str) (elt : PySem.Expr) (names : List (Str × NameKind)) (j : Nat) (l : List SV) (τ : St) : R SV := guardO (small l) <| bindR (compI S { fm with names := relab fm.names names } x elt l { τ with heap := ptN j .hole τ.heap }) fun ys τ' => backL j l ys τ'
noncomputable def srcH (v : SV) (τ : St) : Option (Nat × List SV) := Option.bind (objOf v) fun j => Option.bind (asList (lkN j τ.heap)) fun l => some (j, l)
noncomputable def evCompList (fm : Fm) (elt : PySem.Expr) (x : Str) (iter : PySem.Expr) (names : List (Str × NameKind)) (σ : St) : R SV := bindR (S.ev fm iter σ) fun src τ => Option.bind (srcH src τ) fun p => compH S fm x elt names p.1 p.2 τ
noncomputable def compR (fm : Fm) (elt : PySem.Expr) (x : Str) (names : List (Str × NameKind)) (v : SV) (τ : St) : R SV := Option.bind (natOf v) fun n => compL S fm x elt names (upTo n []) τ
noncomputable def isRangeFn (o : Option SV) : Bool := match fnOf o with
  | some .range => true
  | _ => false
noncomputable def evCompRange (fm : Fm) (elt : PySem.Expr) (x f : Str) (a : PySem.Expr) (names : List (Str × NameKind)) (σ : St) : R SV := guardO (isRangeFn (nameV C fm f σ)) <| bindR (S.ev fm a σ) fun v τ => compR S fm elt x names v τ
noncomputable def goodName (x : Str) : Bool := and (!sB x "__debug__") (!sB x "__classdict__")
noncomputable def isLocalK : Option NameKind → Bool
  | some .local => true
  | _ => false
noncomputable def isCellK : Option NameKind → Bool
  | some .cell => true
  | some .free => true
  | _ => false
noncomputable def fromCells (fm : Fm) (y : Str) : Bool := and (isCellK (lkS y fm.names)) (lkS y fm.cells).isSome
noncomputable def compK (all : List (Str × NameKind)) (fm : Fm) (y : Str) (k : NameKind) : Bool := match k with
  | .globalImplicit => true
  | .local => isLocalK (lkS y all)
  | .free => fromCells fm y
  | _ => false
noncomputable def compNames (all : List (Str × NameKind)) (fm : Fm) : List (Str × NameKind) → Bool
  | [] => true
  | (y, k) :: r => and (goodName y) (and (compK all fm y k) (compNames all fm r))
noncomputable def guardC (x : Str) (names : List (Str × NameKind)) (k : Fm → St → R SV) : EC := ⟨fun fm σ => guardO (isLocalK (lkS x names)) <| guardO (compNames names fm names) <| guardO (noneB fm.cv) <| k fm σ⟩
noncomputable def notSet : PySem.Expr → Bool
  | .Set _ _ _ => false
  | _ => true
noncomputable def evCompX (elt : PySem.Expr) (x : Str) (iter : PySem.Expr) (names : List (Str × NameKind)) : EC := match csrc iter with
  | .list e => guardE (notSet e) <| guardC x names fun fm σ => evCompList S fm elt x e names σ
  | .range f a => guardC x names fun fm σ => evCompRange C S fm elt x f a names σ
noncomputable def compOf (gs : List Comprehension) : Option (Str × PySem.Expr) := Option.bind (single gs) fun g => Option.bind (nameOfE g.target) fun x => guardO (isNil g.ifs) <| guardO (iB g.is_async (.ofNat 0)) <| some (x, g.iter)
noncomputable def evComp (elt : PySem.Expr) (gs : List Comprehension) (sc : Scope) : EC := guardE (plainSc sc) <| bindE (compOf gs) fun p => evCompX C S elt p.1 p.2 sc.names
noncomputable def noParams (a : Arguments) : Bool := and (isNil a.posonlyargs) (and (isNil a.args) (and (noneB a.vararg) (and (isNil a.kwonlyargs) (and (isNil a.kw_defaults) (and (noneB a.kwarg) (isNil a.defaults))))))
noncomputable def lamK (fm : Fm) (x : Str) (k : NameKind) : Bool := match k with
  | .globalImplicit => true
  | .free => fromCells fm x
  | _ => false
noncomputable def lamNames (fm : Fm) : List (Str × NameKind) → Bool
  | [] => true
  | (x, k) :: r => and (goodName x) (and (lamK fm x k) (lamNames fm r))
noncomputable def lamR (body : PySem.Expr) (names : List (Str × NameKind)) (fm : Fm) (σ : St) : R SV := guardO (noneB fm.cv) <| guardO (lamNames fm names) <| Option.bind fm.tab fun j => guardO (isTab (lkN j σ.heap)) <| Option.bind (σ.put j (.tab false)) fun τ => newR (.lam body names fm.cells) τ
noncomputable def evLam (ps : Arguments) (body : PySem.Expr) (sc : Scope) : EC := guardE (noParams ps) <| guardE (plainSc sc) ⟨fun fm σ => lamR body sc.names fm σ⟩
noncomputable def evMeth (fm : Fm) (o : PySem.Expr) (name : Str) (args : List PySem.Expr) (σ : St) : R SV := bindR (S.ev fm o σ) fun v τ => Option.bind (methKd C v name τ) fun k => bindR (evs S fm args τ) fun vs τ' => runM S v k vs τ'
noncomputable def evCallF (fm : Fm) (f : PySem.Expr) (args : List PySem.Expr) (σ : St) : R SV := bindR (S.ev fm f σ) fun f τ => bindR (evs S fm args τ) fun vs τ' => S.cl f vs τ'
noncomputable def evCallA (o : PySem.Expr) (name : Str) (args : List PySem.Expr) (ap p : Pos) : EC := guardE (notBare o) <| guardE (Nat.beq ap.endLine p.line) ⟨fun fm σ => evMeth C S fm o name args σ⟩
noncomputable def evCallE (f : PySem.Expr) (args : List PySem.Expr) (p : Pos) : EC := match f with
  | .Attribute o name ap => evCallA C S o name args ap p
  | .Name _ _ => ⟨fun fm σ => evCallF S fm f args σ⟩
  | _ => stuckE
noncomputable def evCall (f : PySem.Expr) (args : List PySem.Expr) (kws : List Keyword) (p : Pos) : EC := guardE (isNil kws) <| guardE (plainArgs 28 args) <| evCallE C S f args p
noncomputable def evC (e : PySem.Expr) : EC := match e with
  | .Constant c _ _ => evConst c
  | .Name x _ => ⟨fun fm σ => retO (nameV C fm x σ) σ⟩
  | .Tuple es _ _ => ⟨fun fm σ => evTuple S fm es σ⟩
  | .List es _ => ⟨fun fm σ => evList S fm es σ⟩
  | .Dict ks vs _ => evDict S ks vs
  | .Attribute o x _ => guardE (notBare o) ⟨fun fm σ => evAttr S fm o x σ⟩
  | .Subscript o i _ => evSubscript S o i
  | .BinOp l op r _ => ⟨fun fm σ => evBin S fm l op r σ⟩
  | .UnaryOp op x _ => ⟨fun fm σ => evUn S fm op x σ⟩
  | .Compare l ops rs _ => evCmp S l ops rs
  | .BoolOp op es p => ⟨fun fm σ => evBool S fm op es p σ⟩
  | .IfExp t a b _ => ⟨fun fm σ => evIf S fm t a b σ⟩
  | .ListComp elt gs sc _ => evComp C S elt gs sc
  | .Lambda ps body sc _ => evLam ps body sc
  | .Call f args kws p => evCall C S f args kws p
  | _ => stuckE
noncomputable def evStep (fm : Fm) (e : PySem.Expr) (σ : St) : R SV := (evC C S e).run fm σ
noncomputable def tsBool (fm : Fm) (op : BoolOp) (es : List PySem.Expr) (p : Pos) (σ : St) : R Bool := match es with
  | [] => okR (match op with | .And => true | .Or => false) σ
  | x :: rest => bindR (S.ts fm x σ) fun c τ => match goesOn op c with
    | true => S.ts fm (.BoolOp op rest p) τ
    | false => okR c τ
noncomputable def tsPick (fm : Fm) (c : Bool) (a b : PySem.Expr) (τ : St) : R Bool := match c with
  | true => S.ts fm a τ
  | false => S.ts fm b τ
noncomputable def tsIf (fm : Fm) (t a b : PySem.Expr) (σ : St) : R Bool := bindR (S.ts fm t σ) fun c τ => tsPick S fm c a b τ
noncomputable def tsEv (fm : Fm) (e : PySem.Expr) (σ : St) : R Bool := bindR (S.ev fm e σ) fun v τ => truth v τ
noncomputable def tsUn (fm : Fm) (op : UnaryOp) (x e : PySem.Expr) (σ : St) : R Bool := match op with
  | .Not => notR (S.ts fm x σ)
  | _ => tsEv S fm e σ
noncomputable def tsC (e : PySem.Expr) : BC := match e with
  | .UnaryOp op x _ => ⟨fun fm σ => tsUn S fm op x e σ⟩
  | .BoolOp op es p => ⟨fun fm σ => tsBool S fm op es p σ⟩
  | .IfExp t a b _ => ⟨fun fm σ => tsIf S fm t a b σ⟩
  | .Compare l ops rs _ => cmpC S l ops rs
  | e => ⟨fun fm σ => tsEv S fm e σ⟩
noncomputable def tsStep (fm : Fm) (e : PySem.Expr) (σ : St) : R Bool := (tsC S e).run fm σ
noncomputable def hasFld (C : Cfg) (c : Nat) (x : Str) : Bool := match lkN c C.cls with
  | some r => memS x r.flds
  | Option.none => false
noncomputable def putFld (j c : Nat) (fs : List (Str × SV)) (x : Str) (v : SV) (σ : St) : Option St := guardO (hasFld C c x) <| guardO (small fs) <| σ.put j (.inst c (ptS x v fs))
noncomputable def setField (ov : SV) (x : Str) (v : SV) (σ : St) : Option St := Option.bind (objOf ov) fun j => Option.bind (asInst (σ.get j)) fun p => putFld C j p.1 p.2 x v σ
noncomputable def setKey (ov iv v : SV) (σ : St) : Option St := Option.bind (objOf ov) fun j => Option.bind (strOf iv) fun s => Option.bind (asDict (σ.get j)) fun kvs => guardO (small kvs) <| σ.put j (.dict (ptS s v kvs))
noncomputable def exSetA (fm : Fm) (o : PySem.Expr) (x : Str) (e : PySem.Expr) (σ : St) : R Fl := bindR (S.ev fm e σ) fun v τ => bindR (S.ev fm o τ) fun ov τ' => nextR (setField C ov x v τ')
noncomputable def exSetS (fm : Fm) (o i e : PySem.Expr) (σ : St) : R Fl := bindR (S.ev fm e σ) fun v τ => bindR (S.ev fm o τ) fun ov τ' => bindR (S.ev fm i τ') fun iv τ'' => nextR (setKey ov iv v τ'')
noncomputable def notComp : PySem.Expr → Bool
  | .ListComp _ _ _ _ => false
  | .SetComp _ _ _ _ => false
  | .DictComp _ _ _ _ _ => false
  | _ => true
noncomputable def storeR (fm : Fm) (xs : List Str) (v : SV) (σ : St) : Option St := Option.bind (tupOf v) fun vs => storeNs fm xs.reverse vs.reverse σ
noncomputable def exTup (fm : Fm) (t : PySem.Expr) (ts : List PySem.Expr) (e : PySem.Expr) (σ : St) : R Fl := Option.bind (swapL (fun x => lkS x fm.names) [t] e) fun o => match o with
  | Option.none => bindR (S.ev fm e σ) fun v τ => nextR (storeT fm ts v τ)
  | some xs => bindR (S.ev fm e σ) fun v τ => nextR (storeR fm xs v τ)
noncomputable def exName (fm : Fm) (x : Str) (e : PySem.Expr) (σ : St) : R Fl := bindR (S.ev fm e σ) fun v τ => nextR (storeV fm x v τ)
noncomputable def exAssign1 (t e : PySem.Expr) : XC := match t with
  | .Attribute o x _ => guardX (notBare o) ⟨fun fm σ => exSetA C S fm o x e σ⟩
  | .Subscript o i _ => guardX (notSl i) ⟨fun fm σ => exSetS S fm o i e σ⟩
  | .Tuple ts _ _ => ⟨fun fm σ => exTup S fm t ts e σ⟩
  | .Name x _ => guardX (notComp e) ⟨fun fm σ => exName S fm x e σ⟩
  | _ => stuckX
noncomputable def exAssign (ts : List PySem.Expr) (e : PySem.Expr) : XC := bindX (single ts) fun t => exAssign1 C S t e
noncomputable def exPick (fm : Fm) (c : Bool) (a b : List Stmt) (τ : St) : R Fl := match c with
  | true => S.xs fm a τ
  | false => S.xs fm b τ
noncomputable def exIf (fm : Fm) (t : PySem.Expr) (a b : List Stmt) (σ : St) : R Fl := bindR (S.ts fm t σ) fun c τ => exPick S fm c a b τ
noncomputable def turnW (fm : Fm) (body : List Stmt) (k : St → R Fl) (c : Bool) (τ : St) : R Fl := match c with
  | false => okR .next τ
  | true => bindR (S.xs fm body τ) (turn k)
noncomputable def loopW (fm : Fm) (t : PySem.Expr) (body : List Stmt) : Nat → St → R Fl
  | 0, _ => Option.none
  | n + 1, σ => bindR (S.ts fm t σ) (turnW S fm body (loopW fm t body n))
noncomputable def exWhile (fm : Fm) (t : PySem.Expr) (body orelse : List Stmt) (σ : St) : R Fl := guardO (isNil orelse) <| loopW S fm t body 64 σ
noncomputable def isTupT : PySem.Expr → Bool
  | .Tuple _ _ _ => true
  | _ => false
noncomputable def exLoop (fm : Fm) (t : PySem.Expr) (body : List Stmt) (src : Src) (τ : St) : R Fl := match src with
  | .keys j kvs => backK j kvs (loopS S fm t body (.fix (keysIn kvs)) 64 0 { τ with heap := ptN j .hole τ.heap })
  | .enum j => guardO (isTupT t) <| loopS S fm t body (.enum j) 64 0 τ
  | .lst j => loopS S fm t body (.lst j) 64 0 τ
  | .fix l => loopS S fm t body (.fix l) 64 0 τ
noncomputable def exFor (fm : Fm) (t iter : PySem.Expr) (body orelse : List Stmt) (σ : St) : R Fl := guardO (isNil orelse) <| guardO (notSet iter) <| bindR ((source S C iter).run fm σ) (exLoop S fm t body)
noncomputable def topOf : SV → Option Nat
  | .top a => some a
  | _ => Option.none
noncomputable def exRaise2 (fm : Fm) (c : Str) (m sp : PySem.Expr) (σ : St) : R Fl := Option.bind (nameV C fm c σ) fun cv => Option.bind (topOf cv) fun a => Option.bind (lkN a C.excs) fun _ => bindR (S.ev fm m σ) fun _ τ => bindR (S.ev fm sp τ) fun v τ' => some [(.ex a v, τ')]
noncomputable def exRaise1 (f : PySem.Expr) (args : List PySem.Expr) : XC := bindX (nameOfE f) fun c => bindX (pair args) fun p => guardX (plainArgs 2 args) ⟨fun fm σ => exRaise2 C S fm c p.1 p.2 σ⟩
noncomputable def exRaise (x cause : Option PySem.Expr) : XC := guardX (noneB cause) <| bindX x fun e => bindX (callOf e) fun p => exRaise1 C S p.1 p.2
noncomputable def allOk : Out Fl → Bool
  | [] => true
  | (.ok _, _) :: r => allOk r
  | (.ex _ _, _) :: _ => false
noncomputable def okOnly (m : R Fl) : R Fl := Option.bind m fun o => guardO (allOk o) <| some o
noncomputable def exTry (fm : Fm) (body : List Stmt) (hs : List ExceptHandler) (orelse fin : List Stmt) (σ : St) : R Fl := guardO (!isNil hs) <| guardO (isNil orelse) <| guardO (isNil fin) <| okOnly (S.xs fm body σ)
noncomputable def exReturn (fm : Fm) (e : Option PySem.Expr) (σ : St) : R Fl := match e with
  | some e => bindR (S.ev fm e σ) fun v τ => okR (.ret v) τ
  | Option.none => okR (.ret .none) σ
noncomputable def exC (st : Stmt) : XC := match st with
  | .Pass _ => ⟨fun _ σ => okR .next σ⟩
  | .Expr e _ => guardX (notComp e) ⟨fun fm σ => bindR (S.ev fm e σ) fun _ τ => okR .next τ⟩
  | .Return e _ => ⟨fun fm σ => exReturn S fm e σ⟩
  | .Assign ts e _ => exAssign C S ts e
  | .If t a b _ => ⟨fun fm σ => exIf S fm t a b σ⟩
  | .While t body orelse _ => ⟨fun fm σ => exWhile S fm t body orelse σ⟩
  | .For t iter body orelse _ => ⟨fun fm σ => exFor C S fm t iter body orelse σ⟩
  | .Raise x c _ => exRaise C S x c
  | .Try body hs orelse fin _ => ⟨fun fm σ => exTry S fm body hs orelse fin σ⟩
  | _ => stuckX
noncomputable def exStep (fm : Fm) (st : Stmt) (σ : St) : R Fl := (exC C S st).run fm σ
noncomputable def xsStep (fm : Fm) : List Stmt → St → R Fl
  | [], σ => okR .next σ
  | st :: r, σ => bindR (exStep C S fm st σ) fun f τ => match f with
    | .next => xsStep fm r τ
    | f => okR f τ
noncomputable def openCells (binds : List (Str × SV)) : List (Str × NameKind) → St → List (Str × Nat) × St
  | [], σ => ([], σ)
  | (x, k) :: r, σ => match k with
    | .cell => ((x, σ.next) :: (openCells binds r (σ.new (.cell (lkS x binds)))).1, (openCells binds r (σ.new (.cell (lkS x binds)))).2)
    | _ => openCells binds r σ
noncomputable def bindArgs (names : List Str) (dfl : List SV) (args : List SV) : Option (List (Str × SV)) :=
  guardO (Nat.ble args.length names.length) <| guardO (Nat.ble (names.length - args.length) dfl.length) <| some (zipL names (args ++ dfl.drop (dfl.length - (names.length - args.length))))
noncomputable def localsOf (names : List (Str × NameKind)) : List (Str × SV) → List (Str × SV)
  | [] => []
  | (x, v) :: r => match isLocalK (lkS x names) with
    | true => (x, v) :: localsOf names r
    | false => localsOf names r
noncomputable def dropNew (n : Nat) : List (Nat × MO) → List (Nat × MO)
  | [] => []
  | (j, o) :: r => match Nat.blt j n with
    | true => (j, o) :: r
    | false => dropNew n r
noncomputable def framed (σ : St) : St := { σ with next := σ.next + 1, froz := (σ.next, .frame) :: σ.froz }
noncomputable def backTo {α : Type} (env : List (Str × SV)) (fz : List (Nat × MO)) : Out α → Out α
  | [] => []
  | (r, σ) :: l => (r, { σ with env := env, froz := fz }) :: backTo env fz l
noncomputable def dropAll {α : Type} (n : Nat) : Out α → Out α
  | [] => []
  | (r, σ) :: l => (r, { σ with heap := dropNew n σ.heap }) :: dropAll n l
noncomputable def gcR {α : Type} (gc : Bool) (n : Nat) (m : R α) : R α := match gc with
  | true => Option.bind m fun o => some (dropAll n o)
  | false => m
noncomputable def backR {α : Type} (env : List (Str × SV)) (fz : List (Nat × MO)) (m : R α) : R α := Option.bind m fun o => some (backTo env fz o)
noncomputable def triedAll : Out SV → R SV
  | [] => some []
  | (.ok v, τ) :: r => Option.bind (triedAll r) fun o => some ((.ok v, τ) :: o)
  | (.ex c v, τ) :: r => Option.bind (lkN c C.excs) fun n => Option.bind (triedAll r) fun o => some ((.ok (.tup [.str n, v]), τ) :: o)
noncomputable def triedR (args : List SV) (σ : St) : R SV := Option.bind (single args) fun g => Option.bind (S.cl g [] { framed σ with env := [] }) fun l => backR σ.env σ.froz (triedAll C l)
noncomputable def fromFl (f : Fl) (τ : St) : R SV := match f with
  | .ret v => okR v τ
  | .next => okR .none τ
  | _ => Option.none
noncomputable def clBody (fr : FnRec) (binds : List (Str × SV)) (env : List (Str × SV)) (fz : List (Nat × MO)) (cs : List (Str × Nat) × St) : R SV :=
  backR env fz (bindR (S.xs ⟨fr.names, cs.1, Option.none, fr.tab⟩ fr.body { cs.2 with env := localsOf fr.names binds }) fromFl)
noncomputable def clFn (fr : FnRec) (args : List SV) (σ : St) : R SV := Option.bind (bindArgs fr.params fr.dfl args) fun binds => gcR fr.gc σ.next (clBody S fr binds σ.env σ.froz (openCells binds fr.names (framed σ)))
noncomputable def doneInit (j : Nat) (v : SV) (τ : St) : R SV := match v with
  | .none => okR (.obj j) τ
  | _ => Option.none
noncomputable def clCls (a : Nat) (cr : ClsRec) (args : List SV) (σ : St) : R SV := Option.bind (lkN cr.init C.fns) fun fr => bindR (clFn S fr (.obj σ.next :: args) (σ.new (.inst a []))) (doneInit σ.next)
noncomputable def clTop (a : Nat) (args : List SV) (σ : St) : R SV := match C.prim a args σ with
  | some m => m
  | Option.none => match Nat.beq a C.tried with
    | true => triedR C S args σ
    | false => match lkN a C.fns with
      | some fr => clFn S fr args σ
      | Option.none => Option.bind (lkN a C.cls) fun cr => clCls C S a cr args σ
noncomputable def clLam (m : Option MO) (args : List SV) (σ : St) : R SV := guardO (isNil args) <| Option.bind (asLam m) fun p => backR σ.env σ.froz (S.ev ⟨p.2.1, p.2.2, Option.none, Option.none⟩ p.1 { framed σ with env := [] })
noncomputable def clStep (f : SV) (args : List SV) (σ : St) : R SV := match f with
  | .top a => clTop C S a args σ
  | .obj j => clLam S (σ.get j) args σ
  | .fn b => builtin b args σ
  | _ => Option.none
end
noncomputable def sem (C : Cfg) : Nat → Sems
  | 0 => ⟨fun _ _ _ => Option.none, fun _ _ _ => Option.none, fun _ _ _ => Option.none, fun _ _ _ => Option.none⟩
  | n + 1 => ⟨evStep C (sem C n), tsStep (sem C n), xsStep C (sem C n), clStep C (sem C n)⟩
end Mine
end
section
open PySem PySem.W PyProof.Rows
set_option tactic.hygienic false
set_option maxRecDepth 100000
namespace Mine
noncomputable abbrev pwE : Program := PySem.Challenge.pw_xm0202_01
noncomputable def stAt (i : Nat) : Stmt := (getAt i pwE.main.body).getD (.Pass ⟨0, 0, 0, 0⟩)
noncomputable def recOf (d : List SV) (gc : Bool) (tb : Option Nat) : Stmt → FnRec
  | .FunctionDef _ args body _ _ _ sc _ _ _ => ⟨args.args.map (·.arg), d, body, sc.names, gc, tb⟩
  | _ => ⟨[], [], [], [], gc, tb⟩
noncomputable def fnAt (i : Nat) (d : List SV) (gc : Bool) (tb : Option Nat := none) : FnRec := recOf d gc tb (stAt i)
noncomputable def bodyOf : Stmt → List Stmt
  | .ClassDef _ _ _ body _ _ _ _ _ _ _ => body
  | _ => []
noncomputable def methAt (i k : Nat) (d : List SV) (gc : Bool) : FnRec := recOf d gc none ((getAt k (bodyOf (stAt i))).getD (.Pass ⟨0, 0, 0, 0⟩))
noncomputable def globT : List (Str × SV) := [(Str.ofString "is_named", SV.top 78),
  (Str.ofString "is_untyped", SV.top 85),
  (Str.ofString "is_interface", SV.top 99),
  (Str.ofString "is_truth", SV.top 120),
  (Str.ofString "underlying_of", SV.top 71),
  (Str.ofString "type_text", SV.top 64),
  (Str.ofString "own_methods", SV.top 259),
  (Str.ofString "members_at", SV.top 264),
  (Str.ofString "embedded_in", SV.top 271),
  (Str.ofString "start_type", SV.top 306),
  (Str.ofString "find_member", SV.top 313),
  (Str.ofString "names_of_methods", SV.top 320),
  (Str.ofString "member_or_none", SV.top 327),
  (Str.ofString "is_in_set", SV.top 332),
  (Str.ofString "method_set", SV.top 339),
  (Str.ofString "lack_of", SV.top 346),
  (Str.ofString "implements", SV.top 353),
  (Str.ofString "want_possible", SV.top 381),
  (Str.ofString "is_like_chan", SV.top 490),
  (Str.ofString "meets_face", SV.top 497),
  (Str.ofString "is_assignable", SV.top 505),
  (Str.ofString "is_blank_name", SV.top 876),
  (Str.ofString "truth_as", SV.top 888),
  (Str.ofString "begun_loop", SV.top 916),
  (Str.ofString "place_led_to", SV.top 923),
  (Str.ofString "known_rows", SV.top 1313),
  (Str.ofString "_law_plain", SV.top 1384),
  (Str.ofString "_law_checker", SV.top 1391),
  (Str.ofString "_law_tree", SV.top 1398),
  (Str.ofString "_law_truth_right", SV.top 1405),
  (Str.ofString "_law_loops_right", SV.top 1410),
  (Str.ofString "_law_way_right", SV.top 1415),
  (Str.ofString "_law_cases_right", SV.top 1420),
  (Str.ofString "law", SV.top 1425),
  (Str.ofString "has_calls", SV.top 881),
  (Str.ofString "_law_reel", SV.top 1356),
  (Str.ofString "_law_wound", SV.top 1363),
  (Str.ofString "_law_one", SV.top 1370),
  (Str.ofString "_law_tried", SV.top 1377),
  (Str.ofString "Reached", SV.top 234),
  (Str.ofString "Levels", SV.top 295),
  (Str.ofString "LoopRow", SV.top 905),
  (Str.ofString "Breakable", SV.top 1066),
  (Str.ofString "Scope", SV.top 1160),
  (Str.ofString "Checker", SV.top 1278),
  (Str.ofString "NamedRow", SV.top 1302),
  (Str.ofString "World", SV.top 1345),
  (Str.ofString "NameFault", SV.top 178),
  (Str.ofString "ConstFault", SV.top 202),
  (Str.ofString "FlowFault", SV.top 214),
  (Str.ofString "TypeFault", SV.top 190),
  (Str.ofString "NIL", SV.tup [.str "nil"]),
  (Str.ofString "NILABLE", SV.tup [.str "ptr", .str "func", .str "slice", .str "map", .str "chan", .str "interface"]),
  (Str.ofString "WHOLE_check_loops", SV.tup [.str "int", .str "int"]),
  (Str.ofString "LOOPS", SV.tup [.str "for", .str "range"]),
  (Str.ofString "PLAIN", SV.tup [.str "func", .tup [], .tup [], .bool false]),
  (Str.ofString "len", SV.fn .len),
  (Str.ofString "isinstance", SV.fn .isinstance),
  (Str.ofString "sorted", SV.fn .sorted),
  (Str.ofString "tuple", SV.fn .tuple),
  (Str.ofString "list", SV.fn .list),
  (Str.ofString "range", SV.fn .range),
  (Str.ofString "enumerate", SV.fn .enumerate)]
noncomputable def fnsT : List (Nat × FnRec) := [(78, fnAt 16 [] false),
  (85, fnAt 17 [] false),
  (99, fnAt 19 [] false),
  (120, fnAt 22 [] false),
  (71, fnAt 15 [] false),
  (64, fnAt 14 [] false),
  (259, fnAt 40 [] false),
  (264, fnAt 41 [] false),
  (271, fnAt 42 [] false),
  (306, fnAt 44 [] false),
  (313, fnAt 45 [] true),
  (320, fnAt 47 [] false),
  (327, fnAt 48 [] true),
  (332, fnAt 49 [] false),
  (339, fnAt 50 [] false),
  (346, fnAt 51 [] true),
  (353, fnAt 52 [] true),
  (381, fnAt 57 [] true),
  (490, fnAt 79 [] true),
  (497, fnAt 80 [] true),
  (505, fnAt 81 [.bool false] true),
  (876, fnAt 134 [] false),
  (888, fnAt 136 [] true),
  (916, fnAt 138 [] false),
  (923, fnAt 139 [] false),
  (1313, fnAt 150 [] false),
  (1384, fnAt 157 [] false),
  (1391, fnAt 158 [] false),
  (1398, fnAt 159 [] false),
  (1405, fnAt 160 [] true (some 0)),
  (1410, fnAt 161 [] true (some 1)),
  (1415, fnAt 162 [] true),
  (1420, fnAt 163 [] true (some 2)),
  (1425, fnAt 164 [] false),
  (231, methAt 37 0 [.bool false] false),
  (285, methAt 43 0 [] false),
  (292, methAt 43 1 [] false),
  (902, methAt 137 0 [] false),
  (937, methAt 140 0 [] false),
  (991, methAt 140 8 [] false),
  (1042, methAt 140 16 [] true),
  (1106, methAt 143 0 [.none] false),
  (1180, methAt 146 0 [.none] false),
  (1217, methAt 146 5 [] true),
  (1246, methAt 146 9 [.none] false),
  (1299, methAt 149 0 [] false),
  (1328, methAt 151 0 [.none] false),
  (1335, methAt 151 1 [] false)]
noncomputable def clsT : List (Nat × ClsRec) := [(234, ⟨231, [], [Str.ofString "told", Str.ofString "steps", Str.ofString "is_twice"]⟩),
  (295, ⟨285, [("go_on", 292)], [Str.ofString "world", Str.ofString "here", Str.ofString "seen"]⟩),
  (905, ⟨902, [], [Str.ofString "label", Str.ofString "kind", Str.ofString "is_open"]⟩),
  (1066, ⟨937, [("array_way", 991), ("want_unlike", 1042)], [Str.ofString "checker", Str.ofString "one", Str.ofString "all"]⟩),
  (1160, ⟨1106, [], [Str.ofString "outer", Str.ofString "owner", Str.ofString "rows"]⟩),
  (1278, ⟨1180, [("coerce", 1217), ("hidden", 1246)], [Str.ofString "world", Str.ofString "package", Str.ofString "scope", Str.ofString "key", Str.ofString "readers", Str.ofString "run_body", Str.ofString "outer", Str.ofString "locals", Str.ofString "params", Str.ofString "results", Str.ofString "result_locals", Str.ofString "has_result_names", Str.ofString "captured", Str.ofString "literals", Str.ofString "loops", Str.ofString "other_panics", Str.ofString "mentions"]⟩),
  (1302, ⟨1299, [], [Str.ofString "path", Str.ofString "package", Str.ofString "underlying", Str.ofString "methods"]⟩),
  (1345, ⟨1328, [("base_of", 1335)], [Str.ofString "packages", Str.ofString "named", Str.ofString "globals", Str.ofString "consts", Str.ofString "funcs", Str.ofString "bodies", Str.ofString "files", Str.ofString "scopes", Str.ofString "order", Str.ofString "starts", Str.ofString "settle", Str.ofString "want", Str.ofString "mentions", Str.ofString "measured", Str.ofString "values", Str.ofString "inits", Str.ofString "late_keys", Str.ofString "late_parts", Str.ofString "late_sizes", Str.ofString "is_whole"]⟩)]
noncomputable def excsT : List (Nat × Str) := [(178, "name fault"), (202, "const fault"), (214, "flow fault"), (190, "type fault")]
noncomputable abbrev ahas_calls : Nat := 881
noncomputable abbrev a_law_reel : Nat := 1356
noncomputable abbrev a_law_wound : Nat := 1363
noncomputable abbrev a_law_one : Nat := 1370
noncomputable abbrev a_law_tried : Nat := 1377
noncomputable abbrev a_law_tree : Nat := 1398
noncomputable abbrev alaw : Nat := 1425
end Mine
end
section
open PySem PySem.W PyProof.Rows
set_option tactic.hygienic false
set_option maxRecDepth 100000
namespace Mine
noncomputable def fdOf (st : Stmt) (qual : Str) (dV kV doc pm : Value) (an : Option Addr) (cdv ct : Value) : FuncData := match st with
  | .FunctionDef name args body _ _ _ sc _ _ _ => fnX name qual args body sc [] dV kV doc pm an cdv ct
  | _ => fnX "" qual ⟨[], [], none, [], [], none, []⟩ [] ⟨.function, [], false, false, []⟩ [] dV kV doc pm an cdv ct
noncomputable def kn3 (P : Params) : Obj := { cls := .type "dict", dict := none, data := .dict #[⟨PyData.keyHash P (Str.ofString "__name__"), .str (Str.ofString "__name__") 165, .str (Str.ofString "law_xm0202_01") 2314⟩, ⟨PyData.keyHash P (Str.ofString "__doc__"), .str (Str.ofString "__doc__") 166, .none⟩, ⟨PyData.keyHash P (Str.ofString "__package__"), .str (Str.ofString "__package__") 167, .none⟩, ⟨PyData.keyHash P (Str.ofString "__loader__"), .str (Str.ofString "__loader__") 168, .builtin "__main__.__loader__#opaque"⟩, ⟨PyData.keyHash P (Str.ofString "__spec__"), .str (Str.ofString "__spec__") 169, .none⟩, ⟨PyData.keyHash P (Str.ofString "__annotations__"), .str (Str.ofString "__annotations__") 170, .ref 6⟩, ⟨PyData.keyHash P (Str.ofString "__builtins__"), .str (Str.ofString "__builtins__") 171, .ref 4⟩, ⟨PyData.keyHash P (Str.ofString "__file__"), .str (Str.ofString "__file__") 173, .str (Str.ofString "/claim/cut.py") 172⟩, ⟨PyData.keyHash P (Str.ofString "__cached__"), .str (Str.ofString "__cached__") 174, .none⟩, ⟨PyData.keyHash P (Str.ofString "_wall"), .str (Str.ofString "_wall") 193, .ref 21⟩, ⟨PyData.keyHash P (Str.ofString "TEXT"), .str (Str.ofString "TEXT") 197, .ref 22⟩, ⟨PyData.keyHash P (Str.ofString "TRUTH"), .str (Str.ofString "TRUTH") 199, .ref 23⟩, ⟨PyData.keyHash P (Str.ofString "WHOLE_types"), .str (Str.ofString "WHOLE_types") 202, .ref 24⟩, ⟨PyData.keyHash P (Str.ofString "RUNE_types"), .str (Str.ofString "RUNE_types") 205, .ref 25⟩, ⟨PyData.keyHash P (Str.ofString "NIL"), .str (Str.ofString "NIL") 207, .ref 26⟩, ⟨PyData.keyHash P (Str.ofString "UNTYPED_DEFAULTS"), .str (Str.ofString "UNTYPED_DEFAULTS") 216, .ref 27⟩, ⟨PyData.keyHash P (Str.ofString "NILABLE"), .str (Str.ofString "NILABLE") 223, .ref 28⟩, ⟨PyData.keyHash P (Str.ofString "joined_texts"), .str (Str.ofString "joined_texts") 229, .ref 33⟩, ⟨PyData.keyHash P (Str.ofString "signature_text"), .str (Str.ofString "signature_text") 235, .ref 38⟩, ⟨PyData.keyHash P (Str.ofString "field_text"), .str (Str.ofString "field_text") 245, .ref 45⟩, ⟨PyData.keyHash P (Str.ofString "braced_text"), .str (Str.ofString "braced_text") 253, .ref 52⟩, ⟨PyData.keyHash P (Str.ofString "chan_text"), .str (Str.ofString "chan_text") 262, .ref 59⟩, ⟨PyData.keyHash P (Str.ofString "type_text"), .str (Str.ofString "type_text") 268, .ref 64⟩, ⟨PyData.keyHash P (Str.ofString "underlying_of"), .str (Str.ofString "underlying_of") 276, .ref 71⟩, ⟨PyData.keyHash P (Str.ofString "is_named"), .str (Str.ofString "is_named") 283, .ref 78⟩, ⟨PyData.keyHash P (Str.ofString "is_untyped"), .str (Str.ofString "is_untyped") 290, .ref 85⟩, ⟨PyData.keyHash P (Str.ofString "default_type"), .str (Str.ofString "default_type") 297, .ref 92⟩, ⟨PyData.keyHash P (Str.ofString "is_interface"), .str (Str.ofString "is_interface") 305, .ref 99⟩, ⟨PyData.keyHash P (Str.ofString "is_integer"), .str (Str.ofString "is_integer") 313, .ref 106⟩, ⟨PyData.keyHash P (Str.ofString "is_text"), .str (Str.ofString "is_text") 321, .ref 113⟩, ⟨PyData.keyHash P (Str.ofString "is_truth"), .str (Str.ofString "is_truth") 329, .ref 120⟩, ⟨PyData.keyHash P (Str.ofString "is_ordered"), .str (Str.ofString "is_ordered") 337, .ref 127⟩, ⟨PyData.keyHash P (Str.ofString "has_nil"), .str (Str.ofString "has_nil") 345, .ref 134⟩, ⟨PyData.keyHash P (Str.ofString "is_comparable"), .str (Str.ofString "is_comparable") 351, .ref 139⟩, ⟨PyData.keyHash P (Str.ofString "PLACES"), .str (Str.ofString "PLACES") 357, .ref 140⟩, ⟨PyData.keyHash P (Str.ofString "is_place"), .str (Str.ofString "is_place") 366, .ref 147⟩, ⟨PyData.keyHash P (Str.ofString "ChanError"), .str (Str.ofString "ChanError") 400, .ref 165⟩, ⟨PyData.keyHash P (Str.ofString "NameFault"), .str (Str.ofString "NameFault") 416, .ref 178⟩, ⟨PyData.keyHash P (Str.ofString "TypeFault"), .str (Str.ofString "TypeFault") 432, .ref 190⟩, ⟨PyData.keyHash P (Str.ofString "ConstFault"), .str (Str.ofString "ConstFault") 448, .ref 202⟩, ⟨PyData.keyHash P (Str.ofString "FlowFault"), .str (Str.ofString "FlowFault") 464, .ref 214⟩, ⟨PyData.keyHash P (Str.ofString "MAIN"), .str (Str.ofString "MAIN") 468, .str (Str.ofString "main") 467⟩, ⟨PyData.keyHash P (Str.ofString "Reached"), .str (Str.ofString "Reached") 501, .ref 234⟩, ⟨PyData.keyHash P (Str.ofString "own_name"), .str (Str.ofString "own_name") 510, .ref 245⟩, ⟨PyData.keyHash P (Str.ofString "without_pointer"), .str (Str.ofString "without_pointer") 517, .ref 252⟩, ⟨PyData.keyHash P (Str.ofString "own_methods"), .str (Str.ofString "own_methods") 525, .ref 259⟩, ⟨PyData.keyHash P (Str.ofString "members_at"), .str (Str.ofString "members_at") 531, .ref 264⟩, ⟨PyData.keyHash P (Str.ofString "embedded_in"), .str (Str.ofString "embedded_in") 545, .ref 271⟩, ⟨PyData.keyHash P (Str.ofString "Levels"), .str (Str.ofString "Levels") 587, .ref 295⟩, ⟨PyData.keyHash P (Str.ofString "start_type"), .str (Str.ofString "start_type") 597, .ref 306⟩, ⟨PyData.keyHash P (Str.ofString "find_member"), .str (Str.ofString "find_member") 611, .ref 313⟩, ⟨PyData.keyHash P (Str.ofString "names_of_methods"), .str (Str.ofString "names_of_methods") 627, .ref 320⟩, ⟨PyData.keyHash P (Str.ofString "member_or_none"), .str (Str.ofString "member_or_none") 636, .ref 327⟩, ⟨PyData.keyHash P (Str.ofString "is_in_set"), .str (Str.ofString "is_in_set") 642, .ref 332⟩, ⟨PyData.keyHash P (Str.ofString "method_set"), .str (Str.ofString "method_set") 655, .ref 339⟩, ⟨PyData.keyHash P (Str.ofString "lack_of"), .str (Str.ofString "lack_of") 666, .ref 346⟩, ⟨PyData.keyHash P (Str.ofString "implements"), .str (Str.ofString "implements") 678, .ref 353⟩, ⟨PyData.keyHash P (Str.ofString "named_value"), .str (Str.ofString "named_value") 693, .ref 360⟩, ⟨PyData.keyHash P (Str.ofString "row_of_name"), .str (Str.ofString "row_of_name") 703, .ref 367⟩, ⟨PyData.keyHash P (Str.ofString "read_place"), .str (Str.ofString "read_place") 712, .ref 374⟩, ⟨PyData.keyHash P (Str.ofString "want_possible"), .str (Str.ofString "want_possible") 723, .ref 381⟩, ⟨PyData.keyHash P (Str.ofString "BITS"), .str (Str.ofString "BITS") 756, .ref 382⟩, ⟨PyData.keyHash P (Str.ofString "MOST_BITS"), .str (Str.ofString "MOST_BITS") 758, .int (512) 757⟩, ⟨PyData.keyHash P (Str.ofString "MOST_TEXT"), .str (Str.ofString "MOST_TEXT") 762, .int (1048576) 761⟩, ⟨PyData.keyHash P (Str.ofString "COMPARISONS"), .str (Str.ofString "COMPARISONS") 769, .ref 383⟩, ⟨PyData.keyHash P (Str.ofString "WRONG_RUNE"), .str (Str.ofString "WRONG_RUNE") 771, .bytes #[239, 191, 189] 770⟩, ⟨PyData.keyHash P (Str.ofString "is_unsigned"), .str (Str.ofString "is_unsigned") 778, .ref 390⟩, ⟨PyData.keyHash P (Str.ofString "int_range"), .str (Str.ofString "int_range") 785, .ref 397⟩, ⟨PyData.keyHash P (Str.ofString "is_in_range"), .str (Str.ofString "is_in_range") 795, .ref 404⟩, ⟨PyData.keyHash P (Str.ofString "within_range"), .str (Str.ofString "within_range") 803, .ref 411⟩, ⟨PyData.keyHash P (Str.ofString "representable"), .str (Str.ofString "representable") 812, .ref 418⟩, ⟨PyData.keyHash P (Str.ofString "const_unary"), .str (Str.ofString "const_unary") 821, .ref 426⟩, ⟨PyData.keyHash P (Str.ofString "const_quotient"), .str (Str.ofString "const_quotient") 830, .ref 433⟩, ⟨PyData.keyHash P (Str.ofString "const_shift"), .str (Str.ofString "const_shift") 840, .ref 440⟩, ⟨PyData.keyHash P (Str.ofString "int_binary"), .str (Str.ofString "int_binary") 849, .ref 447⟩, ⟨PyData.keyHash P (Str.ofString "const_compared"), .str (Str.ofString "const_compared") 858, .ref 454⟩, ⟨PyData.keyHash P (Str.ofString "sort_of_const"), .str (Str.ofString "sort_of_const") 865, .ref 461⟩, ⟨PyData.keyHash P (Str.ofString "const_binary"), .str (Str.ofString "const_binary") 876, .ref 469⟩, ⟨PyData.keyHash P (Str.ofString "rune_octets"), .str (Str.ofString "rune_octets") 883, .ref 476⟩, ⟨PyData.keyHash P (Str.ofString "const_convert"), .str (Str.ofString "const_convert") 891, .ref 483⟩, ⟨PyData.keyHash P (Str.ofString "is_like_chan"), .str (Str.ofString "is_like_chan") 904, .ref 490⟩, ⟨PyData.keyHash P (Str.ofString "meets_face"), .str (Str.ofString "meets_face") 913, .ref 497⟩, ⟨PyData.keyHash P (Str.ofString "is_assignable"), .str (Str.ofString "is_assignable") 923, .ref 505⟩, ⟨PyData.keyHash P (Str.ofString "is_const_assignable"), .str (Str.ofString "is_const_assignable") 934, .ref 512⟩, ⟨PyData.keyHash P (Str.ofString "SYNC_TYPES"), .str (Str.ofString "SYNC_TYPES") 939, .ref 513⟩, ⟨PyData.keyHash P (Str.ofString "MOST_LENGTH"), .str (Str.ofString "MOST_LENGTH") 943, .int (1048576) 942⟩, ⟨PyData.keyHash P (Str.ofString "MOST_PARTS"), .str (Str.ofString "MOST_PARTS") 945, .int (2000) 944⟩, ⟨PyData.keyHash P (Str.ofString "MOST_LEVELS"), .str (Str.ofString "MOST_LEVELS") 947, .int (100) 946⟩, ⟨PyData.keyHash P (Str.ofString "type_entry"), .str (Str.ofString "type_entry") 961, .ref 521⟩, ⟨PyData.keyHash P (Str.ofString "exported_entry"), .str (Str.ofString "exported_entry") 972, .ref 529⟩, ⟨PyData.keyHash P (Str.ofString "want_few_parts"), .str (Str.ofString "want_few_parts") 978, .ref 534⟩, ⟨PyData.keyHash P (Str.ofString "TypeReader"), .str (Str.ofString "TypeReader") 1077, .ref 596⟩, ⟨PyData.keyHash P (Str.ofString "UNTYPED_INT"), .str (Str.ofString "UNTYPED_INT") 1082, .ref 601⟩, ⟨PyData.keyHash P (Str.ofString "UNTYPED_RUNE"), .str (Str.ofString "UNTYPED_RUNE") 1085, .ref 602⟩, ⟨PyData.keyHash P (Str.ofString "UNTYPED_BOOL"), .str (Str.ofString "UNTYPED_BOOL") 1088, .ref 603⟩, ⟨PyData.keyHash P (Str.ofString "UNTYPED_TEXT"), .str (Str.ofString "UNTYPED_TEXT") 1091, .ref 604⟩, ⟨PyData.keyHash P (Str.ofString "NUMBERS"), .str (Str.ofString "NUMBERS") 1092, .ref 605⟩, ⟨PyData.keyHash P (Str.ofString "ConstReader"), .str (Str.ofString "ConstReader") 1273, .ref 711⟩, ⟨PyData.keyHash P (Str.ofString "const_of"), .str (Str.ofString "const_of") 1284, .ref 723⟩, ⟨PyData.keyHash P (Str.ofString "type_of"), .str (Str.ofString "type_of") 1298, .ref 730⟩, ⟨PyData.keyHash P (Str.ofString "COMPARING"), .str (Str.ofString "COMPARING") 1307, .ref 731⟩, ⟨PyData.keyHash P (Str.ofString "EQUALING"), .str (Str.ofString "EQUALING") 1310, .ref 732⟩, ⟨PyData.keyHash P (Str.ofString "SHIFTING"), .str (Str.ofString "SHIFTING") 1313, .ref 733⟩, ⟨PyData.keyHash P (Str.ofString "REACHING_SIGNS"), .str (Str.ofString "REACHING_SIGNS") 1323, .ref 734⟩, ⟨PyData.keyHash P (Str.ofString "TYPED_KINDS"), .str (Str.ofString "TYPED_KINDS") 1330, .ref 735⟩, ⟨PyData.keyHash P (Str.ofString "TOLD_KINDS"), .str (Str.ofString "TOLD_KINDS") 1334, .ref 736⟩, ⟨PyData.keyHash P (Str.ofString "LAZY_SIGNS"), .str (Str.ofString "LAZY_SIGNS") 1337, .ref 737⟩, ⟨PyData.keyHash P (Str.ofString "UNTYPED_TRUTH_check_operators"), .str (Str.ofString "UNTYPED_TRUTH_check_operators") 1340, .ref 738⟩, ⟨PyData.keyHash P (Str.ofString "UNTYPED_RANKS"), .str (Str.ofString "UNTYPED_RANKS") 1343, .ref 739⟩, ⟨PyData.keyHash P (Str.ofString "is_constant"), .str (Str.ofString "is_constant") 1350, .ref 746⟩, ⟨PyData.keyHash P (Str.ofString "kind_of_const"), .str (Str.ofString "kind_of_const") 1359, .ref 753⟩, ⟨PyData.keyHash P (Str.ofString "known_const"), .str (Str.ofString "known_const") 1368, .ref 760⟩, ⟨PyData.keyHash P (Str.ofString "common_untyped"), .str (Str.ofString "common_untyped") 1377, .ref 767⟩, ⟨PyData.keyHash P (Str.ofString "matched_untyped"), .str (Str.ofString "matched_untyped") 1390, .ref 774⟩, ⟨PyData.keyHash P (Str.ofString "matched_sides"), .str (Str.ofString "matched_sides") 1404, .ref 781⟩, ⟨PyData.keyHash P (Str.ofString "is_beside_nil"), .str (Str.ofString "is_beside_nil") 1412, .ref 788⟩, ⟨PyData.keyHash P (Str.ofString "want_comparable"), .str (Str.ofString "want_comparable") 1418, .ref 793⟩, ⟨PyData.keyHash P (Str.ofString "want_operator"), .str (Str.ofString "want_operator") 1429, .ref 800⟩, ⟨PyData.keyHash P (Str.ofString "folded"), .str (Str.ofString "folded") 1445, .ref 807⟩, ⟨PyData.keyHash P (Str.ofString "want_divisor"), .str (Str.ofString "want_divisor") 1456, .ref 814⟩, ⟨PyData.keyHash P (Str.ofString "read_operator"), .str (Str.ofString "read_operator") 1468, .ref 821⟩, ⟨PyData.keyHash P (Str.ofString "typed_truth"), .str (Str.ofString "typed_truth") 1475, .ref 828⟩, ⟨PyData.keyHash P (Str.ofString "defaulted"), .str (Str.ofString "defaulted") 1483, .ref 835⟩, ⟨PyData.keyHash P (Str.ofString "is_shift_written"), .str (Str.ofString "is_shift_written") 1490, .ref 842⟩, ⟨PyData.keyHash P (Str.ofString "free_type"), .str (Str.ofString "free_type") 1499, .ref 849⟩, ⟨PyData.keyHash P (Str.ofString "has_own_type"), .str (Str.ofString "has_own_type") 1509, .ref 856⟩, ⟨PyData.keyHash P (Str.ofString "is_shift_open"), .str (Str.ofString "is_shift_open") 1519, .ref 863⟩, ⟨PyData.keyHash P (Str.ofString "WHOLE_check_loops"), .str (Str.ofString "WHOLE_check_loops") 1524, .ref 864⟩, ⟨PyData.keyHash P (Str.ofString "RUNE_check_loops"), .str (Str.ofString "RUNE_check_loops") 1527, .ref 865⟩, ⟨PyData.keyHash P (Str.ofString "LOOPS"), .str (Str.ofString "LOOPS") 1530, .ref 866⟩, ⟨PyData.keyHash P (Str.ofString "LOOSE_WHOLES"), .str (Str.ofString "LOOSE_WHOLES") 1535, .ref 869⟩, ⟨PyData.keyHash P (Str.ofString "is_blank_name"), .str (Str.ofString "is_blank_name") 1542, .ref 876⟩, ⟨PyData.keyHash P (Str.ofString "has_calls"), .str (Str.ofString "has_calls") 1548, .ref 881⟩, ⟨PyData.keyHash P (Str.ofString "truth_as"), .str (Str.ofString "truth_as") 1558, .ref 888⟩, ⟨PyData.keyHash P (Str.ofString "LoopRow"), .str (Str.ofString "LoopRow") 1590, .ref 905⟩, ⟨PyData.keyHash P (Str.ofString "begun_loop"), .str (Str.ofString "begun_loop") 1599, .ref 916⟩, ⟨PyData.keyHash P (Str.ofString "place_led_to"), .str (Str.ofString "place_led_to") 1613, .ref 923⟩, ⟨PyData.keyHash P (Str.ofString "Breakable"), .str (Str.ofString "Breakable") 1879, .ref 1066⟩, ⟨PyData.keyHash P (Str.ofString "ScopeRow"), .str (Str.ofString "ScopeRow") 1919, .ref 1087⟩, ⟨PyData.keyHash P (Str.ofString "Scope"), .str (Str.ofString "Scope") 2014, .ref 1160⟩, ⟨PyData.keyHash P (Str.ofString "UNTYPED_TRUTH_check_state"), .str (Str.ofString "UNTYPED_TRUTH_check_state") 2019, .ref 1165⟩, ⟨PyData.keyHash P (Str.ofString "Checker"), .str (Str.ofString "Checker") 2196, .ref 1278⟩, ⟨PyData.keyHash P (Str.ofString "PLAIN"), .str (Str.ofString "PLAIN") 2200, .ref 1285⟩, ⟨PyData.keyHash P (Str.ofString "NamedRow"), .str (Str.ofString "NamedRow") 2235, .ref 1302⟩, ⟨PyData.keyHash P (Str.ofString "known_rows"), .str (Str.ofString "known_rows") 2248, .ref 1313⟩, ⟨PyData.keyHash P (Str.ofString "World"), .str (Str.ofString "World") 2313, .ref 1345⟩, ⟨PyData.keyHash P (Str.ofString "_law_reel"), .str (Str.ofString "_law_reel") 2324, .ref 1356⟩, ⟨PyData.keyHash P (Str.ofString "_law_wound"), .str (Str.ofString "_law_wound") 2333, .ref 1363⟩, ⟨PyData.keyHash P (Str.ofString "_law_one"), .str (Str.ofString "_law_one") 2341, .ref 1370⟩, ⟨PyData.keyHash P (Str.ofString "_law_tried"), .str (Str.ofString "_law_tried") 2349, .ref 1377⟩, ⟨PyData.keyHash P (Str.ofString "_law_plain"), .str (Str.ofString "_law_plain") 2355, .ref 1384⟩, ⟨PyData.keyHash P (Str.ofString "_law_checker"), .str (Str.ofString "_law_checker") 2363, .ref 1391⟩, ⟨PyData.keyHash P (Str.ofString "_law_tree"), .str (Str.ofString "_law_tree") 2379, .ref 1398⟩, ⟨PyData.keyHash P (Str.ofString "_law_truth_right"), .str (Str.ofString "_law_truth_right") 2391, .ref 1405⟩, ⟨PyData.keyHash P (Str.ofString "_law_loops_right"), .str (Str.ofString "_law_loops_right") 2397, .ref 1410⟩, ⟨PyData.keyHash P (Str.ofString "_law_way_right"), .str (Str.ofString "_law_way_right") 2403, .ref 1415⟩, ⟨PyData.keyHash P (Str.ofString "_law_cases_right"), .str (Str.ofString "_law_cases_right") 2409, .ref 1420⟩, ⟨PyData.keyHash P (Str.ofString "law"), .str (Str.ofString "law") 2415, .ref 1425⟩] 158, slots := #[] }
noncomputable def kn22 (P : Params) : Obj := { cls := .type "tuple", dict := none, data := .seq #[.str (Str.ofString "string") 196] 0, slots := #[] }
noncomputable def kn23 (P : Params) : Obj := { cls := .type "tuple", dict := none, data := .seq #[.str (Str.ofString "bool") 198] 0, slots := #[] }
noncomputable def kn26 (P : Params) : Obj := { cls := .type "tuple", dict := none, data := .seq #[.str (Str.ofString "nil") 206] 0, slots := #[] }
noncomputable def kn28 (P : Params) : Obj := { cls := .type "tuple", dict := none, data := .seq #[.str (Str.ofString "ptr") 217, .str (Str.ofString "func") 218, .str (Str.ofString "slice") 219, .str (Str.ofString "map") 220, .str (Str.ofString "chan") 221, .str (Str.ofString "interface") 222] 0, slots := #[] }
noncomputable def kn63 (P : Params) : Obj := { cls := .type "code", dict := none, data := .fields #[.str (Str.ofString "type_text") 263, .str (Str.ofString "type_text") 264, .str (Str.ofString "/claim/cut.py") 265, .int (33) 0, .int (1) 0, .int (0) 0, .int (0) 0, .int (3) 0, .ref 60, .bool true, .int (181) 0, .ref 61, .none, .none, .none, .ref 62, .int (266) 0, .int (33) 0, .str (Str.ofString "/claim/cut.py") 267], slots := #[] }
noncomputable def kn64 (P : Params) : Obj := { cls := .type "function", dict := none, data := .func (fdOf (stAt 14) (Str.ofString "type_text") (.none) (.none) (.none) (.str (Str.ofString "chancore.types") 194) none (.ref 63) (.none)), slots := #[] }
noncomputable def kn70 (P : Params) : Obj := { cls := .type "code", dict := none, data := .fields #[.str (Str.ofString "underlying_of") 269, .str (Str.ofString "underlying_of") 270, .str (Str.ofString "/claim/cut.py") 271, .int (56) 0, .int (2) 0, .int (0) 0, .int (0) 0, .int (3) 0, .ref 65, .bool true, .int (181) 0, .ref 66, .none, .ref 67, .ref 68, .ref 69, .int (274) 0, .int (56) 0, .str (Str.ofString "/claim/cut.py") 275], slots := #[] }
noncomputable def kn71 (P : Params) : Obj := { cls := .type "function", dict := none, data := .func (fdOf (stAt 15) (Str.ofString "underlying_of") (.none) (.none) (.none) (.str (Str.ofString "chancore.types") 194) none (.ref 70) (.none)), slots := #[] }
noncomputable def kn77 (P : Params) : Obj := { cls := .type "code", dict := none, data := .fields #[.str (Str.ofString "is_named") 277, .str (Str.ofString "is_named") 278, .str (Str.ofString "/claim/cut.py") 279, .int (58) 0, .int (1) 0, .int (0) 0, .int (0) 0, .int (3) 0, .ref 72, .bool true, .int (181) 0, .ref 73, .none, .ref 74, .ref 75, .ref 76, .int (281) 0, .int (58) 0, .str (Str.ofString "/claim/cut.py") 282], slots := #[] }
noncomputable def kn78 (P : Params) : Obj := { cls := .type "function", dict := none, data := .func (fdOf (stAt 16) (Str.ofString "is_named") (.none) (.none) (.none) (.str (Str.ofString "chancore.types") 194) none (.ref 77) (.none)), slots := #[] }
noncomputable def kn84 (P : Params) : Obj := { cls := .type "code", dict := none, data := .fields #[.str (Str.ofString "is_untyped") 284, .str (Str.ofString "is_untyped") 285, .str (Str.ofString "/claim/cut.py") 286, .int (60) 0, .int (1) 0, .int (0) 0, .int (0) 0, .int (3) 0, .ref 79, .bool true, .int (181) 0, .ref 80, .none, .ref 81, .ref 82, .ref 83, .int (288) 0, .int (60) 0, .str (Str.ofString "/claim/cut.py") 289], slots := #[] }
noncomputable def kn85 (P : Params) : Obj := { cls := .type "function", dict := none, data := .func (fdOf (stAt 17) (Str.ofString "is_untyped") (.none) (.none) (.none) (.str (Str.ofString "chancore.types") 194) none (.ref 84) (.none)), slots := #[] }
noncomputable def kn98 (P : Params) : Obj := { cls := .type "code", dict := none, data := .fields #[.str (Str.ofString "is_interface") 298, .str (Str.ofString "is_interface") 299, .str (Str.ofString "/claim/cut.py") 300, .int (64) 0, .int (2) 0, .int (0) 0, .int (0) 0, .int (3) 0, .ref 93, .bool true, .int (181) 0, .ref 94, .none, .ref 95, .ref 96, .ref 97, .int (303) 0, .int (64) 0, .str (Str.ofString "/claim/cut.py") 304], slots := #[] }
noncomputable def kn99 (P : Params) : Obj := { cls := .type "function", dict := none, data := .func (fdOf (stAt 19) (Str.ofString "is_interface") (.none) (.none) (.none) (.str (Str.ofString "chancore.types") 194) none (.ref 98) (.none)), slots := #[] }
noncomputable def kn119 (P : Params) : Obj := { cls := .type "code", dict := none, data := .fields #[.str (Str.ofString "is_truth") 322, .str (Str.ofString "is_truth") 323, .str (Str.ofString "/claim/cut.py") 324, .int (72) 0, .int (2) 0, .int (0) 0, .int (0) 0, .int (3) 0, .ref 114, .bool true, .int (181) 0, .ref 115, .none, .ref 116, .ref 117, .ref 118, .int (327) 0, .int (72) 0, .str (Str.ofString "/claim/cut.py") 328], slots := #[] }
noncomputable def kn120 (P : Params) : Obj := { cls := .type "function", dict := none, data := .func (fdOf (stAt 22) (Str.ofString "is_truth") (.none) (.none) (.none) (.str (Str.ofString "chancore.types") 194) none (.ref 119) (.none)), slots := #[] }
noncomputable def kn155 (P : Params) : Obj := { cls := .type "tuple", dict := none, data := .seq #[.int (0) 381] 0, slots := #[] }
noncomputable def kn161 (P : Params) : Obj := { cls := .type "code", dict := none, data := .fields #[.str (Str.ofString "__init__") 382, .str (Str.ofString "ChanError.__init__") 383, .str (Str.ofString "/claim/cut.py") 384, .int (111) 0, .int (3) 0, .int (0) 0, .int (0) 0, .int (3) 0, .ref 156, .bool true, .int (181) 0, .ref 157, .none, .ref 158, .ref 159, .ref 160, .int (388) 0, .int (111) 0, .str (Str.ofString "/claim/cut.py") 389], slots := #[] }
noncomputable def kn162 (P : Params) : Obj := { cls := .type "function", dict := none, data := .func (fdOf (((getAt 0 (bodyOf (stAt 30))).getD (.Pass ⟨0, 0, 0, 0⟩))) (Str.ofString "ChanError.__init__") (.ref 155) (.none) (.none) (.str (Str.ofString "chancore.errors") 367) none (.ref 161) (.none)), slots := #[] }
noncomputable def kn164 (P : Params) : Obj := { cls := .type "dict", dict := none, data := .dict #[⟨PyData.keyHash P (Str.ofString "__module__"), .str (Str.ofString "__module__") 376, .str (Str.ofString "chancore.errors") 367⟩, ⟨PyData.keyHash P (Str.ofString "__firstlineno__"), .str (Str.ofString "__firstlineno__") 380, .int (109) 379⟩, ⟨PyData.keyHash P (Str.ofString "__init__"), .str (Str.ofString "__init__") 390, .ref 162⟩, ⟨PyData.keyHash P (Str.ofString "__static_attributes__"), .str (Str.ofString "__static_attributes__") 393, .ref 163⟩, ⟨PyData.keyHash P (Str.ofString "__weakref__"), .str (Str.ofString "__weakref__") 395, .ref 166⟩, ⟨PyData.keyHash P (Str.ofString "__doc__"), .str (Str.ofString "__doc__") 396, .none⟩] 3, slots := #[] }
noncomputable def kn165 (P : Params) : Obj := { cls := .type "type", dict := none, data := .cls { name := (Str.ofString "ChanError"), bases := [.type "Exception"], mro := [.ref 165, .type "Exception", .type "BaseException", .type "object"], ns := 164, qualname := (Str.ofString "ChanError"), hasDict := true, slotNames := [], subclasses := [.ref 178, .ref 190, .ref 202, .ref 214], abstract := false, collection := none, hasDel := false }, slots := #[(some (.ref 148)), none, (some (.str (Str.ofString "ChanError") 369)), (some (.str (Str.ofString "ChanError") 377)), (some (.builtin "Exception.__new__")), (some (.bool true))] }
noncomputable def kn177 (P : Params) : Obj := { cls := .type "dict", dict := none, data := .dict #[⟨PyData.keyHash P (Str.ofString "__module__"), .str (Str.ofString "__module__") 408, .str (Str.ofString "chancore.errors") 367⟩, ⟨PyData.keyHash P (Str.ofString "__firstlineno__"), .str (Str.ofString "__firstlineno__") 412, .int (115) 411⟩, ⟨PyData.keyHash P (Str.ofString "__static_attributes__"), .str (Str.ofString "__static_attributes__") 413, .ref 176⟩, ⟨PyData.keyHash P (Str.ofString "__doc__"), .str (Str.ofString "__doc__") 414, .none⟩] 2, slots := #[] }
noncomputable def kn178 (P : Params) : Obj := { cls := .type "type", dict := none, data := .cls { name := (Str.ofString "NameFault"), bases := [.ref 165], mro := [.ref 178, .ref 165, .type "Exception", .type "BaseException", .type "object"], ns := 177, qualname := (Str.ofString "NameFault"), hasDict := true, slotNames := [], subclasses := [], abstract := false, collection := none, hasDel := false }, slots := #[(some (.ref 169)), none, (some (.str (Str.ofString "NameFault") 401)), (some (.str (Str.ofString "NameFault") 409)), (some (.builtin "Exception.__new__")), (some (.bool true))] }
noncomputable def kn189 (P : Params) : Obj := { cls := .type "dict", dict := none, data := .dict #[⟨PyData.keyHash P (Str.ofString "__module__"), .str (Str.ofString "__module__") 424, .str (Str.ofString "chancore.errors") 367⟩, ⟨PyData.keyHash P (Str.ofString "__firstlineno__"), .str (Str.ofString "__firstlineno__") 428, .int (117) 427⟩, ⟨PyData.keyHash P (Str.ofString "__static_attributes__"), .str (Str.ofString "__static_attributes__") 429, .ref 188⟩, ⟨PyData.keyHash P (Str.ofString "__doc__"), .str (Str.ofString "__doc__") 430, .none⟩] 2, slots := #[] }
noncomputable def kn190 (P : Params) : Obj := { cls := .type "type", dict := none, data := .cls { name := (Str.ofString "TypeFault"), bases := [.ref 165], mro := [.ref 190, .ref 165, .type "Exception", .type "BaseException", .type "object"], ns := 189, qualname := (Str.ofString "TypeFault"), hasDict := true, slotNames := [], subclasses := [], abstract := false, collection := none, hasDel := false }, slots := #[(some (.ref 181)), none, (some (.str (Str.ofString "TypeFault") 417)), (some (.str (Str.ofString "TypeFault") 425)), (some (.builtin "Exception.__new__")), (some (.bool true))] }
noncomputable def kn201 (P : Params) : Obj := { cls := .type "dict", dict := none, data := .dict #[⟨PyData.keyHash P (Str.ofString "__module__"), .str (Str.ofString "__module__") 440, .str (Str.ofString "chancore.errors") 367⟩, ⟨PyData.keyHash P (Str.ofString "__firstlineno__"), .str (Str.ofString "__firstlineno__") 444, .int (119) 443⟩, ⟨PyData.keyHash P (Str.ofString "__static_attributes__"), .str (Str.ofString "__static_attributes__") 445, .ref 200⟩, ⟨PyData.keyHash P (Str.ofString "__doc__"), .str (Str.ofString "__doc__") 446, .none⟩] 2, slots := #[] }
noncomputable def kn202 (P : Params) : Obj := { cls := .type "type", dict := none, data := .cls { name := (Str.ofString "ConstFault"), bases := [.ref 165], mro := [.ref 202, .ref 165, .type "Exception", .type "BaseException", .type "object"], ns := 201, qualname := (Str.ofString "ConstFault"), hasDict := true, slotNames := [], subclasses := [], abstract := false, collection := none, hasDel := false }, slots := #[(some (.ref 193)), none, (some (.str (Str.ofString "ConstFault") 433)), (some (.str (Str.ofString "ConstFault") 441)), (some (.builtin "Exception.__new__")), (some (.bool true))] }
noncomputable def kn213 (P : Params) : Obj := { cls := .type "dict", dict := none, data := .dict #[⟨PyData.keyHash P (Str.ofString "__module__"), .str (Str.ofString "__module__") 456, .str (Str.ofString "chancore.errors") 367⟩, ⟨PyData.keyHash P (Str.ofString "__firstlineno__"), .str (Str.ofString "__firstlineno__") 460, .int (121) 459⟩, ⟨PyData.keyHash P (Str.ofString "__static_attributes__"), .str (Str.ofString "__static_attributes__") 461, .ref 212⟩, ⟨PyData.keyHash P (Str.ofString "__doc__"), .str (Str.ofString "__doc__") 462, .none⟩] 2, slots := #[] }
noncomputable def kn214 (P : Params) : Obj := { cls := .type "type", dict := none, data := .cls { name := (Str.ofString "FlowFault"), bases := [.ref 165], mro := [.ref 214, .ref 165, .type "Exception", .type "BaseException", .type "object"], ns := 213, qualname := (Str.ofString "FlowFault"), hasDict := true, slotNames := [], subclasses := [], abstract := false, collection := none, hasDel := false }, slots := #[(some (.ref 205)), none, (some (.str (Str.ofString "FlowFault") 449)), (some (.str (Str.ofString "FlowFault") 457)), (some (.builtin "Exception.__new__")), (some (.bool true))] }
noncomputable def kn224 (P : Params) : Obj := { cls := .type "tuple", dict := none, data := .seq #[.bool false] 0, slots := #[] }
noncomputable def kn230 (P : Params) : Obj := { cls := .type "code", dict := none, data := .fields #[.str (Str.ofString "__init__") 481, .str (Str.ofString "Reached.__init__") 482, .str (Str.ofString "/claim/cut.py") 483, .int (127) 0, .int (4) 0, .int (0) 0, .int (0) 0, .int (3) 0, .ref 225, .bool true, .int (181) 0, .ref 226, .none, .ref 227, .ref 228, .ref 229, .int (488) 0, .int (127) 0, .str (Str.ofString "/claim/cut.py") 489], slots := #[] }
noncomputable def kn231 (P : Params) : Obj := { cls := .type "function", dict := none, data := .func (fdOf (((getAt 0 (bodyOf (stAt 37))).getD (.Pass ⟨0, 0, 0, 0⟩))) (Str.ofString "Reached.__init__") (.ref 224) (.none) (.none) (.str (Str.ofString "chancore.lookup") 465) none (.ref 230) (.none)), slots := #[] }
noncomputable def kn233 (P : Params) : Obj := { cls := .type "dict", dict := none, data := .dict #[⟨PyData.keyHash P (Str.ofString "__module__"), .str (Str.ofString "__module__") 476, .str (Str.ofString "chancore.lookup") 465⟩, ⟨PyData.keyHash P (Str.ofString "__firstlineno__"), .str (Str.ofString "__firstlineno__") 480, .int (125) 479⟩, ⟨PyData.keyHash P (Str.ofString "__init__"), .str (Str.ofString "__init__") 490, .ref 231⟩, ⟨PyData.keyHash P (Str.ofString "__static_attributes__"), .str (Str.ofString "__static_attributes__") 494, .ref 232⟩, ⟨PyData.keyHash P (Str.ofString "__dict__"), .str (Str.ofString "__dict__") 496, .ref 235⟩, ⟨PyData.keyHash P (Str.ofString "__weakref__"), .str (Str.ofString "__weakref__") 498, .ref 236⟩, ⟨PyData.keyHash P (Str.ofString "__doc__"), .str (Str.ofString "__doc__") 499, .none⟩] 4, slots := #[] }
noncomputable def kn234 (P : Params) : Obj := { cls := .type "type", dict := none, data := .cls { name := (Str.ofString "Reached"), bases := [.type "object"], mro := [.ref 234, .type "object"], ns := 233, qualname := (Str.ofString "Reached"), hasDict := true, slotNames := [], subclasses := [], abstract := false, collection := none, hasDel := false }, slots := #[none, none, (some (.str (Str.ofString "Reached") 469)), (some (.str (Str.ofString "Reached") 477)), (some (.builtin "object.__new__")), (some (.bool true))] }
noncomputable def kn258 (P : Params) : Obj := { cls := .type "code", dict := none, data := .fields #[.str (Str.ofString "own_methods") 518, .str (Str.ofString "own_methods") 519, .str (Str.ofString "/claim/cut.py") 520, .int (137) 0, .int (2) 0, .int (0) 0, .int (0) 0, .int (3) 0, .ref 253, .bool true, .int (181) 0, .ref 254, .none, .ref 255, .ref 256, .ref 257, .int (523) 0, .int (137) 0, .str (Str.ofString "/claim/cut.py") 524], slots := #[] }
noncomputable def kn259 (P : Params) : Obj := { cls := .type "function", dict := none, data := .func (fdOf (stAt 40) (Str.ofString "own_methods") (.none) (.none) (.none) (.str (Str.ofString "chancore.lookup") 465) none (.ref 258) (.none)), slots := #[] }
noncomputable def kn263 (P : Params) : Obj := { cls := .type "code", dict := none, data := .fields #[.str (Str.ofString "members_at") 526, .str (Str.ofString "members_at") 527, .str (Str.ofString "/claim/cut.py") 528, .int (139) 0, .int (3) 0, .int (0) 0, .int (0) 0, .int (3) 0, .ref 260, .bool true, .int (181) 0, .ref 261, .none, .none, .none, .ref 262, .int (529) 0, .int (139) 0, .str (Str.ofString "/claim/cut.py") 530], slots := #[] }
noncomputable def kn264 (P : Params) : Obj := { cls := .type "function", dict := none, data := .func (fdOf (stAt 41) (Str.ofString "members_at") (.none) (.none) (.none) (.str (Str.ofString "chancore.lookup") 465) none (.ref 263) (.none)), slots := #[] }
noncomputable def kn270 (P : Params) : Obj := { cls := .type "code", dict := none, data := .fields #[.str (Str.ofString "embedded_in") 532, .str (Str.ofString "embedded_in") 533, .str (Str.ofString "/claim/cut.py") 534, .int (153) 0, .int (2) 0, .int (0) 0, .int (0) 0, .int (3) 0, .ref 265, .bool true, .int (181) 0, .ref 266, .none, .ref 267, .ref 268, .ref 269, .int (543) 0, .int (153) 0, .str (Str.ofString "/claim/cut.py") 544], slots := #[] }
noncomputable def kn271 (P : Params) : Obj := { cls := .type "function", dict := none, data := .func (fdOf (stAt 42) (Str.ofString "embedded_in") (.none) (.none) (.none) (.str (Str.ofString "chancore.lookup") 465) none (.ref 270) (.none)), slots := #[] }
noncomputable def kn284 (P : Params) : Obj := { cls := .type "code", dict := none, data := .fields #[.str (Str.ofString "__init__") 558, .str (Str.ofString "Levels.__init__") 559, .str (Str.ofString "/claim/cut.py") 560, .int (164) 0, .int (3) 0, .int (0) 0, .int (0) 0, .int (3) 0, .ref 279, .bool true, .int (181) 0, .ref 280, .none, .ref 281, .ref 282, .ref 283, .int (564) 0, .int (164) 0, .str (Str.ofString "/claim/cut.py") 565], slots := #[] }
noncomputable def kn285 (P : Params) : Obj := { cls := .type "function", dict := none, data := .func (fdOf (((getAt 0 (bodyOf (stAt 43))).getD (.Pass ⟨0, 0, 0, 0⟩))) (Str.ofString "Levels.__init__") (.none) (.none) (.none) (.str (Str.ofString "chancore.lookup") 465) none (.ref 284) (.none)), slots := #[] }
noncomputable def kn291 (P : Params) : Obj := { cls := .type "code", dict := none, data := .fields #[.str (Str.ofString "go_on") 567, .str (Str.ofString "Levels.go_on") 568, .str (Str.ofString "/claim/cut.py") 569, .int (169) 0, .int (1) 0, .int (0) 0, .int (0) 0, .int (3) 0, .ref 286, .bool true, .int (181) 0, .ref 287, .none, .ref 288, .ref 289, .ref 290, .int (574) 0, .int (169) 0, .str (Str.ofString "/claim/cut.py") 575], slots := #[] }
noncomputable def kn292 (P : Params) : Obj := { cls := .type "function", dict := none, data := .func (fdOf (((getAt 1 (bodyOf (stAt 43))).getD (.Pass ⟨0, 0, 0, 0⟩))) (Str.ofString "Levels.go_on") (.none) (.none) (.none) (.str (Str.ofString "chancore.lookup") 465) none (.ref 291) (.none)), slots := #[] }
noncomputable def kn294 (P : Params) : Obj := { cls := .type "dict", dict := none, data := .dict #[⟨PyData.keyHash P (Str.ofString "__module__"), .str (Str.ofString "__module__") 553, .str (Str.ofString "chancore.lookup") 465⟩, ⟨PyData.keyHash P (Str.ofString "__firstlineno__"), .str (Str.ofString "__firstlineno__") 557, .int (162) 556⟩, ⟨PyData.keyHash P (Str.ofString "__init__"), .str (Str.ofString "__init__") 566, .ref 285⟩, ⟨PyData.keyHash P (Str.ofString "go_on"), .str (Str.ofString "go_on") 576, .ref 292⟩, ⟨PyData.keyHash P (Str.ofString "__static_attributes__"), .str (Str.ofString "__static_attributes__") 580, .ref 293⟩, ⟨PyData.keyHash P (Str.ofString "__dict__"), .str (Str.ofString "__dict__") 582, .ref 296⟩, ⟨PyData.keyHash P (Str.ofString "__weakref__"), .str (Str.ofString "__weakref__") 584, .ref 297⟩, ⟨PyData.keyHash P (Str.ofString "__doc__"), .str (Str.ofString "__doc__") 585, .none⟩] 4, slots := #[] }
noncomputable def kn295 (P : Params) : Obj := { cls := .type "type", dict := none, data := .cls { name := (Str.ofString "Levels"), bases := [.type "object"], mro := [.ref 295, .type "object"], ns := 294, qualname := (Str.ofString "Levels"), hasDict := true, slotNames := [], subclasses := [], abstract := false, collection := none, hasDel := false }, slots := #[none, none, (some (.str (Str.ofString "Levels") 546)), (some (.str (Str.ofString "Levels") 554)), (some (.builtin "object.__new__")), (some (.bool true))] }
noncomputable def kn305 (P : Params) : Obj := { cls := .type "code", dict := none, data := .fields #[.str (Str.ofString "start_type") 588, .str (Str.ofString "start_type") 589, .str (Str.ofString "/claim/cut.py") 590, .int (181) 0, .int (2) 0, .int (0) 0, .int (0) 0, .int (3) 0, .ref 300, .bool true, .int (181) 0, .ref 301, .none, .ref 302, .ref 303, .ref 304, .int (595) 0, .int (181) 0, .str (Str.ofString "/claim/cut.py") 596], slots := #[] }
noncomputable def kn306 (P : Params) : Obj := { cls := .type "function", dict := none, data := .func (fdOf (stAt 44) (Str.ofString "start_type") (.none) (.none) (.none) (.str (Str.ofString "chancore.lookup") 465) none (.ref 305) (.none)), slots := #[] }
noncomputable def kn312 (P : Params) : Obj := { cls := .type "code", dict := none, data := .fields #[.str (Str.ofString "find_member") 598, .str (Str.ofString "find_member") 599, .str (Str.ofString "/claim/cut.py") 600, .int (189) 0, .int (3) 0, .int (0) 0, .int (0) 0, .int (3) 0, .ref 307, .bool true, .int (181) 0, .ref 308, .none, .ref 309, .ref 310, .ref 311, .int (609) 0, .int (189) 0, .str (Str.ofString "/claim/cut.py") 610], slots := #[] }
noncomputable def kn313 (P : Params) : Obj := { cls := .type "function", dict := none, data := .func (fdOf (stAt 45) (Str.ofString "find_member") (.none) (.none) (.none) (.str (Str.ofString "chancore.lookup") 465) none (.ref 312) (.none)), slots := #[] }
noncomputable def kn319 (P : Params) : Obj := { cls := .type "code", dict := none, data := .fields #[.str (Str.ofString "names_of_methods") 614, .str (Str.ofString "names_of_methods") 615, .str (Str.ofString "/claim/cut.py") 616, .int (208) 0, .int (2) 0, .int (0) 0, .int (0) 0, .int (3) 0, .ref 314, .bool true, .int (181) 0, .ref 315, .none, .ref 316, .ref 317, .ref 318, .int (625) 0, .int (208) 0, .str (Str.ofString "/claim/cut.py") 626], slots := #[] }
noncomputable def kn320 (P : Params) : Obj := { cls := .type "function", dict := none, data := .func (fdOf (stAt 47) (Str.ofString "names_of_methods") (.none) (.none) (.none) (.str (Str.ofString "chancore.method_sets") 612) none (.ref 319) (.none)), slots := #[] }
noncomputable def kn326 (P : Params) : Obj := { cls := .type "code", dict := none, data := .fields #[.str (Str.ofString "member_or_none") 628, .str (Str.ofString "member_or_none") 629, .str (Str.ofString "/claim/cut.py") 630, .int (219) 0, .int (3) 0, .int (0) 0, .int (0) 0, .int (3) 0, .ref 321, .bool true, .int (181) 0, .ref 322, .none, .ref 323, .ref 324, .ref 325, .int (634) 0, .int (219) 0, .str (Str.ofString "/claim/cut.py") 635], slots := #[] }
noncomputable def kn327 (P : Params) : Obj := { cls := .type "function", dict := none, data := .func (fdOf (stAt 48) (Str.ofString "member_or_none") (.none) (.none) (.none) (.str (Str.ofString "chancore.method_sets") 612) none (.ref 326) (.none)), slots := #[] }
noncomputable def kn331 (P : Params) : Obj := { cls := .type "code", dict := none, data := .fields #[.str (Str.ofString "is_in_set") 637, .str (Str.ofString "is_in_set") 638, .str (Str.ofString "/claim/cut.py") 639, .int (224) 0, .int (2) 0, .int (0) 0, .int (0) 0, .int (3) 0, .ref 328, .bool true, .int (181) 0, .ref 329, .none, .none, .none, .ref 330, .int (640) 0, .int (224) 0, .str (Str.ofString "/claim/cut.py") 641], slots := #[] }
noncomputable def kn332 (P : Params) : Obj := { cls := .type "function", dict := none, data := .func (fdOf (stAt 49) (Str.ofString "is_in_set") (.none) (.none) (.none) (.str (Str.ofString "chancore.method_sets") 612) none (.ref 331) (.none)), slots := #[] }
noncomputable def kn338 (P : Params) : Obj := { cls := .type "code", dict := none, data := .fields #[.str (Str.ofString "method_set") 643, .str (Str.ofString "method_set") 644, .str (Str.ofString "/claim/cut.py") 645, .int (228) 0, .int (2) 0, .int (0) 0, .int (0) 0, .int (3) 0, .ref 333, .bool true, .int (181) 0, .ref 334, .none, .ref 335, .ref 336, .ref 337, .int (653) 0, .int (228) 0, .str (Str.ofString "/claim/cut.py") 654], slots := #[] }
noncomputable def kn339 (P : Params) : Obj := { cls := .type "function", dict := none, data := .func (fdOf (stAt 50) (Str.ofString "method_set") (.none) (.none) (.none) (.str (Str.ofString "chancore.method_sets") 612) none (.ref 338) (.none)), slots := #[] }
noncomputable def kn345 (P : Params) : Obj := { cls := .type "code", dict := none, data := .fields #[.str (Str.ofString "lack_of") 656, .str (Str.ofString "lack_of") 657, .str (Str.ofString "/claim/cut.py") 658, .int (238) 0, .int (4) 0, .int (0) 0, .int (0) 0, .int (3) 0, .ref 340, .bool true, .int (181) 0, .ref 341, .none, .ref 342, .ref 343, .ref 344, .int (664) 0, .int (238) 0, .str (Str.ofString "/claim/cut.py") 665], slots := #[] }
noncomputable def kn346 (P : Params) : Obj := { cls := .type "function", dict := none, data := .func (fdOf (stAt 51) (Str.ofString "lack_of") (.none) (.none) (.none) (.str (Str.ofString "chancore.method_sets") 612) none (.ref 345) (.none)), slots := #[] }
noncomputable def kn352 (P : Params) : Obj := { cls := .type "code", dict := none, data := .fields #[.str (Str.ofString "implements") 667, .str (Str.ofString "implements") 668, .str (Str.ofString "/claim/cut.py") 669, .int (244) 0, .int (3) 0, .int (0) 0, .int (0) 0, .int (3) 0, .ref 347, .bool true, .int (181) 0, .ref 348, .none, .ref 349, .ref 350, .ref 351, .int (676) 0, .int (244) 0, .str (Str.ofString "/claim/cut.py") 677], slots := #[] }
noncomputable def kn353 (P : Params) : Obj := { cls := .type "function", dict := none, data := .func (fdOf (stAt 52) (Str.ofString "implements") (.none) (.none) (.none) (.str (Str.ofString "chancore.method_sets") 612) none (.ref 352) (.none)), slots := #[] }
noncomputable def kn380 (P : Params) : Obj := { cls := .type "code", dict := none, data := .fields #[.str (Str.ofString "want_possible") 713, .str (Str.ofString "want_possible") 714, .str (Str.ofString "/claim/cut.py") 715, .int (288) 0, .int (4) 0, .int (0) 0, .int (0) 0, .int (3) 0, .ref 375, .bool true, .int (181) 0, .ref 376, .none, .ref 377, .ref 378, .ref 379, .int (721) 0, .int (288) 0, .str (Str.ofString "/claim/cut.py") 722], slots := #[] }
noncomputable def kn381 (P : Params) : Obj := { cls := .type "function", dict := none, data := .func (fdOf (stAt 57) (Str.ofString "want_possible") (.none) (.none) (.none) (.str (Str.ofString "chancore.check_exprs") 679) none (.ref 380) (.none)), slots := #[] }
noncomputable def kn489 (P : Params) : Obj := { cls := .type "code", dict := none, data := .fields #[.str (Str.ofString "is_like_chan") 894, .str (Str.ofString "is_like_chan") 895, .str (Str.ofString "/claim/cut.py") 896, .int (417) 0, .int (3) 0, .int (0) 0, .int (0) 0, .int (3) 0, .ref 484, .bool true, .int (181) 0, .ref 485, .none, .ref 486, .ref 487, .ref 488, .int (902) 0, .int (417) 0, .str (Str.ofString "/claim/cut.py") 903], slots := #[] }
noncomputable def kn490 (P : Params) : Obj := { cls := .type "function", dict := none, data := .func (fdOf (stAt 79) (Str.ofString "is_like_chan") (.none) (.none) (.none) (.str (Str.ofString "chancore.assign") 892) none (.ref 489) (.none)), slots := #[] }
noncomputable def kn496 (P : Params) : Obj := { cls := .type "code", dict := none, data := .fields #[.str (Str.ofString "meets_face") 905, .str (Str.ofString "meets_face") 906, .str (Str.ofString "/claim/cut.py") 907, .int (422) 0, .int (3) 0, .int (0) 0, .int (0) 0, .int (3) 0, .ref 491, .bool true, .int (181) 0, .ref 492, .none, .ref 493, .ref 494, .ref 495, .int (911) 0, .int (422) 0, .str (Str.ofString "/claim/cut.py") 912], slots := #[] }
noncomputable def kn497 (P : Params) : Obj := { cls := .type "function", dict := none, data := .func (fdOf (stAt 80) (Str.ofString "meets_face") (.none) (.none) (.none) (.str (Str.ofString "chancore.assign") 892) none (.ref 496) (.none)), slots := #[] }
noncomputable def kn498 (P : Params) : Obj := { cls := .type "tuple", dict := none, data := .seq #[.bool false] 0, slots := #[] }
noncomputable def kn504 (P : Params) : Obj := { cls := .type "code", dict := none, data := .fields #[.str (Str.ofString "is_assignable") 914, .str (Str.ofString "is_assignable") 915, .str (Str.ofString "/claim/cut.py") 916, .int (424) 0, .int (4) 0, .int (0) 0, .int (0) 0, .int (3) 0, .ref 499, .bool true, .int (181) 0, .ref 500, .none, .ref 501, .ref 502, .ref 503, .int (921) 0, .int (424) 0, .str (Str.ofString "/claim/cut.py") 922], slots := #[] }
noncomputable def kn505 (P : Params) : Obj := { cls := .type "function", dict := none, data := .func (fdOf (stAt 81) (Str.ofString "is_assignable") (.ref 498) (.none) (.none) (.str (Str.ofString "chancore.assign") 892) none (.ref 504) (.none)), slots := #[] }
noncomputable def kn864 (P : Params) : Obj := { cls := .type "tuple", dict := none, data := .seq #[.str (Str.ofString "int") 1522, .str (Str.ofString "int") 1523] 0, slots := #[] }
noncomputable def kn866 (P : Params) : Obj := { cls := .type "tuple", dict := none, data := .seq #[.str (Str.ofString "for") 1528, .str (Str.ofString "range") 1529] 0, slots := #[] }
noncomputable def kn875 (P : Params) : Obj := { cls := .type "code", dict := none, data := .fields #[.str (Str.ofString "is_blank_name") 1536, .str (Str.ofString "is_blank_name") 1537, .str (Str.ofString "/claim/cut.py") 1538, .int (848) 0, .int (1) 0, .int (0) 0, .int (0) 0, .int (3) 0, .ref 870, .bool true, .int (181) 0, .ref 871, .none, .ref 872, .ref 873, .ref 874, .int (1540) 0, .int (848) 0, .str (Str.ofString "/claim/cut.py") 1541], slots := #[] }
noncomputable def kn876 (P : Params) : Obj := { cls := .type "function", dict := none, data := .func (fdOf (stAt 134) (Str.ofString "is_blank_name") (.none) (.none) (.none) (.str (Str.ofString "chancore.check_loops") 1520) none (.ref 875) (.none)), slots := #[] }
noncomputable def kn880 (P : Params) : Obj := { cls := .type "code", dict := none, data := .fields #[.str (Str.ofString "has_calls") 1543, .str (Str.ofString "has_calls") 1544, .str (Str.ofString "/claim/cut.py") 1545, .int (850) 0, .int (1) 0, .int (0) 0, .int (0) 0, .int (3) 0, .ref 877, .bool true, .int (181) 0, .ref 878, .none, .none, .none, .ref 879, .int (1546) 0, .int (850) 0, .str (Str.ofString "/claim/cut.py") 1547], slots := #[] }
noncomputable def kn881 (P : Params) : Obj := { cls := .type "function", dict := none, data := .func (fdOf (stAt 135) (Str.ofString "has_calls") (.none) (.none) (.none) (.str (Str.ofString "chancore.check_loops") 1520) none (.ref 880) (.none)), slots := #[] }
noncomputable def kn887 (P : Params) : Obj := { cls := .type "code", dict := none, data := .fields #[.str (Str.ofString "truth_as") 1549, .str (Str.ofString "truth_as") 1550, .str (Str.ofString "/claim/cut.py") 1551, .int (858) 0, .int (4) 0, .int (0) 0, .int (0) 0, .int (3) 0, .ref 882, .bool true, .int (181) 0, .ref 883, .none, .ref 884, .ref 885, .ref 886, .int (1556) 0, .int (858) 0, .str (Str.ofString "/claim/cut.py") 1557], slots := #[] }
noncomputable def kn888 (P : Params) : Obj := { cls := .type "function", dict := none, data := .func (fdOf (stAt 136) (Str.ofString "truth_as") (.none) (.none) (.none) (.str (Str.ofString "chancore.check_loops") 1520) none (.ref 887) (.none)), slots := #[] }
noncomputable def kn901 (P : Params) : Obj := { cls := .type "code", dict := none, data := .fields #[.str (Str.ofString "__init__") 1571, .str (Str.ofString "LoopRow.__init__") 1572, .str (Str.ofString "/claim/cut.py") 1573, .int (864) 0, .int (3) 0, .int (0) 0, .int (0) 0, .int (3) 0, .ref 896, .bool true, .int (181) 0, .ref 897, .none, .ref 898, .ref 899, .ref 900, .int (1577) 0, .int (864) 0, .str (Str.ofString "/claim/cut.py") 1578], slots := #[] }
noncomputable def kn902 (P : Params) : Obj := { cls := .type "function", dict := none, data := .func (fdOf (((getAt 0 (bodyOf (stAt 137))).getD (.Pass ⟨0, 0, 0, 0⟩))) (Str.ofString "LoopRow.__init__") (.none) (.none) (.none) (.str (Str.ofString "chancore.check_loops") 1520) none (.ref 901) (.none)), slots := #[] }
noncomputable def kn904 (P : Params) : Obj := { cls := .type "dict", dict := none, data := .dict #[⟨PyData.keyHash P (Str.ofString "__module__"), .str (Str.ofString "__module__") 1566, .str (Str.ofString "chancore.check_loops") 1520⟩, ⟨PyData.keyHash P (Str.ofString "__firstlineno__"), .str (Str.ofString "__firstlineno__") 1570, .int (862) 1569⟩, ⟨PyData.keyHash P (Str.ofString "__init__"), .str (Str.ofString "__init__") 1579, .ref 902⟩, ⟨PyData.keyHash P (Str.ofString "__static_attributes__"), .str (Str.ofString "__static_attributes__") 1583, .ref 903⟩, ⟨PyData.keyHash P (Str.ofString "__dict__"), .str (Str.ofString "__dict__") 1585, .ref 906⟩, ⟨PyData.keyHash P (Str.ofString "__weakref__"), .str (Str.ofString "__weakref__") 1587, .ref 907⟩, ⟨PyData.keyHash P (Str.ofString "__doc__"), .str (Str.ofString "__doc__") 1588, .none⟩] 4, slots := #[] }
noncomputable def kn905 (P : Params) : Obj := { cls := .type "type", dict := none, data := .cls { name := (Str.ofString "LoopRow"), bases := [.type "object"], mro := [.ref 905, .type "object"], ns := 904, qualname := (Str.ofString "LoopRow"), hasDict := true, slotNames := [], subclasses := [], abstract := false, collection := none, hasDel := false }, slots := #[none, none, (some (.str (Str.ofString "LoopRow") 1559)), (some (.str (Str.ofString "LoopRow") 1567)), (some (.builtin "object.__new__")), (some (.bool true))] }
noncomputable def kn915 (P : Params) : Obj := { cls := .type "code", dict := none, data := .fields #[.str (Str.ofString "begun_loop") 1591, .str (Str.ofString "begun_loop") 1592, .str (Str.ofString "/claim/cut.py") 1593, .int (868) 0, .int (3) 0, .int (0) 0, .int (0) 0, .int (3) 0, .ref 910, .bool true, .int (181) 0, .ref 911, .none, .ref 912, .ref 913, .ref 914, .int (1597) 0, .int (868) 0, .str (Str.ofString "/claim/cut.py") 1598], slots := #[] }
noncomputable def kn916 (P : Params) : Obj := { cls := .type "function", dict := none, data := .func (fdOf (stAt 138) (Str.ofString "begun_loop") (.none) (.none) (.none) (.str (Str.ofString "chancore.check_loops") 1520) none (.ref 915) (.none)), slots := #[] }
noncomputable def kn922 (P : Params) : Obj := { cls := .type "code", dict := none, data := .fields #[.str (Str.ofString "place_led_to") 1600, .str (Str.ofString "place_led_to") 1601, .str (Str.ofString "/claim/cut.py") 1602, .int (871) 0, .int (2) 0, .int (0) 0, .int (0) 0, .int (3) 0, .ref 917, .bool true, .int (181) 0, .ref 918, .none, .ref 919, .ref 920, .ref 921, .int (1611) 0, .int (871) 0, .str (Str.ofString "/claim/cut.py") 1612], slots := #[] }
noncomputable def kn923 (P : Params) : Obj := { cls := .type "function", dict := none, data := .func (fdOf (stAt 139) (Str.ofString "place_led_to") (.none) (.none) (.none) (.str (Str.ofString "chancore.check_loops") 1520) none (.ref 922) (.none)), slots := #[] }
noncomputable def kn936 (P : Params) : Obj := { cls := .type "code", dict := none, data := .fields #[.str (Str.ofString "__init__") 1626, .str (Str.ofString "Breakable.__init__") 1627, .str (Str.ofString "/claim/cut.py") 1628, .int (881) 0, .int (4) 0, .int (0) 0, .int (0) 0, .int (3) 0, .ref 931, .bool true, .int (181) 0, .ref 932, .none, .ref 933, .ref 934, .ref 935, .int (1633) 0, .int (881) 0, .str (Str.ofString "/claim/cut.py") 1634], slots := #[] }
noncomputable def kn937 (P : Params) : Obj := { cls := .type "function", dict := none, data := .func (fdOf (((getAt 0 (bodyOf (stAt 140))).getD (.Pass ⟨0, 0, 0, 0⟩))) (Str.ofString "Breakable.__init__") (.none) (.none) (.none) (.str (Str.ofString "chancore.check_loops") 1520) none (.ref 936) (.none)), slots := #[] }
noncomputable def kn990 (P : Params) : Obj := { cls := .type "code", dict := none, data := .fields #[.str (Str.ofString "array_way") 1708, .str (Str.ofString "Breakable.array_way") 1709, .str (Str.ofString "/claim/cut.py") 1710, .int (961) 0, .int (5) 0, .int (0) 0, .int (0) 0, .int (3) 0, .ref 985, .bool true, .int (181) 0, .ref 986, .none, .ref 987, .ref 988, .ref 989, .int (1721) 0, .int (961) 0, .str (Str.ofString "/claim/cut.py") 1722], slots := #[] }
noncomputable def kn991 (P : Params) : Obj := { cls := .type "function", dict := none, data := .func (fdOf (((getAt 8 (bodyOf (stAt 140))).getD (.Pass ⟨0, 0, 0, 0⟩))) (Str.ofString "Breakable.array_way") (.none) (.none) (.none) (.str (Str.ofString "chancore.check_loops") 1520) none (.ref 990) (.none)), slots := #[] }
noncomputable def kn1041 (P : Params) : Obj := { cls := .type "code", dict := none, data := .fields #[.str (Str.ofString "want_unlike") 1804, .str (Str.ofString "Breakable.want_unlike") 1805, .str (Str.ofString "/claim/cut.py") 1806, .int (1091) 0, .int (5) 0, .int (0) 0, .int (0) 0, .int (3) 0, .ref 1036, .bool true, .int (181) 0, .ref 1037, .none, .ref 1038, .ref 1039, .ref 1040, .int (1813) 0, .int (1091) 0, .str (Str.ofString "/claim/cut.py") 1814], slots := #[] }
noncomputable def kn1042 (P : Params) : Obj := { cls := .type "function", dict := none, data := .func (fdOf (((getAt 16 (bodyOf (stAt 140))).getD (.Pass ⟨0, 0, 0, 0⟩))) (Str.ofString "Breakable.want_unlike") (.none) (.none) (.none) (.str (Str.ofString "chancore.check_loops") 1520) none (.ref 1041) (.none)), slots := #[] }
noncomputable def kn1065 (P : Params) : Obj := { cls := .type "dict", dict := none, data := .dict #[⟨PyData.keyHash P (Str.ofString "__module__"), .str (Str.ofString "__module__") 1621, .str (Str.ofString "chancore.check_loops") 1520⟩, ⟨PyData.keyHash P (Str.ofString "__firstlineno__"), .str (Str.ofString "__firstlineno__") 1625, .int (879) 1624⟩, ⟨PyData.keyHash P (Str.ofString "__init__"), .str (Str.ofString "__init__") 1635, .ref 937⟩, ⟨PyData.keyHash P (Str.ofString "check"), .str (Str.ofString "check") 1648, .ref 944⟩, ⟨PyData.keyHash P (Str.ofString "block"), .str (Str.ofString "block") 1658, .ref 951⟩, ⟨PyData.keyHash P (Str.ofString "init"), .str (Str.ofString "init") 1666, .ref 958⟩, ⟨PyData.keyHash P (Str.ofString "loop"), .str (Str.ofString "loop") 1672, .ref 963⟩, ⟨PyData.keyHash P (Str.ofString "number_place"), .str (Str.ofString "number_place") 1682, .ref 970⟩, ⟨PyData.keyHash P (Str.ofString "gone_through"), .str (Str.ofString "gone_through") 1696, .ref 977⟩, ⟨PyData.keyHash P (Str.ofString "ways_through"), .str (Str.ofString "ways_through") 1707, .ref 984⟩, ⟨PyData.keyHash P (Str.ofString "array_way"), .str (Str.ofString "array_way") 1723, .ref 991⟩, ⟨PyData.keyHash P (Str.ofString "taken"), .str (Str.ofString "taken") 1729, .ref 997⟩, ⟨PyData.keyHash P (Str.ofString "range"), .str (Str.ofString "range") 1753, .ref 1004⟩, ⟨PyData.keyHash P (Str.ofString "truth"), .str (Str.ofString "truth") 1770, .ref 1011⟩, ⟨PyData.keyHash P (Str.ofString "tag"), .str (Str.ofString "tag") 1781, .ref 1018⟩, ⟨PyData.keyHash P (Str.ofString "switch"), .str (Str.ofString "switch") 1787, .ref 1023⟩, ⟨PyData.keyHash P (Str.ofString "types"), .str (Str.ofString "types") 1793, .ref 1028⟩, ⟨PyData.keyHash P (Str.ofString "type_told"), .str (Str.ofString "type_told") 1803, .ref 1035⟩, ⟨PyData.keyHash P (Str.ofString "want_unlike"), .str (Str.ofString "want_unlike") 1815, .ref 1042⟩, ⟨PyData.keyHash P (Str.ofString "case_of_type"), .str (Str.ofString "case_of_type") 1832, .ref 1049⟩, ⟨PyData.keyHash P (Str.ofString "choose"), .str (Str.ofString "choose") 1851, .ref 1056⟩, ⟨PyData.keyHash P (Str.ofString "deed"), .str (Str.ofString "deed") 1868, .ref 1063⟩, ⟨PyData.keyHash P (Str.ofString "__static_attributes__"), .str (Str.ofString "__static_attributes__") 1872, .ref 1064⟩, ⟨PyData.keyHash P (Str.ofString "__dict__"), .str (Str.ofString "__dict__") 1874, .ref 1067⟩, ⟨PyData.keyHash P (Str.ofString "__weakref__"), .str (Str.ofString "__weakref__") 1876, .ref 1068⟩, ⟨PyData.keyHash P (Str.ofString "__doc__"), .str (Str.ofString "__doc__") 1877, .none⟩] 4, slots := #[] }
noncomputable def kn1066 (P : Params) : Obj := { cls := .type "type", dict := none, data := .cls { name := (Str.ofString "Breakable"), bases := [.type "object"], mro := [.ref 1066, .type "object"], ns := 1065, qualname := (Str.ofString "Breakable"), hasDict := true, slotNames := [], subclasses := [], abstract := false, collection := none, hasDel := false }, slots := #[none, none, (some (.str (Str.ofString "Breakable") 1614)), (some (.str (Str.ofString "Breakable") 1622)), (some (.builtin "object.__new__")), (some (.bool true))] }
noncomputable def kn1099 (P : Params) : Obj := { cls := .type "tuple", dict := none, data := .seq #[.none] 0, slots := #[] }
noncomputable def kn1105 (P : Params) : Obj := { cls := .type "code", dict := none, data := .fields #[.str (Str.ofString "__init__") 1932, .str (Str.ofString "Scope.__init__") 1933, .str (Str.ofString "/claim/cut.py") 1934, .int (1147) 0, .int (3) 0, .int (0) 0, .int (0) 0, .int (3) 0, .ref 1100, .bool true, .int (181) 0, .ref 1101, .none, .ref 1102, .ref 1103, .ref 1104, .int (1938) 0, .int (1147) 0, .str (Str.ofString "/claim/cut.py") 1939], slots := #[] }
noncomputable def kn1106 (P : Params) : Obj := { cls := .type "function", dict := none, data := .func (fdOf (((getAt 0 (bodyOf (stAt 143))).getD (.Pass ⟨0, 0, 0, 0⟩))) (Str.ofString "Scope.__init__") (.ref 1099) (.none) (.none) (.str (Str.ofString "chancore.scopes") 1880) none (.ref 1105) (.none)), slots := #[] }
noncomputable def kn1159 (P : Params) : Obj := { cls := .type "dict", dict := none, data := .dict #[⟨PyData.keyHash P (Str.ofString "__module__"), .str (Str.ofString "__module__") 1927, .str (Str.ofString "chancore.scopes") 1880⟩, ⟨PyData.keyHash P (Str.ofString "__firstlineno__"), .str (Str.ofString "__firstlineno__") 1931, .int (1145) 1930⟩, ⟨PyData.keyHash P (Str.ofString "__init__"), .str (Str.ofString "__init__") 1940, .ref 1106⟩, ⟨PyData.keyHash P (Str.ofString "declare"), .str (Str.ofString "declare") 1951, .ref 1114⟩, ⟨PyData.keyHash P (Str.ofString "is_here"), .str (Str.ofString "is_here") 1959, .ref 1121⟩, ⟨PyData.keyHash P (Str.ofString "row"), .str (Str.ofString "row") 1968, .ref 1128⟩, ⟨PyData.keyHash P (Str.ofString "find"), .str (Str.ofString "find") 1978, .ref 1136⟩, ⟨PyData.keyHash P (Str.ofString "use"), .str (Str.ofString "use") 1986, .ref 1143⟩, ⟨PyData.keyHash P (Str.ofString "unused"), .str (Str.ofString "unused") 1996, .ref 1150⟩, ⟨PyData.keyHash P (Str.ofString "depth"), .str (Str.ofString "depth") 2003, .ref 1157⟩, ⟨PyData.keyHash P (Str.ofString "__static_attributes__"), .str (Str.ofString "__static_attributes__") 2007, .ref 1158⟩, ⟨PyData.keyHash P (Str.ofString "__dict__"), .str (Str.ofString "__dict__") 2009, .ref 1161⟩, ⟨PyData.keyHash P (Str.ofString "__weakref__"), .str (Str.ofString "__weakref__") 2011, .ref 1162⟩, ⟨PyData.keyHash P (Str.ofString "__doc__"), .str (Str.ofString "__doc__") 2012, .none⟩] 4, slots := #[] }
noncomputable def kn1160 (P : Params) : Obj := { cls := .type "type", dict := none, data := .cls { name := (Str.ofString "Scope"), bases := [.type "object"], mro := [.ref 1160, .type "object"], ns := 1159, qualname := (Str.ofString "Scope"), hasDict := true, slotNames := [], subclasses := [], abstract := false, collection := none, hasDel := false }, slots := #[none, none, (some (.str (Str.ofString "Scope") 1920)), (some (.str (Str.ofString "Scope") 1928)), (some (.builtin "object.__new__")), (some (.bool true))] }
noncomputable def kn1173 (P : Params) : Obj := { cls := .type "tuple", dict := none, data := .seq #[.none] 0, slots := #[] }
noncomputable def kn1179 (P : Params) : Obj := { cls := .type "code", dict := none, data := .fields #[.str (Str.ofString "__init__") 2032, .str (Str.ofString "Checker.__init__") 2033, .str (Str.ofString "/claim/cut.py") 2034, .int (1193) 0, .int (8) 0, .int (0) 0, .int (0) 0, .int (3) 0, .ref 1174, .bool true, .int (181) 0, .ref 1175, .none, .ref 1176, .ref 1177, .ref 1178, .int (2043) 0, .int (1193) 0, .str (Str.ofString "/claim/cut.py") 2044], slots := #[] }
noncomputable def kn1180 (P : Params) : Obj := { cls := .type "function", dict := none, data := .func (fdOf (((getAt 0 (bodyOf (stAt 146))).getD (.Pass ⟨0, 0, 0, 0⟩))) (Str.ofString "Checker.__init__") (.ref 1173) (.none) (.none) (.str (Str.ofString "chancore.check_state") 2015) none (.ref 1179) (.none)), slots := #[] }
noncomputable def kn1216 (P : Params) : Obj := { cls := .type "code", dict := none, data := .fields #[.str (Str.ofString "coerce") 2081, .str (Str.ofString "Checker.coerce") 2082, .str (Str.ofString "/claim/cut.py") 2083, .int (1228) 0, .int (4) 0, .int (0) 0, .int (0) 0, .int (3) 0, .ref 1211, .bool true, .int (181) 0, .ref 1212, .none, .ref 1213, .ref 1214, .ref 1215, .int (2090) 0, .int (1228) 0, .str (Str.ofString "/claim/cut.py") 2091], slots := #[] }
noncomputable def kn1217 (P : Params) : Obj := { cls := .type "function", dict := none, data := .func (fdOf (((getAt 5 (bodyOf (stAt 146))).getD (.Pass ⟨0, 0, 0, 0⟩))) (Str.ofString "Checker.coerce") (.none) (.none) (.none) (.str (Str.ofString "chancore.check_state") 2015) none (.ref 1216) (.none)), slots := #[] }
noncomputable def kn1239 (P : Params) : Obj := { cls := .type "tuple", dict := none, data := .seq #[.none] 0, slots := #[] }
noncomputable def kn1245 (P : Params) : Obj := { cls := .type "code", dict := none, data := .fields #[.str (Str.ofString "hidden") 2118, .str (Str.ofString "Checker.hidden") 2119, .str (Str.ofString "/claim/cut.py") 2120, .int (1256) 0, .int (3) 0, .int (0) 0, .int (0) 0, .int (3) 0, .ref 1240, .bool true, .int (181) 0, .ref 1241, .none, .ref 1242, .ref 1243, .ref 1244, .int (2124) 0, .int (1256) 0, .str (Str.ofString "/claim/cut.py") 2125], slots := #[] }
noncomputable def kn1246 (P : Params) : Obj := { cls := .type "function", dict := none, data := .func (fdOf (((getAt 9 (bodyOf (stAt 146))).getD (.Pass ⟨0, 0, 0, 0⟩))) (Str.ofString "Checker.hidden") (.ref 1239) (.none) (.none) (.str (Str.ofString "chancore.check_state") 2015) none (.ref 1245) (.none)), slots := #[] }
noncomputable def kn1277 (P : Params) : Obj := { cls := .type "dict", dict := none, data := .dict #[⟨PyData.keyHash P (Str.ofString "__module__"), .str (Str.ofString "__module__") 2027, .str (Str.ofString "chancore.check_state") 2015⟩, ⟨PyData.keyHash P (Str.ofString "__firstlineno__"), .str (Str.ofString "__firstlineno__") 2031, .int (1191) 2030⟩, ⟨PyData.keyHash P (Str.ofString "__init__"), .str (Str.ofString "__init__") 2045, .ref 1180⟩, ⟨PyData.keyHash P (Str.ofString "expr"), .str (Str.ofString "expr") 2054, .ref 1188⟩, ⟨PyData.keyHash P (Str.ofString "value"), .str (Str.ofString "value") 2063, .ref 1196⟩, ⟨PyData.keyHash P (Str.ofString "value_made"), .str (Str.ofString "value_made") 2072, .ref 1203⟩, ⟨PyData.keyHash P (Str.ofString "typex"), .str (Str.ofString "typex") 2080, .ref 1210⟩, ⟨PyData.keyHash P (Str.ofString "coerce"), .str (Str.ofString "coerce") 2092, .ref 1217⟩, ⟨PyData.keyHash P (Str.ofString "takes_type"), .str (Str.ofString "takes_type") 2101, .ref 1224⟩, ⟨PyData.keyHash P (Str.ofString "open"), .str (Str.ofString "open") 2108, .ref 1231⟩, ⟨PyData.keyHash P (Str.ofString "close"), .str (Str.ofString "close") 2117, .ref 1238⟩, ⟨PyData.keyHash P (Str.ofString "hidden"), .str (Str.ofString "hidden") 2126, .ref 1246⟩, ⟨PyData.keyHash P (Str.ofString "declare"), .str (Str.ofString "declare") 2138, .ref 1254⟩, ⟨PyData.keyHash P (Str.ofString "own_local"), .str (Str.ofString "own_local") 2152, .ref 1261⟩, ⟨PyData.keyHash P (Str.ofString "begin"), .str (Str.ofString "begin") 2163, .ref 1268⟩, ⟨PyData.keyHash P (Str.ofString "finished"), .str (Str.ofString "finished") 2171, .ref 1275⟩, ⟨PyData.keyHash P (Str.ofString "__static_attributes__"), .str (Str.ofString "__static_attributes__") 2189, .ref 1276⟩, ⟨PyData.keyHash P (Str.ofString "__dict__"), .str (Str.ofString "__dict__") 2191, .ref 1279⟩, ⟨PyData.keyHash P (Str.ofString "__weakref__"), .str (Str.ofString "__weakref__") 2193, .ref 1280⟩, ⟨PyData.keyHash P (Str.ofString "__doc__"), .str (Str.ofString "__doc__") 2194, .none⟩] 4, slots := #[] }
noncomputable def kn1278 (P : Params) : Obj := { cls := .type "type", dict := none, data := .cls { name := (Str.ofString "Checker"), bases := [.type "object"], mro := [.ref 1278, .type "object"], ns := 1277, qualname := (Str.ofString "Checker"), hasDict := true, slotNames := [], subclasses := [], abstract := false, collection := none, hasDel := false }, slots := #[none, none, (some (.str (Str.ofString "Checker") 2020)), (some (.str (Str.ofString "Checker") 2028)), (some (.builtin "object.__new__")), (some (.bool true))] }
noncomputable def kn1283 (P : Params) : Obj := { cls := .type "tuple", dict := none, data := .seq #[] 0, slots := #[] }
noncomputable def kn1284 (P : Params) : Obj := { cls := .type "tuple", dict := none, data := .seq #[] 0, slots := #[] }
noncomputable def kn1285 (P : Params) : Obj := { cls := .type "tuple", dict := none, data := .seq #[.str (Str.ofString "func") 2199, .ref 1283, .ref 1284, .bool false] 0, slots := #[] }
noncomputable def kn1298 (P : Params) : Obj := { cls := .type "code", dict := none, data := .fields #[.str (Str.ofString "__init__") 2213, .str (Str.ofString "NamedRow.__init__") 2214, .str (Str.ofString "/claim/cut.py") 2215, .int (1286) 0, .int (5) 0, .int (0) 0, .int (0) 0, .int (3) 0, .ref 1293, .bool true, .int (181) 0, .ref 1294, .none, .ref 1295, .ref 1296, .ref 1297, .int (2221) 0, .int (1286) 0, .str (Str.ofString "/claim/cut.py") 2222], slots := #[] }
noncomputable def kn1299 (P : Params) : Obj := { cls := .type "function", dict := none, data := .func (fdOf (((getAt 0 (bodyOf (stAt 149))).getD (.Pass ⟨0, 0, 0, 0⟩))) (Str.ofString "NamedRow.__init__") (.none) (.none) (.none) (.str (Str.ofString "chancore.world") 2197) none (.ref 1298) (.none)), slots := #[] }
noncomputable def kn1301 (P : Params) : Obj := { cls := .type "dict", dict := none, data := .dict #[⟨PyData.keyHash P (Str.ofString "__module__"), .str (Str.ofString "__module__") 2208, .str (Str.ofString "chancore.world") 2197⟩, ⟨PyData.keyHash P (Str.ofString "__firstlineno__"), .str (Str.ofString "__firstlineno__") 2212, .int (1284) 2211⟩, ⟨PyData.keyHash P (Str.ofString "__init__"), .str (Str.ofString "__init__") 2223, .ref 1299⟩, ⟨PyData.keyHash P (Str.ofString "__static_attributes__"), .str (Str.ofString "__static_attributes__") 2228, .ref 1300⟩, ⟨PyData.keyHash P (Str.ofString "__dict__"), .str (Str.ofString "__dict__") 2230, .ref 1303⟩, ⟨PyData.keyHash P (Str.ofString "__weakref__"), .str (Str.ofString "__weakref__") 2232, .ref 1304⟩, ⟨PyData.keyHash P (Str.ofString "__doc__"), .str (Str.ofString "__doc__") 2233, .none⟩] 4, slots := #[] }
noncomputable def kn1302 (P : Params) : Obj := { cls := .type "type", dict := none, data := .cls { name := (Str.ofString "NamedRow"), bases := [.type "object"], mro := [.ref 1302, .type "object"], ns := 1301, qualname := (Str.ofString "NamedRow"), hasDict := true, slotNames := [], subclasses := [], abstract := false, collection := none, hasDel := false }, slots := #[none, none, (some (.str (Str.ofString "NamedRow") 2201)), (some (.str (Str.ofString "NamedRow") 2209)), (some (.builtin "object.__new__")), (some (.bool true))] }
noncomputable def kn1312 (P : Params) : Obj := { cls := .type "code", dict := none, data := .fields #[.str (Str.ofString "known_rows") 2236, .str (Str.ofString "known_rows") 2237, .str (Str.ofString "/claim/cut.py") 2238, .int (1291) 0, .int (0) 0, .int (0) 0, .int (0) 0, .int (3) 0, .ref 1307, .bool true, .int (181) 0, .ref 1308, .none, .ref 1309, .ref 1310, .ref 1311, .int (2246) 0, .int (1291) 0, .str (Str.ofString "/claim/cut.py") 2247], slots := #[] }
noncomputable def kn1313 (P : Params) : Obj := { cls := .type "function", dict := none, data := .func (fdOf (stAt 150) (Str.ofString "known_rows") (.none) (.none) (.none) (.str (Str.ofString "chancore.world") 2197) none (.ref 1312) (.none)), slots := #[] }
noncomputable def kn1321 (P : Params) : Obj := { cls := .type "tuple", dict := none, data := .seq #[.none] 0, slots := #[] }
noncomputable def kn1327 (P : Params) : Obj := { cls := .type "code", dict := none, data := .fields #[.str (Str.ofString "__init__") 2261, .str (Str.ofString "World.__init__") 2262, .str (Str.ofString "/claim/cut.py") 2263, .int (1302) 0, .int (2) 0, .int (0) 0, .int (0) 0, .int (3) 0, .ref 1322, .bool true, .int (181) 0, .ref 1323, .none, .ref 1324, .ref 1325, .ref 1326, .int (2266) 0, .int (1302) 0, .str (Str.ofString "/claim/cut.py") 2267], slots := #[] }
noncomputable def kn1328 (P : Params) : Obj := { cls := .type "function", dict := none, data := .func (fdOf (((getAt 0 (bodyOf (stAt 151))).getD (.Pass ⟨0, 0, 0, 0⟩))) (Str.ofString "World.__init__") (.ref 1321) (.none) (.none) (.str (Str.ofString "chancore.world") 2197) none (.ref 1327) (.none)), slots := #[] }
noncomputable def kn1334 (P : Params) : Obj := { cls := .type "code", dict := none, data := .fields #[.str (Str.ofString "base_of") 2269, .str (Str.ofString "World.base_of") 2270, .str (Str.ofString "/claim/cut.py") 2271, .int (1324) 0, .int (2) 0, .int (0) 0, .int (0) 0, .int (3) 0, .ref 1329, .bool true, .int (181) 0, .ref 1330, .none, .ref 1331, .ref 1332, .ref 1333, .int (2275) 0, .int (1324) 0, .str (Str.ofString "/claim/cut.py") 2276], slots := #[] }
noncomputable def kn1335 (P : Params) : Obj := { cls := .type "function", dict := none, data := .func (fdOf (((getAt 1 (bodyOf (stAt 151))).getD (.Pass ⟨0, 0, 0, 0⟩))) (Str.ofString "World.base_of") (.none) (.none) (.none) (.str (Str.ofString "chancore.world") 2197) none (.ref 1334) (.none)), slots := #[] }
noncomputable def kn1344 (P : Params) : Obj := { cls := .type "dict", dict := none, data := .dict #[⟨PyData.keyHash P (Str.ofString "__module__"), .str (Str.ofString "__module__") 2256, .str (Str.ofString "chancore.world") 2197⟩, ⟨PyData.keyHash P (Str.ofString "__firstlineno__"), .str (Str.ofString "__firstlineno__") 2260, .int (1300) 2259⟩, ⟨PyData.keyHash P (Str.ofString "__init__"), .str (Str.ofString "__init__") 2268, .ref 1328⟩, ⟨PyData.keyHash P (Str.ofString "base_of"), .str (Str.ofString "base_of") 2277, .ref 1335⟩, ⟨PyData.keyHash P (Str.ofString "settled"), .str (Str.ofString "settled") 2285, .ref 1342⟩, ⟨PyData.keyHash P (Str.ofString "__static_attributes__"), .str (Str.ofString "__static_attributes__") 2306, .ref 1343⟩, ⟨PyData.keyHash P (Str.ofString "__dict__"), .str (Str.ofString "__dict__") 2308, .ref 1346⟩, ⟨PyData.keyHash P (Str.ofString "__weakref__"), .str (Str.ofString "__weakref__") 2310, .ref 1347⟩, ⟨PyData.keyHash P (Str.ofString "__doc__"), .str (Str.ofString "__doc__") 2311, .none⟩] 4, slots := #[] }
noncomputable def kn1345 (P : Params) : Obj := { cls := .type "type", dict := none, data := .cls { name := (Str.ofString "World"), bases := [.type "object"], mro := [.ref 1345, .type "object"], ns := 1344, qualname := (Str.ofString "World"), hasDict := true, slotNames := [], subclasses := [], abstract := false, collection := none, hasDel := false }, slots := #[none, none, (some (.str (Str.ofString "World") 2249)), (some (.str (Str.ofString "World") 2257)), (some (.builtin "object.__new__")), (some (.bool true))] }
noncomputable def kn1355 (P : Params) : Obj := { cls := .type "code", dict := none, data := .fields #[.str (Str.ofString "_law_reel") 2316, .str (Str.ofString "_law_reel") 2317, .str (Str.ofString "/claim/cut.py") 2318, .int (1341) 0, .int (1) 0, .int (0) 0, .int (0) 0, .int (3) 0, .ref 1350, .bool true, .int (181) 0, .ref 1351, .none, .ref 1352, .ref 1353, .ref 1354, .int (2322) 0, .int (1341) 0, .str (Str.ofString "/claim/cut.py") 2323], slots := #[] }
noncomputable def kn1356 (P : Params) : Obj := { cls := .type "function", dict := none, data := .func (fdOf (stAt 153) (Str.ofString "_law_reel") (.none) (.none) (.none) (.str (Str.ofString "law_xm0202_01") 2314) none (.ref 1355) (.none)), slots := #[] }
noncomputable def kn1362 (P : Params) : Obj := { cls := .type "code", dict := none, data := .fields #[.str (Str.ofString "_law_wound") 2325, .str (Str.ofString "_law_wound") 2326, .str (Str.ofString "/claim/cut.py") 2327, .int (1345) 0, .int (2) 0, .int (0) 0, .int (0) 0, .int (3) 0, .ref 1357, .bool true, .int (181) 0, .ref 1358, .none, .ref 1359, .ref 1360, .ref 1361, .int (2331) 0, .int (1345) 0, .str (Str.ofString "/claim/cut.py") 2332], slots := #[] }
noncomputable def kn1363 (P : Params) : Obj := { cls := .type "function", dict := none, data := .func (fdOf (stAt 154) (Str.ofString "_law_wound") (.none) (.none) (.none) (.str (Str.ofString "law_xm0202_01") 2314) none (.ref 1362) (.none)), slots := #[] }
noncomputable def kn1369 (P : Params) : Obj := { cls := .type "code", dict := none, data := .fields #[.str (Str.ofString "_law_one") 2334, .str (Str.ofString "_law_one") 2335, .str (Str.ofString "/claim/cut.py") 2336, .int (1352) 0, .int (2) 0, .int (0) 0, .int (0) 0, .int (3) 0, .ref 1364, .bool true, .int (181) 0, .ref 1365, .none, .ref 1366, .ref 1367, .ref 1368, .int (2339) 0, .int (1352) 0, .str (Str.ofString "/claim/cut.py") 2340], slots := #[] }
noncomputable def kn1370 (P : Params) : Obj := { cls := .type "function", dict := none, data := .func (fdOf (stAt 155) (Str.ofString "_law_one") (.none) (.none) (.none) (.str (Str.ofString "law_xm0202_01") 2314) none (.ref 1369) (.none)), slots := #[] }
noncomputable def kn1376 (P : Params) : Obj := { cls := .type "code", dict := none, data := .fields #[.str (Str.ofString "_law_tried") 2342, .str (Str.ofString "_law_tried") 2343, .str (Str.ofString "/claim/cut.py") 2344, .int (1354) 0, .int (1) 0, .int (0) 0, .int (0) 0, .int (3) 0, .ref 1371, .bool true, .int (181) 0, .ref 1372, .none, .ref 1373, .ref 1374, .ref 1375, .int (2347) 0, .int (1354) 0, .str (Str.ofString "/claim/cut.py") 2348], slots := #[] }
noncomputable def kn1377 (P : Params) : Obj := { cls := .type "function", dict := none, data := .func (fdOf (stAt 156) (Str.ofString "_law_tried") (.none) (.none) (.none) (.str (Str.ofString "law_xm0202_01") 2314) none (.ref 1376) (.none)), slots := #[] }
noncomputable def kn1383 (P : Params) : Obj := { cls := .type "code", dict := none, data := .fields #[.str (Str.ofString "_law_plain") 2350, .str (Str.ofString "_law_plain") 2351, .str (Str.ofString "/claim/cut.py") 2352, .int (1365) 0, .int (0) 0, .int (0) 0, .int (0) 0, .int (3) 0, .ref 1378, .bool true, .int (181) 0, .ref 1379, .none, .ref 1380, .ref 1381, .ref 1382, .int (2353) 0, .int (1365) 0, .str (Str.ofString "/claim/cut.py") 2354], slots := #[] }
noncomputable def kn1384 (P : Params) : Obj := { cls := .type "function", dict := none, data := .func (fdOf (stAt 157) (Str.ofString "_law_plain") (.none) (.none) (.none) (.str (Str.ofString "law_xm0202_01") 2314) none (.ref 1383) (.none)), slots := #[] }
noncomputable def kn1390 (P : Params) : Obj := { cls := .type "code", dict := none, data := .fields #[.str (Str.ofString "_law_checker") 2356, .str (Str.ofString "_law_checker") 2357, .str (Str.ofString "/claim/cut.py") 2358, .int (1367) 0, .int (0) 0, .int (0) 0, .int (0) 0, .int (3) 0, .ref 1385, .bool true, .int (181) 0, .ref 1386, .none, .ref 1387, .ref 1388, .ref 1389, .int (2361) 0, .int (1367) 0, .str (Str.ofString "/claim/cut.py") 2362], slots := #[] }
noncomputable def kn1391 (P : Params) : Obj := { cls := .type "function", dict := none, data := .func (fdOf (stAt 158) (Str.ofString "_law_checker") (.none) (.none) (.none) (.str (Str.ofString "law_xm0202_01") 2314) none (.ref 1390) (.none)), slots := #[] }
noncomputable def kn1397 (P : Params) : Obj := { cls := .type "code", dict := none, data := .fields #[.str (Str.ofString "_law_tree") 2364, .str (Str.ofString "_law_tree") 2365, .str (Str.ofString "/claim/cut.py") 2366, .int (1374) 0, .int (2) 0, .int (0) 0, .int (0) 0, .int (3) 0, .ref 1392, .bool true, .int (181) 0, .ref 1393, .none, .ref 1394, .ref 1395, .ref 1396, .int (2377) 0, .int (1374) 0, .str (Str.ofString "/claim/cut.py") 2378], slots := #[] }
noncomputable def kn1398 (P : Params) : Obj := { cls := .type "function", dict := none, data := .func (fdOf (stAt 159) (Str.ofString "_law_tree") (.none) (.none) (.none) (.str (Str.ofString "law_xm0202_01") 2314) none (.ref 1397) (.none)), slots := #[] }
noncomputable def kn1404 (P : Params) : Obj := { cls := .type "code", dict := none, data := .fields #[.str (Str.ofString "_law_truth_right") 2380, .str (Str.ofString "_law_truth_right") 2381, .str (Str.ofString "/claim/cut.py") 2382, .int (1390) 0, .int (2) 0, .int (0) 0, .int (0) 0, .int (3) 0, .ref 1399, .bool true, .int (181) 0, .ref 1400, .none, .ref 1401, .ref 1402, .ref 1403, .int (2389) 0, .int (1390) 0, .str (Str.ofString "/claim/cut.py") 2390], slots := #[] }
noncomputable def kn1405 (P : Params) : Obj := { cls := .type "function", dict := none, data := .func (fdOf (stAt 160) (Str.ofString "_law_truth_right") (.none) (.none) (.none) (.str (Str.ofString "law_xm0202_01") 2314) none (.ref 1404) (.none)), slots := #[] }
noncomputable def kn1409 (P : Params) : Obj := { cls := .type "code", dict := none, data := .fields #[.str (Str.ofString "_law_loops_right") 2392, .str (Str.ofString "_law_loops_right") 2393, .str (Str.ofString "/claim/cut.py") 2394, .int (1395) 0, .int (2) 0, .int (0) 0, .int (0) 0, .int (3) 0, .ref 1406, .bool true, .int (181) 0, .ref 1407, .none, .none, .none, .ref 1408, .int (2395) 0, .int (1395) 0, .str (Str.ofString "/claim/cut.py") 2396], slots := #[] }
noncomputable def kn1410 (P : Params) : Obj := { cls := .type "function", dict := none, data := .func (fdOf (stAt 161) (Str.ofString "_law_loops_right") (.none) (.none) (.none) (.str (Str.ofString "law_xm0202_01") 2314) none (.ref 1409) (.none)), slots := #[] }
noncomputable def kn1414 (P : Params) : Obj := { cls := .type "code", dict := none, data := .fields #[.str (Str.ofString "_law_way_right") 2398, .str (Str.ofString "_law_way_right") 2399, .str (Str.ofString "/claim/cut.py") 2400, .int (1410) 0, .int (5) 0, .int (0) 0, .int (0) 0, .int (3) 0, .ref 1411, .bool true, .int (181) 0, .ref 1412, .none, .none, .none, .ref 1413, .int (2401) 0, .int (1410) 0, .str (Str.ofString "/claim/cut.py") 2402], slots := #[] }
noncomputable def kn1415 (P : Params) : Obj := { cls := .type "function", dict := none, data := .func (fdOf (stAt 162) (Str.ofString "_law_way_right") (.none) (.none) (.none) (.str (Str.ofString "law_xm0202_01") 2314) none (.ref 1414) (.none)), slots := #[] }
noncomputable def kn1419 (P : Params) : Obj := { cls := .type "code", dict := none, data := .fields #[.str (Str.ofString "_law_cases_right") 2404, .str (Str.ofString "_law_cases_right") 2405, .str (Str.ofString "/claim/cut.py") 2406, .int (1430) 0, .int (2) 0, .int (0) 0, .int (0) 0, .int (3) 0, .ref 1416, .bool true, .int (181) 0, .ref 1417, .none, .none, .none, .ref 1418, .int (2407) 0, .int (1430) 0, .str (Str.ofString "/claim/cut.py") 2408], slots := #[] }
noncomputable def kn1420 (P : Params) : Obj := { cls := .type "function", dict := none, data := .func (fdOf (stAt 163) (Str.ofString "_law_cases_right") (.none) (.none) (.none) (.str (Str.ofString "law_xm0202_01") 2314) none (.ref 1419) (.none)), slots := #[] }
noncomputable def kn1424 (P : Params) : Obj := { cls := .type "code", dict := none, data := .fields #[.str (Str.ofString "law") 2410, .str (Str.ofString "law") 2411, .str (Str.ofString "/claim/cut.py") 2412, .int (1443) 0, .int (1) 0, .int (0) 0, .int (0) 0, .int (3) 0, .ref 1421, .bool true, .int (181) 0, .ref 1422, .none, .none, .none, .ref 1423, .int (2413) 0, .int (1443) 0, .str (Str.ofString "/claim/cut.py") 2414], slots := #[] }
noncomputable def kn1425 (P : Params) : Obj := { cls := .type "function", dict := none, data := .func (fdOf (stAt 164) (Str.ofString "law") (.none) (.none) (.none) (.str (Str.ofString "law_xm0202_01") 2314) none (.ref 1424) (.none)), slots := #[] }
noncomputable def kn (P : Params) : Frag := [(3, kn3 P), (22, kn22 P), (23, kn23 P), (26, kn26 P), (28, kn28 P), (63, kn63 P), (64, kn64 P), (70, kn70 P), (71, kn71 P), (77, kn77 P), (78, kn78 P), (84, kn84 P), (85, kn85 P), (98, kn98 P), (99, kn99 P), (119, kn119 P), (120, kn120 P), (155, kn155 P), (161, kn161 P), (162, kn162 P), (164, kn164 P), (165, kn165 P), (177, kn177 P), (178, kn178 P), (189, kn189 P), (190, kn190 P), (201, kn201 P), (202, kn202 P), (213, kn213 P), (214, kn214 P), (224, kn224 P), (230, kn230 P), (231, kn231 P), (233, kn233 P), (234, kn234 P), (258, kn258 P), (259, kn259 P), (263, kn263 P), (264, kn264 P), (270, kn270 P), (271, kn271 P), (284, kn284 P), (285, kn285 P), (291, kn291 P), (292, kn292 P), (294, kn294 P), (295, kn295 P), (305, kn305 P), (306, kn306 P), (312, kn312 P), (313, kn313 P), (319, kn319 P), (320, kn320 P), (326, kn326 P), (327, kn327 P), (331, kn331 P), (332, kn332 P), (338, kn338 P), (339, kn339 P), (345, kn345 P), (346, kn346 P), (352, kn352 P), (353, kn353 P), (380, kn380 P), (381, kn381 P), (489, kn489 P), (490, kn490 P), (496, kn496 P), (497, kn497 P), (498, kn498 P), (504, kn504 P), (505, kn505 P), (864, kn864 P), (866, kn866 P), (875, kn875 P), (876, kn876 P), (880, kn880 P), (881, kn881 P), (887, kn887 P), (888, kn888 P), (901, kn901 P), (902, kn902 P), (904, kn904 P), (905, kn905 P), (915, kn915 P), (916, kn916 P), (922, kn922 P), (923, kn923 P), (936, kn936 P), (937, kn937 P), (990, kn990 P), (991, kn991 P), (1041, kn1041 P), (1042, kn1042 P), (1065, kn1065 P), (1066, kn1066 P), (1099, kn1099 P), (1105, kn1105 P), (1106, kn1106 P), (1159, kn1159 P), (1160, kn1160 P), (1173, kn1173 P), (1179, kn1179 P), (1180, kn1180 P), (1216, kn1216 P), (1217, kn1217 P), (1239, kn1239 P), (1245, kn1245 P), (1246, kn1246 P), (1277, kn1277 P), (1278, kn1278 P), (1283, kn1283 P), (1284, kn1284 P), (1285, kn1285 P), (1298, kn1298 P), (1299, kn1299 P), (1301, kn1301 P), (1302, kn1302 P), (1312, kn1312 P), (1313, kn1313 P), (1321, kn1321 P), (1327, kn1327 P), (1328, kn1328 P), (1334, kn1334 P), (1335, kn1335 P), (1344, kn1344 P), (1345, kn1345 P), (1355, kn1355 P), (1356, kn1356 P), (1362, kn1362 P), (1363, kn1363 P), (1369, kn1369 P), (1370, kn1370 P), (1376, kn1376 P), (1377, kn1377 P), (1383, kn1383 P), (1384, kn1384 P), (1390, kn1390 P), (1391, kn1391 P), (1397, kn1397 P), (1398, kn1398 P), (1404, kn1404 P), (1405, kn1405 P), (1409, kn1409 P), (1410, kn1410 P), (1414, kn1414 P), (1415, kn1415 P), (1419, kn1419 P), (1420, kn1420 P), (1424, kn1424 P), (1425, kn1425 P)]
noncomputable def knKeys : List Nat := [3, 22, 23, 26, 28, 63, 64, 70, 71, 77, 78, 84, 85, 98, 99, 119, 120, 155, 161, 162, 164, 165, 177, 178, 189, 190, 201, 202, 213, 214, 224, 230, 231, 233, 234, 258, 259, 263, 264, 270, 271, 284, 285, 291, 292, 294, 295, 305, 306, 312, 313, 319, 320, 326, 327, 331, 332, 338, 339, 345, 346, 352, 353, 380, 381, 489, 490, 496, 497, 498, 504, 505, 864, 866, 875, 876, 880, 881, 887, 888, 901, 902, 904, 905, 915, 916, 922, 923, 936, 937, 990, 991, 1041, 1042, 1065, 1066, 1099, 1105, 1106, 1159, 1160, 1173, 1179, 1180, 1216, 1217, 1239, 1245, 1246, 1277, 1278, 1283, 1284, 1285, 1298, 1299, 1301, 1302, 1312, 1313, 1321, 1327, 1328, 1334, 1335, 1344, 1345, 1355, 1356, 1362, 1363, 1369, 1370, 1376, 1377, 1383, 1384, 1390, 1391, 1397, 1398, 1404, 1405, 1409, 1410, 1414, 1415, 1419, 1420, 1424, 1425]
theorem knE (P : Params) : knKeys = (kn P).map (·.1) := by kernel_rfl
end Mine
end
section
open PySem PySem.W PyProof.Rows
set_option maxRecDepth 100000
namespace Mine
theorem end_zero {t : Thread} {f : Flow} (h : endAt 0 t = some f) : through t = true := by
  unfold endAt at h
  unfold through
  cases hs : t.stack with
  | nil =>
    replace h := hs ▸ h
    cases hc : t.cur with
    | pure x => cases x with
      | done f => rfl
      | again c => replace h := hc ▸ h; cases h
    | _ => replace h := hc ▸ h; cases h
  | cons a r => replace h := hs ▸ h; cases h
theorem end_none {t : Thread} (h : endAt 0 t = none) : through t = false := by
  unfold endAt at h
  unfold through
  cases hs : t.stack with
  | nil =>
    replace h := hs ▸ h
    cases hc : t.cur with
    | pure x => cases x with
      | done f => replace h := hc ▸ h; cases h
      | again c => rfl
    | _ => rfl
  | cons a r => rfl
theorem top_of_seg {tb : String → Option Builtin} {p : Program} {w : World} {n₀ : Nat} {ann : Option Value} : ∀ {n : Nat} {s s' : Shared} {t : Thread} {f : Flow} {c : Code} {q : Pos},
    segRun tb p w n₀ ann 0 n s t = some (f, s', c, q) → topRun tb p w n₀ ann n s t = some s'
  | 0, _, _, _, _, _, _, h => by cases h
  | n + 1, s, s', t, f, c, q, h => by
    unfold segRun at h
    unfold topRun
    cases he : endAt 0 t with
    | some x => replace h := he ▸ h; cases h; rw [end_zero he]
    | none =>
      replace h := he ▸ h
      rw [end_none he]
      cases hk : stepOk n₀ ann t with
      | false => replace h := hk ▸ h; cases h
      | true =>
        replace h := hk ▸ h
        cases hs : step (denote tb) p w s t with
        | halt o s' => replace h := hs ▸ h; cases h
        | go s₂ t₂ => replace h := hs ▸ h; exact top_of_seg h
noncomputable def looksAt {α : Type} (p q : Program) (loose : List Str) (Xt : Shared → Bool) (Yf : Shared → α) (g0 : Bool) (h₀ : Heap) (s : Shared) :=
  (staticsOk (importedModules p.main.body) h₀ s.heap && namesBound p s.heap && gensDone s && laidKept h₀ s.heap, openSeen q loose (importedModules p.main.body) Xt g0 s, Yf s)
theorem LeftO.compact {p q : Program} {loose : List Str} {Xt : Shared → Bool} {α : Type} {Yf : Shared → α} {Ya : World → α} {N : Nat} {g0 : Bool} {bt : Params → BT} {n : Nat} {life : Life} {ann : Option Value} (row : String)
    (hop : opening p = plainProg p.main.scope.names) (hN : Nat.ble 600 N = true) (hf : ∀ s, fenceModules? p s = some s)
    (hbt : ∀ P, boot_heap P = absHeap (bt P) n life)
    (size : ∀ P, ((boot_heap P).isNs mainGlobals, (boot_heap P).objs.size, (boot_heap P).nsMap mainGlobals "__annotations__") = (true, n, ann))
    (run : ∀ (w : World) (b : Bool), (fun os => (segRunT treeTable p (w.withFollow row b) n ann 0 N ⟨bt (w.withFollow row b).params, n, life, Array.mk [], boot_drawn, boot_toks, os⟩ (topStub p)).map fun r =>
        looksAt p q loose Xt Yf g0 (boot_heap (w.withFollow row b).params) r.2.1.abs) = fun _ => some (true, openGood q loose, Ya (w.withFollow row b))) : LeftO p q loose Xt Yf Ya N g0 := fun w => by
  have hw := World.withFollow_self w row
  have r := run w (w.params.followText row)
  replace r := hw ▸ r
  obtain ⟨⟨h, gs, d, k, os⟩, e, e'⟩ := Option.map_eq_some_iff.mp (boot_open (N := N) hop hN hf w)
  obtain ⟨rfl, rfl, rfl, rfl⟩ : h = boot_heap w.params ∧ gs = Array.mk [] ∧ d = boot_drawn ∧ k = boot_toks := by simpa using e'
  obtain ⟨⟨f, sT, c, ps⟩, hr, hl⟩ := Option.map_eq_some_iff.mp (congrFun r os)
  have hr' := top_of_seg (segRun_of hr)
  obtain ⟨z1, z2, z3⟩ : _ ∧ _ ∧ _ := by simpa only [Prod.mk.injEq] using size w.params
  have hab : (⟨bt w.params, n, life, Array.mk [], boot_drawn, boot_toks, os⟩ : SharedT).abs = ⟨boot_heap w.params, Array.mk [], boot_drawn, boot_toks, os⟩ := by
    show Shared.mk _ _ _ _ _ = _
    rw [hbt]
  replace hr' := hab ▸ hr'
  obtain ⟨l1, l2, l3⟩ : _ ∧ _ ∧ _ := by simpa only [looksAt, Prod.mk.injEq] using hl
  have t : topFrom treeTable p w N ⟨boot_heap w.params, Array.mk [], boot_drawn, boot_toks, os⟩ = some sT.abs := by
    unfold topFrom
    skip
    rw [z1, z2, z3, hr']
    show (match staticsOk (importedModules p.main.body) (boot_heap w.params) sT.abs.heap && namesBound p sT.abs.heap && gensDone sT.abs && laidKept (boot_heap w.params) sT.abs.heap with | true => _ | false => _) = _
    rw [l1]
  unfold openEnds
  rw [e]
  show (topFrom treeTable p w N _).map _ = _
  rw [t]
  exact congrArg some (Prod.ext l2 l3)
end Mine
end
section
open PySem PySem.W PyProof.Rows
set_option maxRecDepth 100000
namespace Mine
noncomputable abbrev pw : Program := PySem.Challenge.pw_xm0202_01
noncomputable def bt (P : Params) : BT := ((((((((((BT.nil.ins 0 (boot_o_0 P)).ins 1 (boot_o_1 P)).ins 2 (boot_o_2 P)).ins 3 (boot_o_3 P)).ins 4 (boot_o_4 P)).ins 5 (boot_o_5 P)).ins 6 (boot_o_6 P)).ins 7 (boot_o_7 P)).ins 8 (boot_o_8 P)).ins 9 (boot_o_9 P)).ins 10 (boot_o_10 P)
theorem bt_is (P : Params) : boot_heap P = absHeap (bt P) 11 {} := by kernel_rfl
theorem bt_size (P : Params) : ((boot_heap P).isNs mainGlobals, (boot_heap P).objs.size, (boot_heap P).nsMap mainGlobals "__annotations__") = (true, 11, some (.ref 6)) := by kernel_rfl
noncomputable def qv : Program := view pw [164]
noncomputable def isLaw (x : Str) : Bool := x == "law"
noncomputable def looseN : List Str := pw.boundNames.filter fun x => !isLaw x
theorem pw_open : opening pw = plainProg pw.main.scope.names := by kernel_rfl
theorem pw_fence (s : Shared) : fenceModules? pw s = some s := by kernel_rfl
end Mine
end
section
open PySem PySem.W PyProof.Rows
set_option maxRecDepth 100000
namespace Mine
theorem eSeg : segRunT = PySem.W.Fast.tw10110043849684766642 := PySem.W.Fast.te10110043849684766642
theorem eTab : treeTable = PySem.W.Fast.tw14364793385576792824 := PySem.W.Fast.te14364793385576792824
theorem eSeen : @openSeen = PySem.W.Fast.tw4187177175401517315 := PySem.W.Fast.te4187177175401517315
noncomputable abbrev rowW (w : World) (b : Bool) : World := w.withFollow "special-get-raises" b
noncomputable abbrev topRunF (w : World) (b : Bool) (os : OsState) := PySem.W.Fast.tw10110043849684766642 PySem.W.Fast.tw14364793385576792824 pw (rowW w b) 11 (some (.ref 6)) 0 12000 ⟨bt (rowW w b).params, 11, {}, Array.mk [], boot_drawn, boot_toks, os⟩ (topStub pw)
noncomputable abbrev lookF (w : World) (b : Bool) (s : Shared) := (staticsOk (importedModules pw.main.body) (boot_heap (rowW w b).params) s.heap && namesBound pw s.heap && gensDone s && laidKept (boot_heap (rowW w b).params) s.heap, PySem.W.Fast.tw4187177175401517315 qv looseN (importedModules pw.main.body) (fun _ => true) true s)
noncomputable abbrev hk : Hook := kmHook kn knKeys knE [1400, 1407, 1417]
noncomputable abbrev tabsT3 : List Addr := [1400, 1407, 1417]
theorem runA_f (w : World) : (fun os => ((topRunF w false os).map fun r => ((lookF w false r.2.1.abs).1, tabsT3.map r.2.1.abs.heap.get?))) = fun _ => some (true, tabsT3.map fun _ => some (tabObj #[])) := by kernel_rfl
theorem runB_f (w : World) : (fun os => ((topRunF w false os).map fun r => ((lookF w false r.2.1.abs).2, (knKeys.take 70).map r.2.1.abs.heap.get?))) = fun _ => some (openGood qv looseN, ((kn (rowW w false).params).take 70).map fun p => some p.2) := by kernel_rfl
theorem runC_f (w : World) : (fun os => ((topRunF w false os).map fun r => (knKeys.drop 70).map r.2.1.abs.heap.get?)) = fun _ => some (((kn (rowW w false).params).drop 70).map fun p => some p.2) := by kernel_rfl
theorem runA_t (w : World) : (fun os => ((topRunF w true os).map fun r => ((lookF w true r.2.1.abs).1, tabsT3.map r.2.1.abs.heap.get?))) = fun _ => some (true, tabsT3.map fun _ => some (tabObj #[])) := by kernel_rfl
theorem runB_t (w : World) : (fun os => ((topRunF w true os).map fun r => ((lookF w true r.2.1.abs).2, (knKeys.take 70).map r.2.1.abs.heap.get?))) = fun _ => some (openGood qv looseN, ((kn (rowW w true).params).take 70).map fun p => some p.2) := by kernel_rfl
theorem runC_t (w : World) : (fun os => ((topRunF w true os).map fun r => (knKeys.drop 70).map r.2.1.abs.heap.get?)) = fun _ => some (((kn (rowW w true).params).drop 70).map fun p => some p.2) := by kernel_rfl
end Mine
end
section
open PySem PySem.W PyProof.Rows PySem.Calls
set_option tactic.hygienic false
namespace Mine
/-! ## keys that are tuples of texts and of empty tuples -/
noncomputable abbrev NKey := List (Option Str)
section
variable (prog : Program) (w : World)
inductive NItems (h : Heap) : NKey → List Value → Prop
  | nil : NItems h [] []
  | str {x t ks vs} : PyData.strOk x = true → NItems h ks vs → NItems h (some x :: ks) (.str x t :: vs)
  | tup {b ks vs} : IsTupleKey (strKind prog w) h [] b → NItems h ks vs → NItems h (none :: ks) (.ref b :: vs)
noncomputable def NIs (h : Heap) (k : NKey) (a : Addr) : Prop := ∃ o items n, h.get? a = some o ∧ o.cls = .type "tuple" ∧ o.data = .seq items n ∧ NItems prog w h k items.toList
noncomputable def nHash1 : Option Str → Int
  | some x => (strKind prog w).hash x
  | none => tupleKeyHash (strKind prog w) []
noncomputable def nHash (k : NKey) : Int := reduceHash (Builtin.Tuple.tupleHashOf (k.map (nHash1 prog w)))
end
section
variable {prog : Program} {w : World} {h h' : Heap} {a b d : Addr} {k : NKey} {A : Around} {E : Value → Shared → Prop} {s : Shared}
theorem NItems.inj {x y : NKey} {vs : List Value} (hx : NItems prog w h x vs) (hy : NItems prog w h y vs) : x = y := by
  induction hx generalizing y with
  | nil => cases hy; rfl
  | str o _ ih => cases hy with | str _ r => rw [ih r]
  | tup o _ ih => cases hy with | tup _ r => rw [ih r]
theorem NIs.inj {x y : NKey} (hx : NIs prog w h x a) (hy : NIs prog w h y a) : x = y := by
  refine x34 hx fun o items n ho _ hd hi => ?_
  refine x34 hy fun o' items' n' ho' _ hd' hi' => ?_
  obtain rfl : o = o' := Option.some.inj (ho.symm.trans ho')
  rw [hd] at hd'
  injection hd' with h1 _
  subst h1
  exact hi.inj hi'
theorem NIs.typeIs (x : NIs prog w s.heap k a) : s.TypeIs (.ref a) "tuple" := x33 x fun o _ _ ho hc _ => ⟨o, ho, hc⟩
theorem NItems.keeps {o : Obj} {es ep} {vs : List Value} (ho : h.get? d = some o) (hd : o.data = .dict es ep) (hs : Heap.SameBut d h h') (x : NItems prog w h k vs) : NItems prog w h' k vs := by
  induction x with
  | nil => exact .nil
  | str q _ ih => exact .str q ih
  | tup q _ ih => exact .tup (q.keeps ho hd hs) ih
theorem NIs.keeps {o : Obj} {es ep} (x : NIs prog w h k a) (ho : h.get? d = some o) (hd : o.data = .dict es ep) (hs : Heap.SameBut d h h') : NIs prog w h' k a := by
  refine x34 x fun o' items n ho' hc hd' hi => ?_
  have hne : a ≠ d := by
    rintro rfl
    obtain rfl : o' = o := Option.some.inj (ho'.symm.trans ho)
    rw [hd] at hd'; exact nomatch hd'
  exact ⟨o', items, n, (hs.2 a hne).trans ho', hc, hd', hi.keeps ho hd hs⟩
theorem nHash_ok {Q : Int → Shared → Prop} (hu : A.units + 1 < cLine) (hk : NIs prog w s.heap k a) (h : Q (nHash prog w k) { s with toks := s.toks + (k.length + 1) }) : wpAny (model prog w) A (pyHash (.ref a)) Q E s := by
  have hT := hk.typeIs
  refine x34 hk fun o items n ho _ hd hi => ?_
  skip
  first | skip | skip
  refine wpAny_bind (wpAny_cRoomFor_or (.inr (Nat.lt_of_succ_lt hu)) ?_)
  refine wpAny_bind (wpAny_specialOf hT F.slot_tuple_hash.lookup ?_)
  show wpAny _ _ (if (some (Value.builtin "tuple.__hash__") == some Value.none) = true then _ else _) Q E s
  rw [if_neg (by rw [beq_builtin_none]; exact Bool.false_ne_true)]
  refine wpAny_bind (wpAny_specialOf hT F.slot_tuple_hash.lookup ?_)
  show wpAny _ _ (callSpecialIfBoundUnlessNone? (.ref a) "__hash__" _ >>= _) Q E s
  refine wpAny_bind (wpAny_callSpecialIfBoundUnlessNone?_slot hT F.slot_tuple_hash (wpAny_call_entry F.slot_tuple_hash hT F.entry_tuple_hash ?_ (F.args_tuple_hash_1 _)))
  show wpAny _ _ (Builtin.Tuple.tupleItemsOf (.ref a) >>= _) _ _ s
  refine wpAny_bind (wpAny_tupleItemsOf ho hd ?_)
  refine wpAny_bind ?_
  rw [← Array.forIn_toList]
  refine wpAny_forIn_list _
    (fun rest (b : Array Int) s' => ∃ done left, k = done ++ left ∧ NItems prog w s.heap left rest ∧ b.toList = done.map (nHash1 prog w) ∧ s' = { s with toks := s.toks + done.length })
    _ ?_ ?_ _ _ ⟨[], k, rfl, hi, rfl, rfl⟩
  · rintro x rest b s' ⟨done, left, rfl, hl, hb, rfl⟩
    cases hl with
    | @str x t ks' _ h1 hl' =>
      exact wpAny_bind ((strKind prog w).pyHash (strKind_is prog w _ _) (wpAny_pure ⟨done ++ [some x], ks', by simp, hl', by simp [hb, nHash1], by simp [Nat.add_assoc]⟩))
    | @tup b ks' _ h1 hl' =>
      exact wpAny_bind (wpAny_pyHash_tuple (s := { s with toks := s.toks + done.length }) hu h1 (wpAny_pure ⟨done ++ [none], ks', by simp, hl', by simp [hb, nHash1], by simp [Nat.add_assoc]⟩))
  · rintro b s' ⟨done, left, rfl, hl, hb, rfl⟩
    cases hl
    rw [List.append_nil] at h
    show wpAny _ _ (retInt (Builtin.Tuple.tupleHashOf b.toList)) _ _ _
    rw [hb]
    refine wpAny_ret_mkInt ?_
    show wpAny _ _ (if (decide (-(2 : Int) ^ 63 ≤ Builtin.Tuple.tupleHashOf (done.map (nHash1 prog w))) && decide (Builtin.Tuple.tupleHashOf (done.map (nHash1 prog w)) < 2 ^ 63)) = true then _ else _) Q E _
    unfold nHash reduceHash at h
    by_cases hr : (decide (-(2 : Int) ^ 63 ≤ Builtin.Tuple.tupleHashOf (done.map (nHash1 prog w))) && decide (Builtin.Tuple.tupleHashOf (done.map (nHash1 prog w)) < 2 ^ 63)) = true
    · rw [if_pos hr]
      rw [if_pos hr] at h
      exact wpAny_pure (by exact h)
    · rw [if_neg hr]
      rw [if_neg hr] at h
      exact wpAny_bind (wpAny_rule (wpAny_pure (by exact h)))
noncomputable def nD1 : Option Str → PyData
  | some x => .str x
  | none => .tuple []
noncomputable def nD (k : NKey) : PyData := .tuple (k.map nD1)
theorem NItems.reads {vs : List Value} (x : NItems prog w h k vs) : ∃ as, ReadsAll h vs (k.map nD1) as ∧ PyData.canLayAll0 (k.map nD1) = true ∧ PyData.depthAll (k.map nD1) ≤ 2 := by
  induction x with
  | nil => exact ⟨_, .nil, rfl, by decide⟩
  | @str x t ks vs q _ ih =>
    refine x13 ih fun as a1 a2 a3 => ?_
    exact ⟨_, .cons (.str x t) a1, by simp only [List.map_cons, nD1, PyData.canLayAll0, PyData.canLay0, a2, q, Bool.and_self], by skip; assumption⟩
  | @tup b ks vs q _ ih =>
    refine x13 ih fun as a1 a2 a3 => ?_
    refine x34 q fun o items n ho hc hd hi => ?_
    have hi0 : items.toList = [] := by cases hq : items.toList with | nil => rfl | cons _ _ => rw [hq] at hi; cases hi
    refine ⟨_, .cons (Reads.tuple ho hc hd (by rw [hi0]; exact .nil)) a1, by simp only [List.map_cons, nD1, PyData.canLayAll0, PyData.canLay0, a2, Bool.and_self], ?_⟩
    skip; exact Nat.max_le.mpr ⟨by decide, by assumption⟩
theorem NIs.reads (x : NIs prog w h k a) : ∃ as, Reads h (.ref a) (nD k) as ∧ (nD k).canLay0 = true ∧ (nD k).depth ≤ 3 := by
  refine x34 x fun o items n ho hc hd hi => ?_
  refine x13 hi.reads fun as a1 a2 a3 => ?_
  exact ⟨_, Reads.tuple ho hc hd a1, by simp only [nD, PyData.canLay0, a2], by skip; exact Nat.succ_le_succ (by assumption)⟩
set_option tactic.hygienic true in
theorem nD_eqvAll : ∀ x y : NKey, PyData.eqvAll (x.map nD1) (y.map nD1) = decide (x = y)
  | [], [] => rfl
  | [], _ :: _ => rfl
  | _ :: _, [] => rfl
  | a :: x, b :: y => by
    simp only [List.map_cons, PyData.eqvAll]
    rw [nD_eqvAll x y]
    cases a <;> cases b <;> simp [nD1, PyData.eqv, PyData.eqvAll]
    by_cases q : x = y <;> simp [q]
    rename_i u v
    by_cases e : u = v
    · subst e; rfl
    · rfl
theorem nEq_ok {x y : NKey} {Q : Bool → Shared → Prop} (hu : A.units + 8 < cLine) (hx : NIs prog w s.heap x a) (hy : NIs prog w s.heap y b) (h : Q (decide (x = y)) s) : wpAny (model prog w) A (eqBool (.ref a) (.ref b)) Q E s := by
  refine x13 hx.reads fun as a1 a2 a3 => ?_
  refine x13 hy.reads fun bs b1 b2 b3 => ?_
  refine SeqAt.eqAt_reads _ _ A s _ _ _ _ a1 b1 a2 b2 (by exact mn (by assumption) (by assumption) (by decide)) prog w E Q ?_
  have : PyData.eqv (nD x) (nD y) = decide (x = y) := by skip; exact nD_eqvAll x y
  rw [this]; exact h
theorem nQuiet1 {n : Nat} {Q : Bool → Shared → Prop} (hk : IsTupleKey (strKind prog w) s.heap [] a) (h : Q true s) : wpAny (model prog w) A (eqIsQuiet (n + 1) (.ref a)) Q E s := by
  have hT := hk.typeIs
  refine x34 hk fun o items m ho _ hd hi => ?_
  have hi0 : items.toList = [] := by cases hq : items.toList with | nil => rfl | cons _ _ => rw [hq] at hi; cases hi
  unfold eqIsQuiet
  refine wpAny_bind (wpAny_specialOf hT F.slot_tuple_eq.lookup ?_)
  show wpAny _ _ (isInstance (.ref a) (.type "tuple") >>= _) _ _ s
  refine wpAny_bind (wpAny_isInstance hT isSubtype_tuple_tuple ?_)
  skip
  refine wpAny_bind (wpAny_seqItems ho hd ?_)
  refine wpAny_bind ?_
  show wpAny _ _ (forIn items _ _) _ _ s
  rw [← Array.forIn_toList, hi0, List.forIn_nil]
  exact wpAny_pure (wpAny_pure h)
theorem nQuiet {Q : Bool → Shared → Prop} (hk : NIs prog w s.heap k a) (h : Q true s) : wpAny (model prog w) A (eqIsQuiet 8 (.ref a)) Q E s := by
  have hT := hk.typeIs
  refine x34 hk fun o items n ho _ hd hi => ?_
  unfold eqIsQuiet
  refine wpAny_bind (wpAny_specialOf hT F.slot_tuple_eq.lookup ?_)
  show wpAny _ _ (isInstance (.ref a) (.type "tuple") >>= _) _ _ s
  refine wpAny_bind (wpAny_isInstance hT isSubtype_tuple_tuple ?_)
  skip
  refine wpAny_bind (wpAny_seqItems ho hd ?_)
  refine wpAny_bind ?_
  show wpAny _ _ (forIn items _ _) _ _ s
  rw [← Array.forIn_toList]
  refine wpAny_forIn_list _ (fun rest r s' => r.1 = none ∧ s' = s ∧ ∃ ks, NItems prog w s.heap ks rest) _ ?_ ?_ _ _ ⟨rfl, rfl, k, hi⟩
  · rintro v rest r s' ⟨hr, rfl, ks, hx⟩
    cases hx with
    | str q hx =>
      rw [eqIsQuiet_byValue _ (show carriedByValue (.str _ _) = true from rfl)]
      refine wpAny_bind (wpAny_pure ?_)
      skip
      exact wpAny_pure ⟨rfl, rfl, _, hx⟩
    | tup q hx =>
      refine wpAny_bind (nQuiet1 q ?_)
      skip
      exact wpAny_pure ⟨rfl, rfl, _, hx⟩
  · rintro ⟨r1, r2⟩ s' ⟨hr, rfl, _⟩
    skip
    subst hr
    exact wpAny_pure h
end
noncomputable def nKind (prog : Program) (w : World) : HeapKind prog w NKey where
  is := NIs prog w
  hash := nHash prog w
  draws := fun k => k.length + 1
  room := fun A => A.units + 8 < cLine
  inj := fun hx hy => hx.inj hy
  keeps := fun x ho hd hs => x.keeps ho hd hs
  pyHash := fun hu hk h => nHash_ok (by exact lo4 (by assumption) (by decide)) hk h
  eqBool := fun hu hx hy h => nEq_ok hu hx hy h
  quiet := fun hk h => nQuiet hk h
end Mine
end
section
open PySem PySem.W PyProof.Rows PySem.Calls
set_option tactic.hygienic false
namespace Mine
/-! ## plain lemmas of the evaluator's own words -/
theorem lB_iff : ∀ {x y : List Nat}, lB x y = true ↔ x = y
  | [], [] => ⟨fun _ => rfl, fun _ => rfl⟩
  | [], _ :: _ => ⟨fun h => (nomatch h), fun h => (nomatch h)⟩
  | _ :: _, [] => ⟨fun h => (nomatch h), fun h => (nomatch h)⟩
  | a :: x, b :: y => by
    unfold lB
    cases h : Nat.beq a b with
    | true => have := Nat.eq_of_beq_eq_true h; subst this; simp [lB_iff]
    | false => have := Nat.ne_of_beq_eq_false h; simp [this]
theorem sB_iff {a b : Str} : sB a b = true ↔ a = b := by
  unfold sB
  constructor
  · intro h
    split at h
    · have := lB_iff.mp h; cases a; cases b; simp only [Str.mk.injEq]; exact Array.toList_inj.mp this
    · exact tf h
  · rintro rfl
    rw [Nat.beq_refl]
    exact lB_iff.mpr rfl
theorem sB_false {a b : Str} : sB a b = false ↔ a ≠ b := by rw [← Bool.not_eq_true, Ne, sB_iff]
theorem okL_iff : ∀ {l : List Nat}, okL l = true → ∀ c ∈ l, c < 1114112
  | [], _, c, h => nomatch h
  | a :: l, h, c, hc => by
    skip
    refine mk' h (fun q h => ?_) fun q h => ?_
    · exact tf h
    · rcases List.mem_cons.mp hc with rfl | hc
      · exact Nat.le_of_ble_eq_true q
      · exact okL_iff h c hc
theorem okS_ok {s : Str} (h : okS s = true) : PyData.strOk s = true := by
  unfold PyData.strOk
  rw [Array.all_eq_true_iff_forall_mem]
  intro c hc
  exact decide_eq_true (okL_iff h c (Array.mem_toList_iff.mpr hc))
theorem strOk_add {x y : Str} (hx : PyData.strOk x = true) (hy : PyData.strOk y = true) : PyData.strOk (x ++ y) = true := by
  unfold PyData.strOk at *
  rw [Array.all_eq_true_iff_forall_mem] at *
  intro c hc
  rw [Str.cps_append, Array.mem_append] at hc
  exact hc.elim (hx c) (hy c)
set_option tactic.hygienic true in
theorem lkS_cons {α : Type} {x y : Str} {v : α} {r : List (Str × α)} : lkS x ((y, v) :: r) = if x = y then some v else lkS x r := by
  show (match sB x y with | true => some v | false => lkS x r) = _
  split
  · rename_i h; rw [if_pos (sB_iff.mp h)]
  · rename_i h; rw [if_neg (sB_false.mp h)]
set_option tactic.hygienic true in
theorem lkS_pt {α : Type} {x y : Str} {v : α} : ∀ {l : List (Str × α)}, lkS y (ptS x v l) = if y = x then some v else lkS y l
  | [] => by simp only [ptS, lkS_cons]
  | (z, w) :: r => by
    unfold ptS
    split
    · rename_i h; have := sB_iff.mp h; subst this; simp only [lkS_cons]; by_cases q : y = x <;> simp [q]
    · rename_i h
      have := sB_false.mp h
      simp only [lkS_cons, lkS_pt]
      by_cases q : y = z
      · subst q; simp [Ne.symm this]
      · simp [q]
set_option tactic.hygienic true in
theorem lkN_cons {α : Type} {a b : Nat} {v : α} {r : List (Nat × α)} : lkN a ((b, v) :: r) = if a = b then some v else lkN a r := by
  show (match Nat.beq a b with | true => some v | false => lkN a r) = _
  split
  · rename_i h; rw [if_pos (Nat.eq_of_beq_eq_true h)]
  · rename_i h; rw [if_neg (Nat.ne_of_beq_eq_false h)]
set_option tactic.hygienic true in
theorem lkN_mem {α : Type} {a : Nat} {v : α} : ∀ {l : List (Nat × α)}, lkN a l = some v → (a, v) ∈ l
  | [], h => by exact ns h
  | (b, w) :: r, h => by
    rw [lkN_cons] at h
    split at h
    · rename_i q; obtain rfl := ss h; subst q; exact .head _
    · exact .tail _ (lkN_mem h)
theorem getAt_eq {α : Type} : ∀ {n : Nat} {l : List α}, getAt n l = l[n]?
  | _, [] => by unfold getAt; rfl
  | 0, a :: _ => rfl
  | n + 1, _ :: r => by unfold getAt; rw [getAt_eq]; rfl
theorem setAt_length {α : Type} {v : α} : ∀ {n : Nat} {l : List α}, (setAt v n l).length = l.length
  | _, [] => by unfold setAt; rfl
  | 0, _ :: _ => rfl
  | n + 1, _ :: r => by unfold setAt; simp [setAt_length]
theorem getAt_setAt {α : Type} {v : α} : ∀ {n k : Nat} {l : List α}, getAt k (setAt v n l) = if k = n then (getAt n l).map fun _ => v else getAt k l
  | n, k, [] => by simp [getAt_eq, setAt]
  | 0, 0, a :: l => by rfl
  | 0, k + 1, a :: l => by rfl
  | n + 1, 0, a :: l => by rfl
  | n + 1, k + 1, a :: l => by
    show getAt k (setAt v n l) = _
    rw [getAt_setAt]
    simp only [getAt, Nat.add_right_cancel_iff]
theorem goR_spec {α β : Type} {k : α → St → R β} : ∀ {l : Out α} {o : Out β}, goR k l = some o → ∀ r τ, (r, τ) ∈ l →
    (∀ a, r = .ok a → ∃ o1, k a τ = some o1 ∧ ∀ q ∈ o1, q ∈ o) ∧ (∀ c v, r = .ex c v → (.ex c v, τ) ∈ o)
  | [], _, _, _, _, hm => nomatch hm
  | (r₀, ⟨e, h, n, d, z⟩) :: l, o, hg, r, τ, hm => by
    unfold goR at hg
    refine oc (o := oneR k r₀ ⟨e, h, n, d, z⟩) (fun h1 => ?_) fun o₁ h1 => ?_
    · rw [h1] at hg; exact ns hg
    · rw [h1] at hg
      have key : (∀ q ∈ o₁, q ∈ o) ∧ ∀ r τ, (r, τ) ∈ l → (∀ a, r = .ok a → ∃ o1, k a τ = some o1 ∧ ∀ q ∈ o1, q ∈ o) ∧ (∀ c v, r = .ex c v → (.ex c v, τ) ∈ o) := by
        cases l with
        | nil => obtain rfl := ss hg; exact ⟨fun _ h => h, fun _ _ h => nomatch h⟩
        | cons p l =>
          dsimp only at hg
          refine oc (o := goR k (p :: l)) (fun h2 => ?_) fun o₂ h2 => ?_
          · rw [h2] at hg; exact ns hg
          · rw [h2] at hg
            obtain rfl := ss hg
            refine ⟨fun q hq => List.mem_append.mpr (.inl hq), fun r τ hm => ?_⟩
            have ih := goR_spec h2 r τ hm
            exact ⟨fun a ha => x12 (ih.1 a ha) fun o1 e1 s1 => ⟨o1, e1, fun q hq => List.mem_append.mpr (.inr (s1 q hq))⟩, fun c v hc => List.mem_append.mpr (.inr (ih.2 c v hc))⟩
      rcases List.mem_cons.mp hm with hm | hm
      · cases hm
        constructor
        · rintro a rfl; exact ⟨o₁, h1, key.1⟩
        · rintro c v rfl; obtain rfl := ss h1; exact key.1 _ (.head _)
      · exact key.2 r τ hm
theorem bind_spec {α β : Type} {m : R α} {k : α → St → R β} {o : Out β} (h : bindR m k = some o) :
    ∃ l, m = some l ∧ ∀ r τ, (r, τ) ∈ l → (∀ a, r = .ok a → ∃ o1, k a τ = some o1 ∧ ∀ q ∈ o1, q ∈ o) ∧ (∀ c v, r = .ex c v → (.ex c v, τ) ∈ o) := by
  cases m with
  | none => exact ns h
  | some l => exact ⟨l, rfl, goR_spec h⟩
theorem forced_spec {α : Type} {v : SV} {σ : St} {k : SV → St → R α} {o : Out α} (h : forced v σ k = some o) : ∀ r τ, (r, τ) ∈ force v σ →
    (∀ a, r = .ok a → ∃ o1, k a τ = some o1 ∧ ∀ q ∈ o1, q ∈ o) ∧ (∀ c v, r = .ex c v → (.ex c v, τ) ∈ o) := goR_spec h
/-! ## what the walk's values and things stand for -/
noncomputable def bfV : Bf → Value
  | .len => .builtin "len" | .isinstance => .builtin "isinstance" | .sorted => .builtin "sorted" | .tuple => .type "tuple" | .list => .type "list" | .range => .type "range" | .enumerate => .type "enumerate"
noncomputable abbrev tupO (vs : List Value) (k : Nat) : Obj := { cls := .type "tuple", data := .seq vs.toArray k }
noncomputable def isTupG : SV → Bool
  | .tup _ => true
  | _ => false
noncomputable def headCalls : List SV → Bool
  | .str s :: _ :: _ :: _ :: _ => sB s "call" || sB s "builtin" || sB s "receive"
  | _ => false
structure G where
  δ : Nat → SV
  ρ : Nat → Addr
  Z : List (Addr × Obj)
  fm : Nat → Str → Option Value
mutual
noncomputable def treeHas : SV → Option Bool
  | .tup l => match treesHave l with
    | some c => some (headCalls l || c)
    | Option.none => Option.none
  | .bool _ | .int _ | .str _ => some false
  | _ => Option.none
noncomputable def treesHave : List SV → Option Bool
  | [] => some false
  | v :: r => match treeHas v, treesHave r with
    | some a, some b => some (a || b)
    | _, _ => Option.none
end
noncomputable def oddB (k : Nat) : Bool := Nat.beq (k % 2) 1
mutual
noncomputable def treeSz : SV → Nat
  | .tup l => treesSz l + 1
  | _ => 1
noncomputable def treesSz : List SV → Nat
  | [] => 0
  | v :: r => treeSz v + treesSz r
end
section
variable (K : Frag)
noncomputable def Tups (γ : G) (a : Addr) (o : Obj) : Prop := (a, o) ∈ γ.Z ∨ K.lookup a = some o
mutual
inductive VR (γ : G) (n d : Nat) : SV → Value → Prop
  | none : VR γ n d .none .none
  | bool (b) : VR γ n d (.bool b) (.bool b)
  | int (i t) : VR γ n d (.int i) (.int i t)
  | str {s} (t) : PyData.strOk s = true → VR γ n d (.str s) (.str s t)
  | tup {l a vs k} : Tups K γ a (tupO vs k) → VRs γ n d l vs → VR γ n d (.tup l) (.ref a)
  | top (a) : VR γ n d (.top a) (.ref a)
  | obj {j} : j < n → VR γ n d (.obj j) (.ref (γ.ρ j))
  | var {i v} : i < d → VR γ n d (γ.δ i) v → VR γ n d (.var i) v
  | tree {g k v} : treeHas g = some (oddB k) → isTupG g = true → treeSz g ≤ k / 2 → VR γ n d g v → VR γ n d (.tree k) v
  | fn (b) : VR γ n d (.fn b) (bfV b)
inductive VRs (γ : G) (n d : Nat) : List SV → List Value → Prop
  | nil : VRs γ n d [] []
  | cons {x v l vs} : VR γ n d x v → VRs γ n d l vs → VRs γ n d (x :: l) (v :: vs)
end
theorem VRs.ind {γ : G} {n d : Nat} {P : List SV → List Value → Prop} (h0 : P [] []) (h1 : ∀ {x v l vs}, VR K γ n d x v → VRs K γ n d l vs → P l vs → P (x :: l) (v :: vs)) : ∀ {l : List SV} {vs : List Value}, VRs K γ n d l vs → P l vs
  | [], _, .nil => h0
  | _ :: _, _, .cons a b => h1 a b (VRs.ind h0 h1 b)
noncomputable def VRv (γ : G) (n d : Nat) (s : SV) (v : Value) : Prop := match s with
  | .none => v = .none
  | .bool b => v = .bool b
  | .int i => ∃ t, v = .int i t
  | .str s => ∃ t, v = .str s t ∧ PyData.strOk s = true
  | .tup l => ∃ a vs k, v = .ref a ∧ Tups K γ a (tupO vs k) ∧ VRs K γ n d l vs
  | .top a => v = .ref a
  | .obj j => v = .ref (γ.ρ j) ∧ j < n
  | .var i => i < d ∧ VR K γ n d (γ.δ i) v
  | .tree k => ∃ g, treeHas g = some (oddB k) ∧ isTupG g = true ∧ treeSz g ≤ k / 2 ∧ VR K γ n d g v
  | .fn b => v = bfV b
theorem VR.view {γ : G} {n d : Nat} {s : SV} {v : Value} (h : VR K γ n d s v) : VRv K γ n d s v :=
  VR.casesOn (motive_1 := fun s v _ => VRv K γ n d s v) h rfl (fun _ => rfl) (fun _ t => ⟨t, rfl⟩) (fun t q => ⟨t, rfl, q⟩) (fun t r => ⟨_, _, _, rfl, t, r⟩) (fun _ => rfl) (fun q => ⟨rfl, q⟩) (fun a b => ⟨a, b⟩) (fun a b c e => ⟨_, a, b, c, e⟩) (fun _ => rfl)
noncomputable def VRsv (γ : G) (n d : Nat) (l : List SV) (vs : List Value) : Prop := match l with
  | [] => vs = []
  | x :: l => ∃ v ws, vs = v :: ws ∧ VR K γ n d x v ∧ VRs K γ n d l ws
theorem VRs.view {γ : G} {n d : Nat} {l : List SV} {vs : List Value} (h : VRs K γ n d l vs) : VRsv K γ n d l vs :=
  VRs.casesOn (motive_2 := fun l vs _ => VRsv K γ n d l vs) h rfl fun a b => ⟨_, _, rfl, a, b⟩
theorem VRs.one {γ : G} {n d : Nat} {x : SV} {vs : List Value} (h : VRs K γ n d [x] vs) : ∃ v, vs = [v] ∧ VR K γ n d x v := by
  (refine x23 h.view fun v ws er2 a b => ?_; subst er2)
  obtain rfl := b.view
  exact ⟨v, rfl, a⟩
theorem VRs.two {γ : G} {n d : Nat} {x y : SV} {vs : List Value} (h : VRs K γ n d [x, y] vs) : ∃ v w, vs = [v, w] ∧ VR K γ n d x v ∧ VR K γ n d y w := by
  (refine x23 h.view fun v ws er2 a b => ?_; subst er2)
  (refine x12 b.one fun w er1 b2 => ?_; subst er1)
  exact ⟨v, w, rfl, a, b2⟩
end
end Mine
end
section
open PySem PySem.W PyProof.Rows PySem.Calls
set_option tactic.hygienic false
namespace Mine
noncomputable def NT (o : Obj) : Prop := ∀ vs k, o ≠ tupO vs k
noncomputable def IsT (o : Obj) : Prop := ∃ vs k, o = tupO vs k
noncomputable abbrev reelOb (x y : Int) (tx ty n : Nat) : Obj := listOf #[.int x tx, .int y ty] n
structure Cx where
  dp : Nat
  un : Nat
  gd : Option (List Code)
  cn : Str
  cs : Scope
  L : Addr
  a : Addr
  ccd : Value
  cl : List (Str × Addr)
  outer : List Env
  tabs : List (Nat × Addr)
  h₀ : Heap
  xt : List (Addr × Obj)
  mf : Option (Str → Option Value)
  s₀ : Shared
noncomputable abbrev Cx.env (c : Cx) : Env := envX c.cn c.cs c.L c.a c.ccd c.cl
noncomputable abbrev Cx.A (c : Cx) : Around := ktrTop c.dp c.un c.gd c.cn c.cs c.L c.a c.ccd c.cl c.outer
section
variable (prog : Program) (w : World) (K : Frag)
noncomputable def EnvR (γ : G) (n d : Nat) (env : List (Str × SV)) (m : Str → Option Value) : Prop := ∀ x v, lkS x env = some v → ∃ v', m x = some v' ∧ VR K γ n d v v'
structure EnvM (c : Cx) (γ : G) (n d : Nat) (env : List (Str × SV)) (m : Str → Option Value) : Prop where
  r : EnvR K γ n d env m
  f : ∀ mf, c.mf = some mf → m = mf
inductive KV (γ : G) (n d : Nat) : List (Str × SV) → List (Str × Value) → Prop
  | nil : KV γ n d [] []
  | cons {x v v' l l'} : PyData.strOk x = true → VR K γ n d v v' → KV γ n d l l' → KV γ n d ((x, v) :: l) ((x, v') :: l')
structure FR (γ : G) (n d : Nat) (fs : List (Str × SV)) (es : List DictEntry) : Prop where
  has : ∀ x v, lkS x fs = some v → ∃ v', getL x es = some (some v') ∧ VR K γ n d v v'
  no : ∀ x, lkS x fs = none → getL x es = some none
  len : es.length ≤ fs.length
  nk : es.any (·.refKey) = false
noncomputable def OVR (γ : G) (n d : Nat) : Option SV → Option Value → Prop
  | some v, some v' => VR K γ n d v v'
  | none, none => True
  | _, _ => False
inductive TK (γ : G) (n d : Nat) : List (SV × SV) → List (NKey × Addr × Value) → Prop
  | nil : TK γ n d [] []
  | cons {x v k a v' l l'} : tkOf x = some k → VR K γ n d x (.ref a) → VR K γ n d v v' → TK γ n d l l' → TK γ n d ((x, v) :: l) ((k, a, v') :: l')
structure TObj (o : Obj) (xs : List (NKey × Addr × Value)) : Prop where
  ex : o.ExactDict
  dt : ∃ es ep, o.data = .dict es ep ∧ es.toList = xs.map (entryOfKey (nKind prog w))
  nd : (xs.map (·.1)).Nodup
noncomputable def FldOK (C : Addr) (x : Str) : Prop := plainGet K C x = true ∧ hasDictIn K C = true ∧ ∃ attr, findIn K (.ref C) x = some attr ∧ noGet K attr = true
noncomputable abbrev lamScope (names : List (Str × NameKind)) (more : List (Str × Const)) : Scope := ⟨.function, names, false, false, more⟩
noncomputable abbrev noArgs : Arguments := ⟨[], [], none, [], [], none, []⟩
inductive OR (γ : G) (n d : Nat) (a : Addr) : MO → List (Addr × Obj) → Prop
  | list {xs vs k} : VRs K γ n d xs vs → OR γ n d a (.list xs) [(a, listOf vs.toArray k)]
  | dict {kvs kvs' o} : KV K γ n d kvs kvs' → o.IsDictOf (strKind prog w) kvs' → (a == sysModules) = false → OR γ n d a (.dict kvs) [(a, o)]
  | tdict {kvs xs o} : TK K γ n d kvs xs → TObj prog w o xs → (a == sysModules) = false → OR γ n d a (.tdict kvs) [(a, o)]
  | inst {C fs dx es k} : FR K γ n d fs es → (∀ x v, lkS x fs = some v → FldOK K C x) → OR γ n d a (.inst C fs) [(a, instObj C dx), (dx, dictOf es k)]
  | cell {v v' o} : o.data = .cell v' → OVR K γ n d v v' → OR γ n d a (.cell v) [(a, o)]
  | tab {b ps} : (b = true → ps = #[]) → OR γ n d a (.tab b) [(a, tabObj ps)]
  | lam {body names cl qual more clos pm c' ctv oc vs t} : (∀ x j, lkS x cl = some j → lkS x names = some .free → clos.lookup x = some (γ.ρ j) ∧ j < n) → (∀ x ∈ names, x.2 ≠ .cell ∧ goodName x.1 = true) →
      oc.data = .fields vs → vs[1]? = some (.str qual t) → OR γ n d a (.lam body names cl) [(a, kla_obj "<lambda>" qual noArgs body (lamScope names more) clos pm c' ctv), (c', oc)]
  | hole : OR γ n d a .hole []
  | frame {o} : LCg.NsObj o (γ.fm a) → OR γ n d a .frame [(a, o)]
  | view {i} : i < n → OR γ n d a (.view i) [(a, { cls := .type "dict_values", data := .fields #[.ref (γ.ρ i)] })]
  | reel {x y tx ty k} : 0 ≤ x → 0 ≤ y → y < 2147483647 → OR γ n d a .reel [(a, reelOb x y tx ty k)]
noncomputable def ORv (γ : G) (n d : Nat) (a : Addr) (m : MO) (l : List (Addr × Obj)) : Prop := match m with
  | .list xs => ∃ vs k, l = [(a, listOf vs.toArray k)] ∧ VRs K γ n d xs vs
  | .dict kvs => ∃ kvs' o, l = [(a, o)] ∧ KV K γ n d kvs kvs' ∧ o.IsDictOf (strKind prog w) kvs' ∧ (a == sysModules) = false
  | .inst C fs => ∃ dx es k, l = [(a, instObj C dx), (dx, dictOf es k)] ∧ FR K γ n d fs es ∧ ∀ x v, lkS x fs = some v → FldOK K C x
  | .tdict kvs => ∃ xs o, l = [(a, o)] ∧ TK K γ n d kvs xs ∧ TObj prog w o xs ∧ (a == sysModules) = false
  | .hole => l = []
  | .cell v => ∃ v' o, l = [(a, o)] ∧ o.data = .cell v' ∧ OVR K γ n d v v'
  | .tab b => ∃ ps, l = [(a, tabObj ps)] ∧ (b = true → ps = #[])
  | .lam body names cl => ∃ qual more clos pm c' ctv oc vs t, l = [(a, kla_obj "<lambda>" qual noArgs body (lamScope names more) clos pm c' ctv), (c', oc)] ∧ (∀ x j, lkS x cl = some j → lkS x names = some .free → clos.lookup x = some (γ.ρ j) ∧ j < n) ∧ (∀ x ∈ names, x.2 ≠ .cell ∧ goodName x.1 = true) ∧
      oc.data = .fields vs ∧ vs[1]? = some (.str qual t)
  | .reel => ∃ x y tx ty k, l = [(a, reelOb x y tx ty k)] ∧ 0 ≤ x ∧ 0 ≤ y ∧ y < 2147483647
  | .view i => l = [(a, { cls := .type "dict_values", data := .fields #[.ref (γ.ρ i)] })] ∧ i < n
  | .frame => ∃ o, l = [(a, o)] ∧ LCg.NsObj o (γ.fm a)
theorem OR.form {γ : G} {n d : Nat} {a : Addr} {m : MO} {l : List (Addr × Obj)} (h : OR prog w K γ n d a m l) : ORv prog w K γ n d a m l :=
  OR.casesOn (motive := fun m l _ => ORv prog w K γ n d a m l) h (fun r => ⟨_, _, rfl, r⟩) (fun a b c => ⟨_, _, rfl, a, b, c⟩) (fun a b c => ⟨_, _, rfl, a, b, c⟩) (fun a b => ⟨_, _, _, rfl, a, b⟩) (fun a b => ⟨_, _, rfl, a, b⟩) (fun a => ⟨_, rfl, a⟩)
    (fun a b c d => ⟨_, _, _, _, _, _, _, _, _, rfl, a, b, c, d⟩) rfl (fun a => ⟨_, rfl, a⟩) (fun a => ⟨rfl, a⟩) (fun a b c => ⟨_, _, _, _, _, rfl, a, b, c⟩)
noncomputable def allFr : List (Nat × MO) → Bool
  | [] => true
  | (_, .frame) :: r => allFr r
  | _ => false
noncomputable def Ou (out : List Env) (tb : List (Nat × Addr)) (n : Nat) (fz : List (Nat × MO)) (γ : G) : Prop :=
  (∀ e ∈ out, e.scope.kind = .function ∧ ∃ j, j < n ∧ lkN j fz = some .frame ∧ e.frame = some (γ.ρ j)) ∧ (∀ p ∈ tb, p.1 < n ∧ γ.ρ p.1 = p.2) ∧ allFr fz = true
inductive HR (γ : G) (n d : Nat) : List (Nat × MO) → List (Addr × Obj) → Prop
  | nil : HR γ n d [] []
  | cons {j o r l H} : j < n → OR prog w K γ n d (γ.ρ j) o l → HR γ n d r H → HR γ n d ((j, o) :: r) (l ++ H)
structure SR (c : Cx) (σ : St) (γ : G) (s : Shared) : Prop where
  sm : s = { c.s₀ with heap := s.heap, toks := s.toks }
  fr : ∃ m, Fr c.h₀ c.L s.heap m ∧ EnvM K c γ σ.next σ.doms.length σ.env m
  nw : ∃ H, HR prog w K γ σ.next σ.doms.length (σ.heap ++ σ.froz) H ∧ News c.h₀ c.L s.heap (c.xt ++ (H ++ γ.Z)) ∧ (H.map (·.1)).Nodup ∧ (∀ q ∈ c.xt, ∀ r ∈ H ++ γ.Z, @Ne Nat q.1 r.1)
  tz : ∀ q ∈ γ.Z, IsT q.2
  dm : ∀ i l, getAt i σ.doms = some l → γ.δ i ∈ l ∧ ∀ x ∈ l, ground x = true
  ou : Ou c.outer c.tabs σ.next σ.froz γ
end
structure Ext (σ : St) (γ γ' : G) (τ : St) : Prop where
  n : σ.next ≤ τ.next
  d : σ.doms.length ≤ τ.doms.length
  δ : ∀ i, i < σ.doms.length → γ'.δ i = γ.δ i
  ρ : ∀ j, j < σ.next → γ'.ρ j = γ.ρ j
  Z : ∀ q ∈ γ.Z, q ∈ γ'.Z
  fz : τ.froz = σ.froz
  fm : γ'.fm = γ.fm
theorem Ext.refl (σ : St) (γ : G) : Ext σ γ γ σ := ⟨Nat.le_refl _, Nat.le_refl _, fun _ _ => rfl, fun _ _ => rfl, fun _ h => h, rfl, rfl⟩
theorem Ext.trans {σ τ υ : St} {γ γ' γ'' : G} (x : Ext σ γ γ' τ) (y : Ext τ γ' γ'' υ) : Ext σ γ γ'' υ :=
  ⟨Nat.le_trans x.n y.n, Nat.le_trans x.d y.d, fun i h => (y.δ i (Nat.lt_of_lt_of_le h x.d)).trans (x.δ i h), fun j h => (y.ρ j (Nat.lt_of_lt_of_le h x.n)).trans (x.ρ j h), fun q h => y.Z q (x.Z q h), y.fz.trans x.fz, y.fm.trans x.fm⟩
section
variable {prog : Program} {w : World} {K : Frag}
structure Later (γ γ' : G) (n d n' d' : Nat) : Prop where
  ln : n ≤ n'
  ld : d ≤ d'
  lδ : ∀ i, i < d → γ'.δ i = γ.δ i
  lρ : ∀ j, j < n → γ'.ρ j = γ.ρ j
  lZ : ∀ q ∈ γ.Z, q ∈ γ'.Z
theorem Ext.later {σ τ : St} {γ γ' : G} (x : Ext σ γ γ' τ) : Later γ γ' σ.next σ.doms.length τ.next τ.doms.length := ⟨x.n, x.d, x.δ, x.ρ, x.Z⟩
theorem VR.later {γ γ' : G} {n d n' d' : Nat} (x : Later γ γ' n d n' d') {v : SV} {v' : Value} (h : VR K γ n d v v') : VR K γ' n' d' v v' :=
  VR.rec (motive_1 := fun v v' _ => VR K γ' n' d' v v') (motive_2 := fun l l' _ => VRs K γ' n' d' l l') .none .bool .int (fun t q => .str t q) (fun t _ ih => .tup (t.imp (x.lZ _) id) ih) .top (fun h => by rw [← x.lρ _ h]; exact .obj (Nat.lt_of_lt_of_le h x.ln))
    (fun hi _ ih => .var (Nat.lt_of_lt_of_le hi x.ld) (by rw [x.lδ _ hi]; exact ih)) (fun a b c _ ih => .tree a b c ih) .fn .nil (fun _ _ a b => .cons a b) h
theorem VRs.later {γ γ' : G} {n d n' d' : Nat} (x : Later γ γ' n d n' d') {l : List SV} {l' : List Value} (h : VRs K γ n d l l') : VRs K γ' n' d' l l' :=
  VRs.ind K (P := fun l l' => VRs K γ' n' d' l l') .nil (fun a _ ih => .cons (a.later x) ih) h
theorem KV.later {γ γ' : G} {n d n' d' : Nat} (x : Later γ γ' n d n' d') {l : List (Str × SV)} {l' : List (Str × Value)} (h : KV K γ n d l l') : KV K γ' n' d' l l' := by
  induction h with
  | nil => exact .nil
  | cons ok v _ ih => exact .cons ok (v.later x) ih
theorem Ou.later {γ γ' : G} {n d n' d' : Nat} (x : Later γ γ' n d n' d') {out : List Env} {tb : List (Nat × Addr)} {fz : List (Nat × MO)} (h : Ou out tb n fz γ) : Ou out tb n' fz γ' :=
  ⟨fun e he => let ⟨a, j, b, q, r⟩ := h.1 e he; ⟨a, j, Nat.lt_of_lt_of_le b x.ln, q, by rw [x.lρ j b]; exact r⟩, (fun p hp => ⟨Nat.lt_of_lt_of_le (h.2.1 p hp).1 x.ln, (x.lρ _ (h.2.1 p hp).1).trans (h.2.1 p hp).2⟩), h.2.2⟩
theorem TK.later {γ γ' : G} {n d n' d' : Nat} (x : Later γ γ' n d n' d') {l : List (SV × SV)} {l' : List (NKey × Addr × Value)} (h : TK K γ n d l l') : TK K γ' n' d' l l' := by
  induction h with
  | nil => exact .nil
  | cons e a b _ ih => exact .cons e (a.later x) (b.later x) ih
set_option tactic.hygienic true in
theorem OR.later {γ γ' : G} {n d n' d' : Nat} (x : Later γ γ' n d n' d') {a : Addr} {o : MO} {l : List (Addr × Obj)} (h : OR prog w K γ n d a o l) (f : γ'.fm = γ.fm := by rfl) : OR prog w K γ' n' d' a o l := by
  cases h with
  | list h => exact .list (h.later x)
  | dict h i s => exact .dict (h.later x) i s
  | tdict h i s => exact .tdict (h.later x) i s
  | inst h f => exact .inst ⟨fun y v e => x12 (h.has y v e) fun v' e' r => ⟨v', e', r.later x⟩, h.no, h.len, h.nk⟩ f
  | tab q => exact .tab q
  | hole => exact .hole
  | frame h => exact .frame (by rw [f]; exact h)
  | view h => rw [← x.lρ _ h]; exact .view (Nat.lt_of_lt_of_le h x.ln)
  | lam h q e1 e2 => exact .lam (fun y j e f => by rw [x.lρ _ (h y j e f).2]; exact ⟨(h y j e f).1, Nat.lt_of_lt_of_le (h y j e f).2 x.ln⟩) q e1 e2
  | cell h r =>
    refine .cell h ?_
    rename_i v v' o
    cases v <;> cases v' <;> first | exact r.elim | exact trivial | exact VR.later x r
  | reel a b c => exact .reel a b c
theorem HR.later {γ γ' : G} {n d n' d' : Nat} (x : Later γ γ' n d n' d') {hp : List (Nat × MO)} {H : List (Addr × Obj)} (h : HR prog w K γ n d hp H) (f : γ'.fm = γ.fm := by rfl) : HR prog w K γ' n' d' hp H := by
  induction h with
  | nil => exact .nil
  | cons hj o _ ih => exact .cons (Nat.lt_of_lt_of_le hj x.ln) (by rw [x.lρ _ hj]; exact o.later x f) ih
theorem EnvR.later {γ γ' : G} {n d n' d' : Nat} (x : Later γ γ' n d n' d') {env : List (Str × SV)} {m : Str → Option Value} (h : EnvR K γ n d env m) : EnvR K γ' n' d' env m :=
  fun y v e => x12 (h y v e) fun v' e' r => ⟨v', e', r.later x⟩
theorem EnvM.later {c : Cx} {γ γ' : G} {n d n' d' : Nat} (x : Later γ γ' n d n' d') {env : List (Str × SV)} {m : Str → Option Value} (h : EnvM K c γ n d env m) : EnvM K c γ' n' d' env m := ⟨h.r.later x, h.f⟩
theorem HR.append {γ : G} {n d : Nat} {a b : List (Nat × MO)} : ∀ {H : List (Addr × Obj)}, HR prog w K γ n d (a ++ b) H → ∃ H₁ H₂, H = H₁ ++ H₂ ∧ HR prog w K γ n d a H₁ ∧ HR prog w K γ n d b H₂ := by
  induction a with
  | nil => exact fun {H} h => ⟨[], H, rfl, .nil, h⟩
  | cons p a ih =>
    intro H h
    cases h with
    | cons hj ho hr =>
      refine x23 (ih hr) fun H₁ H₂ er2 x y => ?_; subst er2
      exact ⟨_ ++ H₁, H₂, (List.append_assoc _ _ _).symm, .cons hj ho x, y⟩
theorem HR.both {γ : G} {n d : Nat} {a b : List (Nat × MO)} {H₁ H₂ : List (Addr × Obj)} (x : HR prog w K γ n d a H₁) (y : HR prog w K γ n d b H₂) : HR prog w K γ n d (a ++ b) (H₁ ++ H₂) := by
  induction x with
  | nil => exact y
  | cons hj ho _ ih => rw [List.append_assoc]; exact .cons hj ho ih
theorem HR.split {γ : G} {n d j : Nat} {o : MO} {hp : List (Nat × MO)} {H : List (Addr × Obj)} (h : HR prog w K γ n d hp H) : lkN j hp = some o →
    j < n ∧ ∃ pre l post, H = pre ++ (l ++ post) ∧ OR prog w K γ n d (γ.ρ j) o l ∧ ∀ o' l', OR prog w K γ n d (γ.ρ j) o' l' → HR prog w K γ n d (ptN j o' hp) (pre ++ (l' ++ post)) := by
  induction h with
  | nil => exact fun e => nomatch e
  | @cons i q r l H hj ho hr ih =>
    intro e
    unfold lkN at e
    unfold ptN
    cases b : Nat.beq j i with
    | true =>
      rw [b] at e
      obtain rfl := Nat.eq_of_beq_eq_true b
      obtain rfl := ss e
      exact ⟨hj, [], l, H, rfl, ho, fun o' l' h' => (HR.cons hj h' hr : HR prog w K γ n d ((j, o') :: r) (l' ++ H))⟩
    | false =>
      rw [b] at e
      obtain ⟨hn, pre, l₂, post, rfl, h1, h2⟩ := ih e
      refine ⟨hn, l ++ pre, l₂, post, by simp only [List.append_assoc], h1, fun o' l' h' => ?_⟩
      dsimp only
      rw [List.append_assoc]
      exact .cons hj ho (h2 o' l' h')
theorem get_lk {σ : St} {j : Nat} {o : MO} (h : σ.get j = some o) : lkN j (σ.heap ++ σ.froz) = some o := by
  unfold St.get at h
  generalize σ.heap = hp at h ⊢
  induction hp with
  | nil => exact h
  | cons p r ih =>
    obtain ⟨i, q⟩ := p
    rw [List.cons_append, lkN_cons]
    rw [lkN_cons] at h
    by_cases e : j = i
    · rw [if_pos e] at h ⊢; exact h
    · rw [if_neg e] at h ⊢; exact ih h
theorem SR.thing {c : Cx} {σ : St} {γ : G} {s : Shared} (S : SR prog w K c σ γ s) {j : Nat} {o : MO} (h : σ.get j = some o) :
    j < σ.next ∧ ∃ l, OR prog w K γ σ.next σ.doms.length (γ.ρ j) o l ∧ News c.h₀ c.L s.heap l := by
  refine x13 S.nw fun H h1 h2 _ => ?_
  obtain ⟨hn, pre, l, post, rfl, h4, _⟩ := h1.split (get_lk h)
  exact ⟨hn, l, h4, fun p hp => h2 p (by simp only [List.mem_append]; exact .inr (.inl (.inr (.inl hp))))⟩
theorem SR.tups {c : Cx} {σ : St} {γ : G} {s : Shared} (S : SR prog w K c σ γ s) (X : K.In c.h₀) {a : Addr} {o : Obj} (h : Tups K γ a o) : s.heap.get? a = some o := by
  refine Or.elim h (fun h => ?_) fun h => ?_
  · refine x13 S.nw fun H _ h2 _ => ?_
    exact (h2 (a, o) (by simp only [List.mem_append]; exact .inr (.inr h))).1
  · refine x12 (S.fr) fun m F _ => ?_
    exact F.keep _ _ (X _ _ h)
end
end Mine
end
section
open PySem PySem.W PyProof.Rows PySem.Calls
set_option tactic.hygienic false
namespace Mine
noncomputable def G.at (γ : G) (j : Nat) (a : Addr) : G := { γ with ρ := fun i => if i = j then a else γ.ρ i }
noncomputable def G.tup (γ : G) (a : Addr) (o : Obj) : G := { γ with Z := (a, o) :: γ.Z }
section
variable {prog : Program} {w : World} {K : Frag} {c : Cx} {σ τ : St} {γ γ' : G} {s : Shared}
theorem later_at {n d : Nat} {a : Addr} : Later γ (γ.at n a) n d (n + 1) d :=
  ⟨Nat.le_succ _, Nat.le_refl _, fun _ _ => rfl, fun j h => if_neg (Nat.ne_of_lt h), fun _ h => h⟩
theorem later_tup {n d : Nat} {a : Addr} {o : Obj} : Later γ (γ.tup a o) n d n d :=
  ⟨Nat.le_refl _, Nat.le_refl _, fun _ _ => rfl, fun _ _ => rfl, fun _ h => .tail _ h⟩
theorem ext_new {a : Addr} {o : MO} : Ext σ γ (γ.at σ.next a) (σ.new o) :=
  ⟨Nat.le_succ _, Nat.le_refl _, fun _ _ => rfl, fun j h => if_neg (Nat.ne_of_lt h), fun _ h => h, rfl, rfl⟩
theorem ext_tup {a : Addr} {o : Obj} : Ext σ γ (γ.tup a o) σ := ⟨Nat.le_refl _, Nat.le_refl _, fun _ _ => rfl, fun _ _ => rfl, fun _ h => .tail _ h, rfl, rfl⟩
theorem SR.sm' {tk : Nat} {h : Heap} (S : SR prog w K c σ γ s) : ({ s with heap := h, toks := tk } : Shared) = { c.s₀ with heap := h, toks := tk } := by
  have := S.sm
  rw [this]
theorem SR.same (S : SR prog w K c σ γ s) {h : Heap} {tk : Nat} : ({ s with heap := h, toks := tk } : Shared) = { c.s₀ with heap := ({ s with heap := h, toks := tk } : Shared).heap, toks := ({ s with heap := h, toks := tk } : Shared).toks } := S.sm'
theorem SR.toks (S : SR prog w K c σ γ s) (tk : Nat) : SR prog w K c σ γ { s with toks := tk } := ⟨S.sm' (h := s.heap), S.fr, S.nw, S.tz, S.dm, S.ou⟩
theorem SR.grown {h' : Heap} {tk : Nat} {m : Str → Option Value} {H : List (Addr × Obj)} (S : SR prog w K c σ γ s) (Ev : EnvM K c γ σ.next σ.doms.length σ.env m) (hH : HR prog w K γ σ.next σ.doms.length (σ.heap ++ σ.froz) H)
    (nd : (H.map (·.1)).Nodup) (ap : ∀ q ∈ c.xt, ∀ r ∈ H ++ γ.Z, @Ne Nat q.1 r.1) (F' : Fr c.h₀ c.L h' m) (N' : News c.h₀ c.L h' (c.xt ++ (H ++ γ.Z))) : SR prog w K c σ γ { s with heap := h', toks := tk } :=
  ⟨S.same, ⟨m, F', Ev⟩, ⟨H, hH, N', nd, ap⟩, S.tz, S.dm, S.ou⟩
theorem SR.alloc {h' : Heap} {tk : Nat} {m : Str → Option Value} {H l : List (Addr × Obj)} {a : Addr} {o : MO} (S : SR prog w K c σ γ s) (Ev : EnvM K c γ σ.next σ.doms.length σ.env m) (hH : HR prog w K γ σ.next σ.doms.length (σ.heap ++ σ.froz) H)
    (nd : (H.map (·.1)).Nodup) (ap : ∀ q ∈ c.xt, ∀ r ∈ H ++ γ.Z, @Ne Nat q.1 r.1) (F' : Fr c.h₀ c.L h' m) (N' : News c.h₀ c.L h' (l ++ (c.xt ++ (H ++ γ.Z)))) (ho : OR prog w K γ σ.next σ.doms.length a o l)
    (fresh : ∀ p ∈ c.xt ++ (H ++ γ.Z), ∀ q ∈ l, @Ne Nat p.1 q.1) (ndl : (l.map (·.1)).Nodup) : SR prog w K c (σ.new o) (γ.at σ.next a) { s with heap := h', toks := tk } := by
  refine ⟨S.same, ⟨m, F', Ev.later later_at⟩, ⟨l ++ H, ?_, fun p hp => N' p ?_, ?_, ?_⟩, S.tz, S.dm, S.ou.later (d := 0) (d' := 0) later_at⟩
  · refine HR.cons (Nat.lt_succ_self _) ?_ (hH.later later_at)
    show OR prog w K (γ.at σ.next a) (σ.next + 1) _ (if σ.next = σ.next then a else γ.ρ σ.next) o l
    rw [if_pos rfl]
    exact ho.later later_at
  · simp only [List.mem_append] at hp ⊢
    rcases hp with hp | (hp | hp) | hp
    · exact .inr (.inl hp)
    · exact .inl hp
    · exact .inr (.inr (.inl hp))
    · exact .inr (.inr (.inr hp))
  · rw [List.map_append, List.nodup_append]
    refine ⟨ndl, nd, fun x hx y hy => ?_⟩
    refine x12 (List.mem_map.mp hx) fun q hq er2 => ?_; subst er2
    refine x12 (List.mem_map.mp hy) fun p hp er2 => ?_; subst er2
    exact Ne.symm (fresh p (by simp only [List.mem_append]; exact .inr (.inl hp)) q hq)
  · intro q hq r hr
    rw [List.append_assoc] at hr
    rcases List.mem_append.mp hr with hr | hr
    · exact fresh q (by simp only [List.mem_append]; exact .inl hq) r hr
    · exact ap q hq r hr
theorem SR.alloc1 {h' : Heap} {tk : Nat} {m : Str → Option Value} {H : List (Addr × Obj)} {a : Addr} {ob : Obj} {o : MO} (S : SR prog w K c σ γ s) (Ev : EnvM K c γ σ.next σ.doms.length σ.env m) (hH : HR prog w K γ σ.next σ.doms.length (σ.heap ++ σ.froz) H)
    (nd : (H.map (·.1)).Nodup) (ap : ∀ q ∈ c.xt, ∀ r ∈ H ++ γ.Z, @Ne Nat q.1 r.1) (F' : Fr c.h₀ c.L h' m) (N' : News c.h₀ c.L h' ((a, ob) :: (c.xt ++ (H ++ γ.Z)))) (ho : OR prog w K γ σ.next σ.doms.length a o [(a, ob)])
    (fresh : ∀ p ∈ c.xt ++ (H ++ γ.Z), p.1 < a) : SR prog w K c (σ.new o) (γ.at σ.next a) { s with heap := h', toks := tk } :=
  S.alloc Ev hH nd ap F' N' ho (fun p hp q hq => by obtain rfl := List.mem_singleton.mp hq; exact Nat.ne_of_lt (fresh p hp)) (by simp)
theorem SR.tuple {h' : Heap} {tk k : Nat} {m : Str → Option Value} {H : List (Addr × Obj)} {a : Addr} {vs : List Value} (S : SR prog w K c σ γ s) (Ev : EnvM K c γ σ.next σ.doms.length σ.env m) (hH : HR prog w K γ σ.next σ.doms.length (σ.heap ++ σ.froz) H)
    (nd : (H.map (·.1)).Nodup) (ap : ∀ q ∈ c.xt, ∀ r ∈ H ++ γ.Z, @Ne Nat q.1 r.1) (F' : Fr c.h₀ c.L h' m) (N' : News c.h₀ c.L h' ((a, tupO vs k) :: (c.xt ++ (H ++ γ.Z)))) (fresh : ∀ p ∈ c.xt ++ (H ++ γ.Z), p.1 < a) : SR prog w K c σ (γ.tup a (tupO vs k)) { s with heap := h', toks := tk } := by
  refine ⟨S.same, ⟨m, F', Ev.later later_tup⟩, ⟨H, hH.later later_tup, fun p hp => N' p ?_, nd, fun q hq r hr => ?_⟩, fun q hq => ?_, S.dm, S.ou.later (d := 0) (d' := 0) later_tup⟩
  · simp only [List.mem_append, List.mem_cons] at hp ⊢
    rcases hp with hp | hp | hp
    · exact .inr (.inl hp)
    · exact .inr (.inr (.inl hp))
    · refine Or.elim (List.mem_cons.mp hp) (fun hp => ?_) fun hp => ?_
      · exact .inl hp
      · exact .inr (.inr (.inr hp))
  · rcases List.mem_append.mp hr with hr | hr
    · exact ap q hq r (List.mem_append.mpr (.inl hr))
    · rcases List.mem_cons.mp hr with rfl | hr
      · exact Nat.ne_of_lt (fresh q (List.mem_append.mpr (.inl hq)))
      · exact ap q hq r (List.mem_append.mpr (.inr hr))
  · rcases List.mem_cons.mp hq with rfl | hq
    · exact ⟨vs, k, rfl⟩
    · exact S.tz q hq
theorem SR.stored {h' : Heap} {tk : Nat} {m : Str → Option Value} {H : List (Addr × Obj)} {x : Str} {v : SV} {v' : Value} (S : SR prog w K c σ γ s) (Ev : EnvM K c γ σ.next σ.doms.length σ.env m) (hH : HR prog w K γ σ.next σ.doms.length (σ.heap ++ σ.froz) H)
    (nd : (H.map (·.1)).Nodup) (ap : ∀ q ∈ c.xt, ∀ r ∈ H ++ γ.Z, @Ne Nat q.1 r.1) (hv : VR K γ σ.next σ.doms.length v v') (F' : Fr c.h₀ c.L h' (fun y => if y = x then some v' else m y)) (N' : News c.h₀ c.L h' (c.xt ++ (H ++ γ.Z)))
    (hmf : c.mf = none) : SR prog w K c { σ with env := ptS x v σ.env } γ { s with heap := h', toks := tk } := by
  refine ⟨S.same, ⟨_, F', fun y u e => ?_, fun mf e => by rw [hmf] at e; exact ns e⟩, ⟨H, hH, N', nd, ap⟩, S.tz, S.dm, S.ou⟩
  rw [lkS_pt] at e
  by_cases q : y = x
  · rw [if_pos q] at e; obtain rfl := ss e; exact ⟨v', if_pos q, hv⟩
  · rw [if_neg q] at e; refine x12 (Ev.r y u e) fun u' e' r => ?_; exact ⟨u', (if_neg q).trans e', r⟩
theorem nt_of {o : Obj} (h : ∀ vs k, o.data ≠ .seq vs k ∨ o.cls ≠ .type "tuple") : NT o := fun vs k e => by
  refine Or.elim (h vs.toArray k) (fun q => ?_) fun q => ?_
  · exact q (congrArg Obj.data e)
  · exact q (congrArg Obj.cls e)
theorem SR.apart {H pre l post : List (Addr × Obj)} (S : SR prog w K c σ γ s) (e : H = pre ++ (l ++ post)) (N : News c.h₀ c.L s.heap (c.xt ++ (H ++ γ.Z))) (nd : (H.map (·.1)).Nodup) (ap : ∀ q ∈ c.xt, ∀ r ∈ H ++ γ.Z, @Ne Nat q.1 r.1)
    {p : Addr × Obj} (hp : p ∈ l) (hnt : NT p.2) : (∀ q ∈ c.xt ++ pre, @Ne Nat q.1 p.1) ∧ (∀ q ∈ post ++ γ.Z, @Ne Nat q.1 p.1) := by
  subst e
  have hpH : p ∈ pre ++ (l ++ post) := by simp only [List.mem_append]; exact .inr (.inl hp)
  have nd' := nd
  rw [List.map_append, List.nodup_append, List.map_append, List.nodup_append] at nd'
  obtain ⟨n1, ⟨n2, n3, n4⟩, n5⟩ := nd'
  refine ⟨fun q hq => ?_, fun q hq => ?_⟩
  · rcases List.mem_append.mp hq with hq | hq
    · exact ap q hq p (List.mem_append.mpr (.inl hpH))
    · exact n5 _ (List.mem_map_of_mem hq) _ (List.mem_append.mpr (.inl (List.mem_map_of_mem hp)))
  · rcases List.mem_append.mp hq with hq | hq
    · exact Ne.symm (n4 _ (List.mem_map_of_mem hp) _ (List.mem_map_of_mem hq))
    · intro he
      refine x21 (S.tz q hq) fun vs k ht => ?_
      have a := (N q (by simp only [List.mem_append]; exact .inr (.inr hq))).1
      have b := (N p (by simp only [List.mem_append]; exact .inr (.inl (.inr (.inl hp))))).1
      rw [he, b] at a
      exact hnt vs k (by rw [Option.some.inj a, ht])
theorem SR.put {h' : Heap} {tk j : Nat} {m : Str → Option Value} {H₂ pre l l' post : List (Addr × Obj)} {o' : MO} (S : SR prog w K c σ γ s) (Ev : EnvM K c γ σ.next σ.doms.length σ.env m)
    (hf : HR prog w K γ σ.next σ.doms.length σ.froz H₂) (h1 : HR prog w K γ σ.next σ.doms.length (ptN j o' σ.heap) (pre ++ (l' ++ post))) (nd : ((pre ++ (l ++ post) ++ H₂).map (·.1)).Nodup) (ap : ∀ q ∈ c.xt, ∀ r ∈ pre ++ (l ++ post) ++ H₂ ++ γ.Z, @Ne Nat q.1 r.1)
    (hk : l'.map (·.1) = l.map (·.1)) (F' : Fr c.h₀ c.L h' m) (N' : News c.h₀ c.L h' (c.xt ++ ((pre ++ (l' ++ post) ++ H₂) ++ γ.Z))) : SR prog w K c { σ with heap := ptN j o' σ.heap } γ { s with heap := h', toks := tk } := by
  refine ⟨S.same, ⟨m, F', Ev⟩, ⟨_, h1.both hf, N', ?_, fun q hq r hr => ?_⟩, S.tz, S.dm, S.ou⟩
  · have : (pre ++ (l' ++ post) ++ H₂).map (·.1) = (pre ++ (l ++ post) ++ H₂).map (·.1) := by simp only [List.map_append, hk]
    rw [this]; exact nd
  · have key : ∀ x ∈ (pre ++ (l' ++ post) ++ H₂).map (·.1), x ∈ (pre ++ (l ++ post) ++ H₂).map (·.1) := fun x hx => by simpa only [List.map_append, hk] using hx
    rcases List.mem_append.mp hr with hr | hr
    · refine x12 (List.mem_map.mp (key _ (List.mem_map_of_mem hr))) fun r' hr' e => ?_
      rw [← e]; exact ap q hq r' (List.mem_append.mpr (.inl hr'))
    · exact ap q hq r (List.mem_append.mpr (.inr hr))
end
end Mine
end
section
open PySem PySem.W PyProof.Rows PySem.Calls
set_option tactic.hygienic false
namespace Mine
structure Wk where
  prog : Program
  w : World
  K : Frag
  p : Program
  loose : List Str
  mean : ExcName → Option Value
  mg : Str → Option Value
  mb : Str → Option Value
  tabs : List (Nat × Addr)
  ex : Heap → Prop
noncomputable abbrev Wk.SR (W : Wk) (c : Cx) (σ : St) (γ : G) (s : Shared) : Prop := Mine.SR W.prog W.w W.K c σ γ s
structure Good (W : Wk) (c : Cx) : Prop where
  X : W.K.In c.h₀
  T : Top W.p W.loose W.mean W.mg W.mb c.h₀
  k : c.cs.kind = .function
  tb : c.tabs = W.tabs
  ex : W.ex c.h₀
structure FmOK (W : Wk) (c : Cx) (fm : Fm) (γ : G) (n d : Nat) (env : Env) : Prop where
  kind : env.scope.kind = .function
  glob : env.globals = mainGlobals
  blt : env.builtins = builtinsNs
  names : ∀ x, env.kindOf x = lkS x fm.names
  cells : ∀ x j, lkS x fm.cells = some j → (lkS x fm.names = some .cell ∨ lkS x fm.names = some .free) → env.cells.lookup x = some (γ.ρ j) ∧ j < n
  tab : ∀ j, fm.tab = some j → j < n ∧ ∃ cc, env.code = .ref cc ∧ CodeHd c.h₀ cc (γ.ρ j)
  fn : fm.cv = none → env = c.env
  comp : ∀ q, fm.cv = some q → ∃ oC m₂ v', (env.locals, oC) ∈ c.xt ∧ LCg.NsObj oC m₂ ∧ m₂ q.1 = some v' ∧ VR W.K γ n d q.2 v'
  dbg : ∀ x k, lkS x fm.names = some k → (x == ("__debug__" : Str)) = false ∧ (x == ("__classdict__" : Str)) = false
theorem FmOK.later {W : Wk} {c : Cx} {fm : Fm} {γ γ' : G} {n d n' d' : Nat} {env : Env} (F : FmOK W c fm γ n d env) (x : Later γ γ' n d n' d') : FmOK W c fm γ' n' d' env :=
  ⟨F.kind, F.glob, F.blt, F.names, fun y j e q => ⟨by rw [x.lρ _ (F.cells y j e q).2]; exact (F.cells y j e q).1, Nat.lt_of_lt_of_le (F.cells y j e q).2 x.ln⟩,
    fun j e => ⟨Nat.lt_of_lt_of_le (F.tab j e).1 x.ln, by rw [x.lρ _ (F.tab j e).1]; exact (F.tab j e).2⟩, F.fn,
    fun q e => x34 (F.comp q e) fun a b c' h1 h2 h3 h4 => ⟨a, b, c', h1, h2, h3, h4.later x⟩, F.dbg⟩
structure Room (n : Nat) (c : Cx) : Prop where
  d : c.dp + 3 * n + 8 < recursionLimit
  u : c.un + 64 * n + 300 < cLine
theorem Room.less {n : Nat} {c : Cx} (r : Room (n + 1) c) : Room n c := ⟨rg (Nat.le_succ n) r.d, rg (Nat.le_succ n) r.u⟩
noncomputable abbrev Cx.more (c : Cx) (its : List (Addr × Obj)) : Cx := { c with xt := its ++ c.xt }
noncomputable def Flt (K : Frag) (cc : Nat) (v : SV) (γ : G) (n d : Nat) (e : Value) (its : List (Addr × Obj)) : Prop :=
  ∃ ea oe vs dx es k v', e = .ref ea ∧ oe.cls = .ref cc ∧ oe.dict = some dx ∧ oe.data = .fields vs ∧ getL (Str.ofString "spot") es = some (some v') ∧ VR K γ n d v v' ∧ @Ne Nat ea dx ∧
    ((vs[1]? = some .none ∧ its = [(ea, oe), (dx, dictOf es k)]) ∨ ∃ T oT ts, vs[1]? = some (.ref T) ∧ oT.data = .fields ts ∧ ts[3]? = some .none ∧ @Ne Nat T ea ∧ @Ne Nat T dx ∧ its = [(ea, oe), (dx, dictOf es k), (T, oT)])
noncomputable def Thrown (W : Wk) (c : Cx) (cc : Nat) (v : SV) (γ : G) (τ : St) (e : Value) (s : Shared) : Prop := ∃ its, Flt W.K cc v γ τ.next τ.doms.length e its ∧ W.SR (c.more its) τ γ s ∧ ∀ p ∈ its, ∀ q ∈ c.xt, @Ne Nat q.1 p.1
noncomputable def Post (W : Wk) {α β : Type} (c : Cx) (o : Out α) (σ : St) (γ : G) (rel : α → G → Nat → Nat → β → Prop) (Q : β → Shared → Prop) (E : Value → Shared → Prop) : Prop :=
  ∀ r τ, (r, τ) ∈ o → ∀ γ' s', Ext σ γ γ' τ → W.SR c τ γ' s' → match r with
    | .ok a => ∀ b, rel a γ' τ.next τ.doms.length b → Q b s'
    | .ex cc v => ∀ e, Thrown W c cc v γ' τ e s' → E e s'
noncomputable def Desc (W : Wk) {α β : Type} (c : Cx) (σ : St) (γ : G) (s : Shared) (t : Sem β) (rel : α → G → Nat → Nat → β → Prop) (o : Out α) : Prop :=
  ∀ Q E, Post W c o σ γ rel Q E → wpAny (model W.prog W.w) c.A t Q E s
section
variable {W : Wk} {α β α' β' : Type} {c : Cx} {σ τ : St} {γ γ' : G} {s s' : Shared} {o o1 : Out α} {rel : α → G → Nat → Nat → β → Prop} {Q : β → Shared → Prop} {E : Value → Shared → Prop}
theorem Post.back (P : Post W c o σ γ rel Q E) (sub : ∀ q ∈ o1, q ∈ o) (x : Ext σ γ γ' τ) : Post W c o1 τ γ' rel Q E := fun r υ hm γ₂ s₂ y S₂ => P r υ (sub _ hm) γ₂ s₂ (x.trans y) S₂
theorem post_ok {a : α} {b : β} (h : okR a τ = some o) (P : Post W c o τ γ rel Q E) (S : W.SR c τ γ s') (r : rel a γ τ.next τ.doms.length b) : Q b s' :=
  P (.ok a) τ (by obtain rfl := ss h; exact .head _) γ s' (Ext.refl _ _) S b r
theorem post_ok' {a : α} {b : β} (h : okR a τ = some o) (P : Post W c o σ γ rel Q E) (x : Ext σ γ γ' τ) (S : W.SR c τ γ' s') (r : rel a γ' τ.next τ.doms.length b) : Q b s' :=
  P (.ok a) τ (by obtain rfl := ss h; exact .head _) γ' s' x S b r
theorem post_bind {l : Out α'} {k : α' → St → R α} {rel1 : α' → G → Nat → Nat → β' → Prop} {Q1 : β' → Shared → Prop}
    (h1 : ∀ r τ, (r, τ) ∈ l → (∀ a, r = .ok a → ∃ o1, k a τ = some o1 ∧ ∀ q ∈ o1, q ∈ o) ∧ (∀ c v, r = .ex c v → (.ex c v, τ) ∈ o)) (P : Post W c o σ γ rel Q E)
    (step : ∀ a τ o1, k a τ = some o1 → ∀ γ' s', Ext σ γ γ' τ → W.SR c τ γ' s' → Post W c o1 τ γ' rel Q E → ∀ b, rel1 a γ' τ.next τ.doms.length b → Q1 b s') : Post W c l σ γ rel1 Q1 E := by
  intro r τ hm γ' s' x S'
  refine x02 (h1 r τ hm) fun ha hb => ?_
  cases r with
  | ok a =>
    refine x12 (ha a rfl) fun o1 e sub => ?_
    exact fun b hb => step a τ o1 e γ' s' x S' (P.back sub x) b hb
  | ex cc v => exact P (.ex cc v) τ (hb cc v rfl) γ' s' x S'
end
noncomputable abbrev VRel (W : Wk) : SV → G → Nat → Nat → Value → Prop := fun v γ n d v' => VR W.K γ n d v v'
noncomputable abbrev LRel (W : Wk) : List SV → G → Nat → Nat → List Value → Prop := fun v γ n d v' => VRs W.K γ n d v v'
noncomputable abbrev BRel : Bool → G → Nat → Nat → Bool → Prop := fun b _ _ _ b' => b' = b
inductive FlR (K : Frag) (γ : G) (n d : Nat) : Fl → Flow → Prop
  | next : FlR K γ n d .next .next
  | brk : FlR K γ n d .brk .brk
  | cont : FlR K γ n d .cont .cont
  | ret {v v'} : VR K γ n d v v' → FlR K γ n d (.ret v) (.ret v')
noncomputable abbrev FRel (W : Wk) : Fl → G → Nat → Nat → Flow → Prop := fun f γ n d f' => FlR W.K γ n d f f'
structure SemsOK (W : Wk) (n : Nat) (S : Sems) : Prop where
  ns : ∀ fm v p σ, S.ev fm (.Starred v p) σ = none
  kp : ∀ f args σ o, S.cl f args σ = some o → (∃ a, f = .top a ∧ keepIn W.K (.ref a) = true) ∨ (∃ j b ns cl, f = .obj j ∧ σ.get j = some (.lam b ns cl)) ∨ ∃ b, f = .fn b
  ev : ∀ fm e σ o, S.ev fm e σ = some o → ∀ c γ s env, Good W c → FmOK W c fm γ σ.next σ.doms.length env → W.SR c σ γ s → Room n c → Desc W c σ γ s (eval e env) (VRel W) o
  ts : ∀ fm e σ o, S.ts fm e σ = some o → ∀ c γ s env, Good W c → FmOK W c fm γ σ.next σ.doms.length env → W.SR c σ γ s → Room n c → Desc W c σ γ s (isTrue e env (eval e env)) BRel o
  xs : ∀ fm b σ o, S.xs fm b σ = some o → fm.cv = none → ∀ c γ s env, c.mf = none → Good W c → FmOK W c fm γ σ.next σ.doms.length env → W.SR c σ γ s → Room n c → ∀ Q E, PassesOwn (model W.prog W.w) c.A env E → Post W c o σ γ (FRel W) Q E → wpAny (model W.prog W.w) c.A (execs b env) Q E s
  cl : ∀ f args σ o, S.cl f args σ = some o → ∀ c γ s f' args', Good W c → W.SR c σ γ s → Room n c → VR W.K γ σ.next σ.doms.length f f' → VRs W.K γ σ.next σ.doms.length args args' → Desc W c σ γ s (call f' args') (VRel W) o
section
variable {W : Wk} {n : Nat} {S : Sems} {c : Cx} {fm : Fm} {σ : St} {γ : G} {s : Shared} {env : Env} {Q : Value → Shared → Prop} {E : Value → Shared → Prop}
theorem evs_ok (IH : SemsOK W n S) (hG : Good W c) (hR : Room n c) {pos : Pos} : ∀ {es : List PySem.Expr} {σ : St} {γ : G} {s : Shared} {o : Out (List SV)} {Q : List Value → Shared → Prop},
    evs S fm es σ = some o → FmOK W c fm γ σ.next σ.doms.length env → W.SR c σ γ s → Post W c o σ γ (LRel W) Q E → wpAny (model W.prog W.w) c.A (spliced (PySem.backTo pos (starEach es env))) Q E s
  | [], σ, γ, s, o, Q, h, hF, hS, P => args_nil (post_ok h P hS .nil)
  | e :: es, σ, γ, s, o, Q, h, hF, hS, P => by
    refine x12 (bind_spec h) fun l e1 h1 => ?_
    refine args_cons (IH.ev _ _ _ _ e1 c γ s env hG hF hS hR _ _ (post_bind h1 P fun v τ o1 e2 γ' s' x S' P' v' hv => ?_)) ?_
    · refine x12 (bind_spec e2) fun l2 e3 h3 => ?_
      exact evs_ok IH hG hR e3 (hF.later x.later) S' (post_bind h3 P' fun vs τ' o2 e4 γ'' s'' y S'' P'' vs' hvs => post_ok e4 P'' S'' (.cons (hv.later y.later) hvs))
    · cases e <;> first | rfl | (rw [IH.ns] at e1; exact ns e1)
theorem bin_ok (IH : SemsOK W n S) (hG : Good W c) (hR : Room n c) {l r : PySem.Expr} {op : Operator} {pos : Pos} {o : Out SV} (h : evBin S fm l op r σ = some o) (hF : FmOK W c fm γ σ.next σ.doms.length env) (hS : W.SR c σ γ s) (P : Post W c o σ γ (VRel W) Q E)
    (prim : ∀ a b τ o1, binop op a b τ = some o1 → ∀ γ s a' b', W.SR c τ γ s → VR W.K γ τ.next τ.doms.length a a' → VR W.K γ τ.next τ.doms.length b b' → Desc W c τ γ s (binaryOp op a' b') (VRel W) o1) :
    wpAny (model W.prog W.w) c.A (eval (.BinOp l op r pos) env) Q E s := by
  refine x12 (bind_spec h) fun l1 e1 h1 => ?_
  refine wpAny_BinOp (IH.ev _ _ _ _ e1 c γ s env hG hF hS hR _ _ (post_bind h1 P fun a τ o1 e2 γ' s' x S' P' a' ha => ?_))
  refine x12 (bind_spec e2) fun l2 e3 h3 => ?_
  exact IH.ev _ _ _ _ e3 c γ' s' env hG (hF.later x.later) S' hR _ _ (post_bind h3 P' fun b τ' o2 e4 γ'' s'' y S'' P'' b' hb => prim a b τ' o2 e4 γ'' s'' a' b' S'' (ha.later y.later) hb _ _ P'')
end
end Mine
end
section
open PySem PySem.W PyProof.Rows PySem.Calls
set_option tactic.hygienic true
namespace Mine
noncomputable def Has (W : Wk) {α : Type} (c : Cx) (σ : St) (γ : G) (s : Shared) (o : Out α) (P : α → Prop) : Prop := ∃ a τ, (Res.ok a, τ) ∈ o ∧ P a ∧ W.SR c τ γ s ∧ Ext σ γ γ τ
section
variable {W : Wk} {α β : Type} {c : Cx} {σ τ : St} {γ : G} {s : Shared} {o : Out α}
theorem has_ok {a : α} {P : α → Prop} (h : okR a σ = some o) (S : W.SR c σ γ s) (p : P a) : Has W c σ γ s o P := by obtain rfl := ss h; exact ⟨a, σ, .head _, p, S, Ext.refl _ _⟩
theorem has_bind {m : R α} {k : α → St → R β} {o : Out β} {P : α → Prop} {P' : β → Prop} (h : bindR m k = some o) (h1 : ∀ l, m = some l → Has W c σ γ s l P)
    (h2 : ∀ a τ o1, P a → W.SR c τ γ s → Ext σ γ γ τ → k a τ = some o1 → Has W c τ γ s o1 P') : Has W c σ γ s o P' := by
  refine x12 (bind_spec h) fun l e sp => ?_
  refine x24 (h1 l e) fun a τ hm p S x => ?_
  refine x12 ((sp _ _ hm).1 a rfl) fun o1 e1 sub => ?_
  obtain ⟨b, υ, hb, pb, Sb, y⟩ := h2 a τ o1 p S x e1
  exact ⟨b, υ, sub _ hb, pb, Sb, x.trans y⟩
theorem has_post {rel : α → G → Nat → Nat → β → Prop} {Q : β → Shared → Prop} {E : Value → Shared → Prop} {P : α → Prop} (h : Has W c σ γ s o P) (Ps : Post W c o σ γ rel Q E) :
    ∃ a τ, P a ∧ W.SR c τ γ s ∧ Ext σ γ γ τ ∧ ∀ b, rel a γ τ.next τ.doms.length b → Q b s := by
  refine x24 h fun a τ hm p S x => ?_
  exact ⟨a, τ, p, S, x, Ps _ _ hm γ s x S⟩
theorem has_post_bind {α' : Type} {m : R α} {k : α → St → R α'} {o : Out α'} {rel : α' → G → Nat → Nat → β → Prop} {Q : β → Shared → Prop} {E : Value → Shared → Prop} {P : α → Prop} (hb : bindR m k = some o)
    (h : ∀ l, m = some l → Has W c σ γ s l P) (Ps : Post W c o σ γ rel Q E) : ∃ a τ o1, P a ∧ W.SR c τ γ s ∧ Ext σ γ γ τ ∧ k a τ = some o1 ∧ Post W c o1 τ γ rel Q E := by
  refine x12 (bind_spec hb) fun l e sp => ?_
  refine x24 (h l e) fun a τ hm p S x => ?_
  refine x12 ((sp _ _ hm).1 a rfl) fun o1 e1 sub => ?_
  exact ⟨a, τ, o1, p, S, x, e1, Ps.back sub x⟩
theorem Has.imp {P P' : α → Prop} (h : Has W c σ γ s o P) (f : ∀ a, P a → P' a) : Has W c σ γ s o P' := x23 h fun a τ h1 h2 h3 => ⟨a, τ, h1, f a h2, h3⟩
theorem SR.setDom {i : Nat} {l : List SV} (S : W.SR c σ γ s) (h : γ.δ i ∈ l) (hg : ∀ x ∈ l, ground x = true) : W.SR c (σ.setDom i l) γ s := by
  refine ⟨S.sm, ?_, ?_, S.tz, fun k l' e => ?_, S.ou⟩
  · have := S.fr; simpa only [St.setDom, setAt_length] using this
  · have := S.nw; simpa only [St.setDom, setAt_length] using this
  · have e' : getAt k (setAt l i σ.doms) = some l' := e
    replace e' := getAt_setAt ▸ e'
    by_cases q : k = i
    · subst q
      replace e' := (if_pos rfl) ▸ e'
      refine x12 (Option.map_eq_some_iff.mp e') fun l0 _ er2 => ?_; subst er2
      exact ⟨h, hg⟩
    · replace e' := (if_neg q) ▸ e'; exact S.dm k l' e'
theorem ext_setDom {i : Nat} {l : List SV} : Ext σ γ γ (σ.setDom i l) := ⟨Nat.le_refl _, by simp [St.setDom, setAt_length], fun _ _ => rfl, fun _ _ => rfl, fun _ h => h, rfl, rfl⟩
theorem SR.dom (S : W.SR c σ γ s) {i : Nat} (h : i < σ.doms.length) : γ.δ i ∈ σ.dom i ∧ ∀ x ∈ σ.dom i, ground x = true := by
  have e : getAt i σ.doms = some (σ.doms[i]) := by rw [getAt_eq]; exact List.getElem?_eq_getElem h
  have := S.dm i _ e
  unfold St.dom
  rw [e]; exact this
theorem isVar_some {v : SV} {i : Nat} (h : isVar v = some i) : v = .var i := by cases v <;> (first | exact ns h | exact congrArg _ (ss h))
theorem force_ok {v : SV} {v' : Value} (S : W.SR c σ γ s) (hv : VR W.K γ σ.next σ.doms.length v v') : Has W c σ γ s (force v σ) fun d => VR W.K γ σ.next σ.doms.length d v' ∧ isVar d = none ∧ (isVar v = none → d = v) := by
  cases hv with
  | var hi hr =>
    rename_i i
    have D := S.dom hi
    refine ⟨γ.δ i, σ.setDom i [γ.δ i], ?_, ⟨hr, ?_, fun h => by exact sn h⟩, S.setDom (.head _) fun x hx => by obtain rfl := List.mem_singleton.mp hx; exact D.2 _ D.1, ext_setDom⟩
    · show _ ∈ (σ.dom i).map _
      exact List.mem_map.mpr ⟨_, D.1, rfl⟩
    · have := D.2 _ D.1
      cases q : γ.δ i <;> first | rfl | (replace this := q ▸ this; exact tf this)
  | none => exact ⟨_, σ, .head _, ⟨.none, rfl, fun _ => rfl⟩, S, Ext.refl _ _⟩
  | bool b => exact ⟨_, σ, .head _, ⟨.bool b, rfl, fun _ => rfl⟩, S, Ext.refl _ _⟩
  | int i t => exact ⟨_, σ, .head _, ⟨.int i t, rfl, fun _ => rfl⟩, S, Ext.refl _ _⟩
  | str t h => exact ⟨_, σ, .head _, ⟨.str t h, rfl, fun _ => rfl⟩, S, Ext.refl _ _⟩
  | tup h r => exact ⟨_, σ, .head _, ⟨.tup h r, rfl, fun _ => rfl⟩, S, Ext.refl _ _⟩
  | top a => exact ⟨_, σ, .head _, ⟨.top a, rfl, fun _ => rfl⟩, S, Ext.refl _ _⟩
  | obj h => exact ⟨_, σ, .head _, ⟨.obj h, rfl, fun _ => rfl⟩, S, Ext.refl _ _⟩
  | tree a b c h => exact ⟨_, σ, .head _, ⟨.tree a b c h, rfl, fun _ => rfl⟩, S, Ext.refl _ _⟩
  | fn b => exact ⟨_, σ, .head _, ⟨.fn b, rfl, fun _ => rfl⟩, S, Ext.refl _ _⟩
theorem forced_ok {v : SV} {v' : Value} {k : SV → St → R β} {o : Out β} (h : forced v σ k = some o) (S : W.SR c σ γ s) (hv : VR W.K γ σ.next σ.doms.length v v') :
    ∃ d τ o1, k d τ = some o1 ∧ (∀ q ∈ o1, q ∈ o) ∧ VR W.K γ τ.next τ.doms.length d v' ∧ isVar d = none ∧ W.SR c τ γ s ∧ Ext σ γ γ τ ∧ (isVar v = none → d = v) := by
  obtain ⟨d, τ, hm, ⟨p, q, pv⟩, S', x⟩ := force_ok S hv
  refine x12 ((forced_spec h _ _ hm).1 d rfl) fun o1 e sub => ?_
  exact ⟨d, τ, o1, e, sub, p.later x.later, q, S', x, pv⟩
theorem parted_ok {p : SV → Option Bool} : ∀ {l y n : List SV}, parted p l = some (y, n) → ∀ d ∈ l, ∃ b, p d = some b ∧ (if b then d ∈ y else d ∈ n)
  | [], _, _, _, d, hd => nomatch hd
  | a :: l, y, n, h, d, hd => by
    unfold parted at h
    refine oc (o := p a) (fun hp => ?_) fun b hp => ?_
    · replace h := hp ▸ h; exact ns h
    · cases hr : parted p l with
      | none => replace h := hr ▸ hp ▸ h; cases b <;> exact ns h
      | some yn =>
        obtain ⟨y', n'⟩ := yn
        replace h := hr ▸ hp ▸ h
        have ih := parted_ok hr
        cases b <;> obtain ⟨rfl, rfl⟩ := sp h <;> (rcases List.mem_cons.mp hd with rfl | hd)
        · exact ⟨false, hp, .head _⟩
        · refine x12 (ih d hd) fun b e m => ?_; exact ⟨b, e, by cases b; exact .tail _ m; exact m⟩
        · exact ⟨true, hp, .head _⟩
        · refine x12 (ih d hd) fun b e m => ?_; exact ⟨b, e, by cases b; exact m; exact .tail _ m⟩
theorem parted_sub {p : SV → Option Bool} : ∀ {l y n : List SV}, parted p l = some (y, n) → (∀ d ∈ y, d ∈ l) ∧ ∀ d ∈ n, d ∈ l
  | [], y, n, h => by (refine x02 (sp h) fun er0 er1 => ?_; subst er0; subst er1); exact ⟨fun _ h => h, fun _ h => h⟩
  | a :: l, y, n, h => by
    unfold parted at h
    refine oc (o := p a) (fun hp => ?_) fun b hp => ?_
    · replace h := hp ▸ h; exact ns h
    · cases hr : parted p l with
      | none => replace h := hr ▸ hp ▸ h; cases b <;> exact ns h
      | some yn =>
        obtain ⟨y', n'⟩ := yn
        replace h := hr ▸ hp ▸ h
        have ih := parted_sub hr
        cases b <;> (refine x02 (sp h) fun er0 er1 => ?_; subst er0; subst er1)
        · exact ⟨fun d hd => .tail _ (ih.1 d hd), fun d hd => (List.mem_cons.mp hd).elim (fun e => e ▸ .head _) fun q => .tail _ (ih.2 d q)⟩
        · exact ⟨fun d hd => (List.mem_cons.mp hd).elim (fun e => e ▸ .head _) fun q => .tail _ (ih.1 d q), fun d hd => .tail _ (ih.2 d hd)⟩
theorem split_ok {i : Nat} {p : SV → Option Bool} {o : Out Bool} (h : split σ i p = some o) (S : W.SR c σ γ s) (hi : i < σ.doms.length) : Has W c σ γ s o fun b => p (γ.δ i) = some b := by
  have D := S.dom hi
  unfold split at h
  refine oc (o := parted p (σ.dom i)) (fun hp => ?_) fun yn hp => ?_
  · replace h := hp ▸ h; exact ns h
  · obtain ⟨y, n⟩ := yn
    replace h := hp ▸ h
    refine x12 (parted_ok hp _ D.1) fun b e m => ?_
    have sub := parted_sub hp
    cases y with
    | nil =>
      cases n with
      | nil => cases b <;> cases m
      | cons a n => cases b with
        | true => cases m
        | false => exact has_ok h S e
    | cons a y =>
      cases n with
      | nil => cases b with
        | false => cases m
        | true => exact has_ok h S e
      | cons a' n =>
        obtain rfl := ss h
        cases b with
        | true => exact ⟨true, _, .head _, e, S.setDom m fun x hx => D.2 x (sub.1 x hx), ext_setDom⟩
        | false => exact ⟨false, _, .tail _ (.head _), e, S.setDom m fun x hx => D.2 x (sub.2 x hx), ext_setDom⟩
end
/-! ## data -/
mutual
noncomputable def gD : SV → PyData
  | .bool b => .bool b
  | .int i => .int i
  | .str s => .str s
  | .tup l => .tuple (gDs l)
  | _ => .none
noncomputable def gDs : List SV → List PyData
  | [] => []
  | a :: l => gD a :: gDs l
end
mutual
noncomputable def res (δ : Nat → SV) : SV → SV
  | .var i => δ i
  | .tup l => .tup (ress δ l)
  | v => v
noncomputable def ress (δ : Nat → SV) : List SV → List SV
  | [] => []
  | a :: l => res δ a :: ress δ l
end
theorem iB_iff {a b : Int} : iB a b = true ↔ a = b := by
  cases a with
  | ofNat m => cases b with
    | ofNat n => exact ⟨fun h => congrArg Int.ofNat (Nat.eq_of_beq_eq_true h), fun h => by injection h with h; subst h; exact Nat.beq_refl m⟩
    | negSucc n => exact ⟨fun h => tf h, fun h => nomatch h⟩
  | negSucc m => cases b with
    | ofNat n => exact ⟨fun h => tf h, fun h => nomatch h⟩
    | negSucc n => exact ⟨fun h => congrArg Int.negSucc (Nat.eq_of_beq_eq_true h), fun h => by injection h with h; subst h; exact Nat.beq_refl m⟩
theorem iB_eq {a b : Int} : iB a b = (a == b) := Bool.eq_iff_iff.mpr (iB_iff.trans beq_iff_eq.symm)
theorem sB_eq {a b : Str} : sB a b = (a == b) := by rw [Bool.eq_iff_iff, sB_iff, beq_iff_eq]
mutual
theorem eqG_ok : ∀ {a b : SV} {c : Bool}, eqG a b = some c → PyData.eqv (gD a) (gD b) = c
  | .none, b, c, h => by cases b <;> (first | ((first | exact ns h | obtain rfl := ss h); rfl) | exact ns h)
  | .bool x, b, c, h => by
    cases b <;> (first | ((first | exact ns h | obtain rfl := ss h); done) | (obtain rfl := ss h; rfl; done) | skip)
    rename_i y
    obtain rfl := ss h
    cases x <;> cases y <;> rfl
  | .int x, b, c, h => by
    cases b <;> (first | ((first | exact ns h | obtain rfl := ss h); done) | (obtain rfl := ss h; simp [gD, PyData.eqv, iB_eq]))
  | .str x, b, c, h => by
    cases b <;> (first | ((first | exact ns h | obtain rfl := ss h); done) | (obtain rfl := ss h; simp [gD, PyData.eqv, sB_eq]))
  | .tup l, b, c, h => by
    cases b with
    | tup r => skip; exact eqGs_ok h
    | _ => first | ((first | exact ns h | obtain rfl := ss h); done) | (obtain rfl := ss h; rfl)
  | .top _, b, c, h => by exact ns h
  | .obj _, b, c, h => by exact ns h
  | .var _, b, c, h => by exact ns h
  | .tree _, b, c, h => by exact ns h
  | .fn _, b, c, h => by exact ns h
theorem eqGs_ok : ∀ {a b : List SV} {c : Bool}, eqGs a b = some c → PyData.eqvAll (gDs a) (gDs b) = c
  | [], [], c, h => by obtain rfl := ss h; rfl
  | [], _ :: _, c, h => by obtain rfl := ss h; rfl
  | _ :: _, [], c, h => by obtain rfl := ss h; rfl
  | a :: l, b :: r, c, h => by
    simp only [eqGs] at h
    simp only [gDs, PyData.eqvAll]
    refine oc (o := eqG a b) (fun q => ?_) fun d q => ?_
    · replace h := q ▸ h; exact ns h
    · replace h := q ▸ h
      rw [eqG_ok q]
      cases d with
      | true => rw [Bool.true_and]; exact eqGs_ok h
      | false => obtain rfl := ss h; rfl
end
theorem inG_ok {d : SV} : ∀ {l : List SV} {c : Bool}, inG d l = some c → (gDs l).any (fun y => PyData.eqv y (gD d)) = c
  | [], c, h => by obtain rfl := ss h; rfl
  | y :: r, c, h => by
    unfold inG at h
    simp only [gDs, List.any_cons]
    refine oc (o := eqG y d) (fun q => ?_) fun b q => ?_
    · replace h := q ▸ h; exact ns h
    · replace h := q ▸ h
      rw [eqG_ok q]
      cases b with
      | true => obtain rfl := ss h; rfl
      | false => rw [Bool.false_or]; exact inG_ok h
mutual
theorem ground_res {δ : Nat → SV} : ∀ {a : SV}, ground a = true → res δ a = a
  | .tup l, h => by simp only [res]; rw [grounds_res (by exact h)]
  | .none, _ => rfl
  | .bool _, _ => rfl
  | .int _, _ => rfl
  | .str _, _ => rfl
  | .top _, h => rfl
  | .obj _, h => rfl
  | .var _, h => by exact tf h
  | .tree _, h => rfl
  | .fn _, h => rfl
theorem grounds_res {δ : Nat → SV} : ∀ {a : List SV}, grounds a = true → ress δ a = a
  | [], _ => rfl
  | a :: l, h => by
    skip
    refine mk' h (fun q h => ?_) fun q h => ?_
    · exact tf h
    · simp only [ress]; rw [ground_res q, grounds_res h]
end
theorem isVar_none_res {δ : Nat → SV} {a : SV} (h : isVar a = none) : (∀ l, a ≠ .tup l) → res δ a = a := by
  intro hl
  cases a <;> first | rfl | ((first | exact sn h | cases h); done) | exact absurd rfl (hl _)
theorem eqvAll_len : ∀ {x y : List PyData}, x.length ≠ y.length → PyData.eqvAll x y = false
  | [], [], h => absurd rfl h
  | [], _ :: _, _ => rfl
  | _ :: _, [], _ => rfl
  | a :: x, b :: y, h => by
    simp only [PyData.eqvAll]
    rw [eqvAll_len (fun e => h (congrArg Nat.succ e)), Bool.and_false]
theorem gDs_len : ∀ {l : List SV}, (gDs l).length = l.length
  | [] => rfl
  | _ :: l => by simp only [gDs, List.length_cons, gDs_len]
theorem ress_len {δ : Nat → SV} : ∀ {l : List SV}, (ress δ l).length = l.length
  | [] => rfl
  | _ :: l => by simp only [ress, List.length_cons, ress_len]
section
variable {W : Wk} {c : Cx} {σ τ : St} {γ : G} {s : Shared}
inductive In (d : Nat) : SV → Prop
  | var {i} : i < d → In d (.var i)
  | tup {l} : (∀ a ∈ l, In d a) → In d (.tup l)
  | other {v} : isVar v = none → tupOf v = none → In d v
theorem in_ground (d : Nat) {a : SV} (h : ground a = true) : In d a ∧ isVar a = none := by
  have key : ∀ a : SV, ground a = true → In d a := by
    intro a
    exact SV.rec (motive_1 := fun a => ground a = true → In d a) (motive_2 := fun l => grounds l = true → ∀ a ∈ l, In d a)
      (fun _ => .other rfl rfl) (fun _ _ => .other rfl rfl) (fun _ _ => .other rfl rfl) (fun _ _ => .other rfl rfl) (fun l ih h => .tup (ih (by exact h)))
      (fun _ h => by exact tf h) (fun _ h => by exact tf h) (fun _ h => by exact tf h) (fun _ h => by exact tf h) (fun _ h => by exact tf h)
      (fun _ _ h => nomatch h) (fun a l ha hl h x hx => by
        skip
        refine mk' h (fun q h => ?_) fun q h => ?_
        · exact tf h
        · rcases List.mem_cons.mp hx with rfl | hx
          · exact ha q
          · exact hl h x hx) a
  refine ⟨key a h, ?_⟩
  cases a <;> first | rfl | (exact tf h)
theorem VR.in {n d : Nat} {v : SV} {v' : Value} (h : VR W.K γ n d v v') : In d v :=
  VR.rec (motive_1 := fun v v' _ => In d v) (motive_2 := fun l l' _ => ∀ a ∈ l, In d a) (.other rfl rfl) (fun _ => .other rfl rfl) (fun _ _ => .other rfl rfl) (fun _ _ => .other rfl rfl) (fun _ _ ih => .tup ih) (fun _ => .other rfl rfl)
    (fun _ => .other rfl rfl) (fun h _ _ => .var h) (fun _ _ _ _ _ => .other rfl rfl) (fun _ => .other rfl rfl) (fun _ h => nomatch h) (fun _ _ h1 h2 a h => by
      rcases List.mem_cons.mp h with rfl | h
      · exact h1
      · exact h2 a h) h
theorem VRs.in {n d : Nat} {v : List SV} {v' : List Value} (h : VRs W.K γ n d v v') : ∀ a ∈ v, In d a := by
  induction v generalizing v' with
  | nil => exact fun _ h => nomatch h
  | cons x l ih =>
    refine x23 h.view fun _ _ er2 a b => ?_; subst er2
    intro y hy
    rcases List.mem_cons.mp hy with rfl | hy
    · exact a.in
    · exact ih b y hy
theorem In.up {d d' : Nat} (h : d ≤ d') {a : SV} (x : In d a) : In d' a := by
  induction x with
  | var q => exact .var (Nat.lt_of_lt_of_le q h)
  | tup _ ih => exact .tup ih
  | other a b => exact .other a b
theorem eqVs_ok {n : Nat} (ih : ∀ a b σ o, eqV n a b σ = some o → W.SR c σ γ s → In σ.doms.length a → In σ.doms.length b → Has W c σ γ s o fun e => e = PyData.eqv (gD (res γ.δ a)) (gD (res γ.δ b))) :
    ∀ (l r : List SV) (σ : St) (o : Out Bool), l.length = r.length → eqV.eqVs (eqV n) l r σ = some o → W.SR c σ γ s → (∀ a ∈ l, In σ.doms.length a) → (∀ a ∈ r, In σ.doms.length a) →
      Has W c σ γ s o fun e => e = PyData.eqvAll (gDs (ress γ.δ l)) (gDs (ress γ.δ r))
  | [], [], σ, o, _, h, S, _, _ => has_ok h S rfl
  | a :: l, b :: r, σ, o, hl, h, S, ha, hb => by
    refine has_bind h (fun l1 e => ih a b σ l1 e S (ha _ (.head _)) (hb _ (.head _))) fun e τ o1 he S' x h1 => ?_
    simp only [ress, gDs, PyData.eqvAll]
    rw [← he]
    cases e with
    | false => exact has_ok h1 S' rfl
    | true =>
      skip
      exact eqVs_ok ih l r τ o1 (Nat.succ.inj hl) h1 S' (fun a h => (ha a (.tail _ h)).up x.d) fun a h => (hb a (.tail _ h)).up x.d
theorem forced_in {β : Type} {v : SV} {k : SV → St → R β} {o : Out β} {P : β → Prop} (h : forced v σ k = some o) (S : W.SR c σ γ s) (hv : In σ.doms.length v)
    (h2 : ∀ d τ o1, res γ.δ d = res γ.δ v → In τ.doms.length d → W.SR c τ γ s → Ext σ γ γ τ → k d τ = some o1 → Has W c τ γ s o1 P) : Has W c σ γ s o P := by
  have key : ∃ d τ, (Res.ok d, τ) ∈ force v σ ∧ res γ.δ d = res γ.δ v ∧ In τ.doms.length d ∧ W.SR c τ γ s ∧ Ext σ γ γ τ := by
    refine oc (o := isVar v) (fun hq => ?_) fun i hq => ?_
    · refine ⟨v, σ, ?_, rfl, hv, S, Ext.refl _ _⟩
      cases v <;> first | exact .head _ | exact sn hq
    · obtain rfl := isVar_some hq
      have hi : i < σ.doms.length := by cases hv with | var h => exact h | other a _ => exact sn a
      have D := S.dom hi
      have g := D.2 _ D.1
      refine ⟨γ.δ i, σ.setDom i [γ.δ i], List.mem_map.mpr ⟨_, D.1, rfl⟩, ground_res g, (in_ground _ g).1, S.setDom (.head _) fun x hx => by obtain rfl := List.mem_singleton.mp hx; exact g, ext_setDom⟩
  refine x25 key fun d τ hm hr hi S' x => ?_
  refine x12 ((forced_spec h _ _ hm).1 d rfl) fun o1 e sub => ?_
  obtain ⟨b, υ, hb, pb, Sb, y⟩ := h2 d τ o1 hr hi S' x e
  exact ⟨b, υ, sub _ hb, pb, Sb, x.trans y⟩
theorem eqG_refl {a : SV} : ground a = true → eqG a a = some true :=
  SV.rec (motive_1 := fun a => ground a = true → eqG a a = some true) (motive_2 := fun l => grounds l = true → eqGs l l = some true)
    (fun _ => rfl) (fun b _ => by cases b <;> rfl) (fun i _ => congrArg some (iB_eq.trans (beq_self_eq_true i))) (fun s _ => congrArg some (sB_iff.mpr rfl)) (fun l ih h => ih h)
    (fun _ h => tf h) (fun _ h => tf h) (fun _ h => tf h) (fun _ h => tf h) (fun _ h => tf h)
    (fun _ => rfl) (fun a l ha hl h => mc h (fun q h => by
      show (match eqG a a with | some true => eqGs l l | some false => some false | Option.none => Option.none) = _
      rw [ha q]; exact hl h) fun _ h => tf h) a
theorem eqG_tl {l l' : List SV} {b : SV} {e : Bool} (h : ∀ l, b ≠ .tup l) (q : eqG (.tup l) b = some e) : e = PyData.eqv (gD (.tup l')) (gD b) := by
  cases b with
  | tup l => exact absurd rfl (h l)
  | _ => first | exact ns q | exact (ss q).symm
theorem eqG_tr {l l' : List SV} {a : SV} {e : Bool} (h : ∀ l, a ≠ .tup l) (q : eqG a (.tup l) = some e) : e = PyData.eqv (gD a) (gD (.tup l')) := by
  cases a with
  | tup l => exact absurd rfl (h l)
  | _ => first | exact ns q | exact (ss q).symm
theorem tupOr (a : SV) : (∃ l, a = .tup l) ∨ ∀ l, a ≠ .tup l := (Classical.em (∃ l, a = .tup l)).imp id fun h l e => h ⟨l, e⟩
theorem okc {a b : SV} {o : Out Bool} (qa : isVar a = none) (qb : isVar b = none) (h : okB (eqG a b) σ = some o) (S : W.SR c σ γ s) (hor : (∀ l, a ≠ .tup l) ∨ (∀ l, b ≠ .tup l)) : Has W c σ γ s o fun e => e = PyData.eqv (gD (res γ.δ a)) (gD (res γ.δ b)) := by
  refine x12 (om h) fun e q h => has_ok h S ?_
  refine Or.elim hor (fun ha => ?_) fun hb => ?_
  · rw [isVar_none_res qa ha]
    refine Or.elim (tupOr b) (fun hb => ?_) fun hb => ?_
    · refine x11 hb fun l er => ?_; subst er
      exact eqG_tr ha q
    · rw [isVar_none_res qb hb]; exact (eqG_ok q).symm
  · rw [isVar_none_res qb hb]
    refine Or.elim (tupOr a) (fun ha => ?_) fun ha => ?_
    · refine x11 ha fun l er => ?_; subst er
      exact eqG_tl hb q
    · rw [isVar_none_res qa ha]; exact (eqG_ok q).symm
theorem eqV_ok : ∀ (n : Nat) (a b : SV) (σ : St) (o : Out Bool), eqV n a b σ = some o → W.SR c σ γ s → In σ.doms.length a → In σ.doms.length b → Has W c σ γ s o fun e => e = PyData.eqv (gD (res γ.δ a)) (gD (res γ.δ b))
  | 0, _, _, _, _, h, _, _, _ => by exact ns h
  | n + 1, a, b, σ, o, h, S, ha, hb => by
    have ih := eqV_ok n
    unfold eqV at h
    refine ok' (o := isVar a) (fun i qa => ?_) fun qa => ?_
    · obtain rfl := isVar_some qa
      have hi : i < σ.doms.length := by cases ha with | var h => exact h | other a _ => exact sn a
      cases qb : isVar b with
      | some j =>
        obtain rfl := isVar_some qb
        replace h := qb ▸ qa ▸ h
        dsimp only at h
        refine bc (b := Nat.beq i j) (fun q => ?_) fun q => ?_
        · replace h := q ▸ h
          obtain rfl := Nat.eq_of_beq_eq_true q
          have D := S.dom hi
          refine has_ok h S ?_
          skip
          have g := D.2 _ D.1
          refine (eqG_ok ?_).symm
          exact eqG_refl g
        · replace h := q ▸ h
          refine forced_in h S hb fun d τ o1 hr hd S' x h1 => (ih _ d τ o1 h1 S' (ha.up x.d) hd).imp fun e he => by rw [he, hr]
      | none =>
        replace h := qb ▸ qa ▸ h
        skip
        refine mc h (fun g h => ?_) fun g h => ?_
        · refine (split_ok h S hi).imp fun e he => ?_
          have := eqG_ok he
          rw [ground_res g]; skip; exact this.symm
        · exact forced_in h S ha fun d τ o1 hr hd S' x h1 => (ih d b τ o1 h1 S' hd (hb.up x.d)).imp fun e he => by rw [he, hr]
    · cases qb : isVar b with
      | some j =>
        obtain rfl := isVar_some qb
        have hj : j < σ.doms.length := by cases hb with | var h => exact h | other a _ => exact sn a
        replace h := qb ▸ qa ▸ h
        skip
        refine mc h (fun g h => ?_) fun g h => ?_
        · refine (split_ok h S hj).imp fun e he => ?_
          have := eqG_ok he
          rw [ground_res g]; skip; exact this.symm
        · exact forced_in h S hb fun d τ o1 hr hd S' x h1 => (ih a d τ o1 h1 S' (ha.up x.d) hd).imp fun e he => by rw [he, hr]
      | none =>
        replace h := qb ▸ qa ▸ h
        dsimp only at h
        refine oc (o := tupOf a) (fun ta => ?_) fun l ta => ?_
        · replace h := ta ▸ h; exact okc qa qb h S (.inl fun l q => by subst q; exact sn ta)
        · cases tb : tupOf b with
          | none => replace h := tb ▸ ta ▸ h; exact okc qa qb h S (.inr fun l q => by subst q; exact sn tb)
          | some r =>
            replace h := tb ▸ ta ▸ h
            have ea : a = .tup l := tupOf_some ta
            have eb : b = .tup r := tupOf_some tb
            subst ea eb
            skip
            refine mk' h (fun q h => ?_) fun q h => ?_
            · refine has_ok h S ?_
              skip
              exact (eqvAll_len (by rw [gDs_len, gDs_len, ress_len, ress_len]; exact Nat.ne_of_beq_eq_false q)).symm
            · skip
              exact eqVs_ok ih l r σ o (Nat.eq_of_beq_eq_true q) h S (by cases ha with | tup h => exact h | other _ a => exact sn a) (by cases hb with | tup h => exact h | other _ a => exact sn a)
end
end Mine
end
section
open PySem PySem.W PyProof.Rows PySem.Calls
set_option tactic.hygienic false
namespace Mine
section
variable {W : Wk} {c : Cx} {σ τ : St} {γ : G} {s : Shared}
theorem shal_ofG {σ : St} {a : SV} : ∀ {k : Nat}, shalG k a = true → shal σ k a = true :=
  SV.rec (motive_1 := fun a => ∀ {k : Nat}, shalG k a = true → shal σ k a = true) (motive_2 := fun l => ∀ {k : Nat}, shalG.shalGs k l = true → shal.shals σ k l = true)
    (fun {k} _ => by cases k <;> rfl) (fun _ {k} _ => by cases k <;> rfl) (fun _ {k} _ => by cases k <;> rfl) (fun _ {k} _ => by cases k <;> rfl)
    (fun l ih {k} h => by cases k with | zero => exact tf h | succ k => skip; exact ih (by exact h))
    (fun _ {k} h => by cases k <;> exact tf h) (fun _ {k} h => by cases k <;> exact tf h) (fun _ {k} h => by cases k <;> exact tf h) (fun _ {k} h => by cases k <;> exact tf h) (fun _ {k} h => by cases k <;> exact tf h)
    (fun {k} _ => by skip; rfl) (fun a l ha hl {k} h => by
      skip
      unfold shal.shals
      refine mk' h (fun q h => ?_) fun q h => ?_
      · exact tf h
      · rw [ha q]; exact hl h) a
theorem shalGL_mem {k : Nat} : ∀ {l : List SV}, shalGL k l = true → ∀ a ∈ l, shalG k a = true
  | [], _, _, h => nomatch h
  | x :: l, h, a, ha => by
    skip
    refine mk' h (fun q h => ?_) fun q h => ?_
    · exact tf h
    · rcases List.mem_cons.mp ha with rfl | ha
      · exact q
      · exact shalGL_mem h a ha
theorem reads_ok (S : W.SR c σ γ s) (hG : Good W c) {v : SV} {v' : Value} (h : VR W.K γ σ.next σ.doms.length v v') :
    ∀ k, shal σ k v = true → ∃ as, Reads s.heap v' (gD (res γ.δ v)) as ∧ (gD (res γ.δ v)).canLay0 = true ∧ (gD (res γ.δ v)).depth ≤ k :=
  VR.rec (motive_1 := fun v v' _ => ∀ k, shal σ k v = true → ∃ as, Reads s.heap v' (gD (res γ.δ v)) as ∧ (gD (res γ.δ v)).canLay0 = true ∧ (gD (res γ.δ v)).depth ≤ k)
    (motive_2 := fun l l' _ => ∀ k, shal.shals σ k l = true → ∃ as, ReadsAll s.heap l' (gDs (ress γ.δ l)) as ∧ PyData.canLayAll0 (gDs (ress γ.δ l)) = true ∧ PyData.depthAll (gDs (ress γ.δ l)) ≤ k)
    (fun k _ => ⟨_, .none, rfl, Nat.zero_le _⟩) (fun b k _ => ⟨_, .bool b, rfl, Nat.zero_le _⟩) (fun i t k _ => ⟨_, .int i t, rfl, Nat.zero_le _⟩)
    (fun {str} t ok k _ => ⟨_, .str str t, by exact ok, Nat.zero_le _⟩)
    (fun {l a vs k'} ht hr ih k h => by
      cases k with
      | zero => exact tf h
      | succ k =>
        refine x13 (ih k (by exact h)) fun as r1 r2 r3 => ?_
        have ho := S.tups hG.X ht
        simp only [res, gD]
        exact ⟨as, Reads.tuple ho rfl rfl (by exact r1), by exact r2, by skip; exact Nat.succ_le_succ (by assumption)⟩)
    (fun a k h => by cases k <;> exact tf h)
    (fun _ k h => by cases k <;> exact tf h)
    (fun {i v'} hi hr ih k h => by
      have D := S.dom hi
      have h' : shalGL k (σ.dom i) = true := by cases k <;> exact h
      have g := D.2 _ D.1
      have := ih k (shal_ofG (shalGL_mem h' _ D.1))
      replace this := (ground_res g) ▸ this
      exact this)
    (fun _ _ _ _ _ k h => by cases k <;> exact tf h)
    (fun _ k h => by cases k <;> exact tf h)
    (fun k _ => ⟨_, .nil, rfl, Nat.zero_le _⟩)
    (fun {x v l vs} h1 h2 i1 i2 k h => by
      skip
      refine mk' h (fun q h => ?_) fun q h => ?_
      · exact tf h
      · refine x13 (i1 k q) fun as a1 a2 a3 => ?_
        refine x13 (i2 k h) fun bs b1 b2 b3 => ?_
        simp only [ress, gDs]
        exact ⟨_, .cons a1 b1, by simp only [PyData.canLayAll0, a2, b2, Bool.and_self], by skip; exact Nat.max_le.mpr ⟨by assumption, by assumption⟩⟩) h
theorem readsL_ok (S : W.SR c σ γ s) (hG : Good W c) : ∀ {l : List SV} {l' : List Value}, VRs W.K γ σ.next σ.doms.length l l' → ∀ k, shalL σ k l = true →
    ∃ as, ReadsAll s.heap l' (gDs (ress γ.δ l)) as ∧ PyData.canLayAll0 (gDs (ress γ.δ l)) = true ∧ PyData.depthAll (gDs (ress γ.δ l)) ≤ k
  | [], _, .nil, k, _ => ⟨_, .nil, rfl, Nat.zero_le _⟩
  | x :: l, _, .cons h1 h2, k, h => by
    skip
    refine mk' h (fun q h => ?_) fun q h => ?_
    · exact tf h
    · refine x13 (reads_ok S hG h1 k q) fun as a1 a2 a3 => ?_
      refine x13 (readsL_ok S hG h2 k h) fun bs b1 b2 b3 => ?_
      simp only [ress, gDs]
      exact ⟨_, .cons a1 b1, by simp only [PyData.canLayAll0, a2, b2, Bool.and_self], by skip; exact Nat.max_le.mpr ⟨by assumption, by assumption⟩⟩
theorem guard_some {α : Type} {b : Bool} {m : R α} {o : Out α} (h : guardR b m = some o) : b = true ∧ m = some o := bm h
theorem listOfObj_some {v : SV} {l : List SV} (h : listOfObj σ v = some l) : ∃ j, v = .obj j ∧ σ.get j = some (.list l) := by
  refine x12 (om h) fun j q h1 => ?_
  exact ⟨j, objOf_some q, asList_some h1⟩
theorem dictOfObj_some {v : SV} {l : List (Str × SV)} (h : dictOfObj σ v = some l) : ∃ j, v = .obj j ∧ σ.get j = some (.dict l) := by
  refine x12 (om h) fun j q h1 => ?_
  exact ⟨j, objOf_some q, asDict_some h1⟩
theorem VRs.len {K : Frag} {n d : Nat} {l : List SV} {l' : List Value} (h : VRs K γ n d l l') : l'.length = l.length :=
  VRs.ind K (P := fun l l' => l'.length = l.length) rfl (fun _ _ ih => congrArg Nat.succ ih) h
theorem SR.listAt (S : W.SR c σ γ s) {v : SV} {v' : Value} {l : List SV} (h : listOfObj σ v = some l) (hv : VR W.K γ σ.next σ.doms.length v v') :
    ∃ a vs, v' = .ref a ∧ s.heap.IsList a vs.toArray ∧ VRs W.K γ σ.next σ.doms.length l vs ∧ ∃ k, s.heap.get? a = some (listOf vs.toArray k) := by
  (refine x12 (listOfObj_some h) fun j er1 hg => ?_; subst er1)
  obtain ⟨hn, l0, ho, N⟩ := S.thing hg
  (refine x02 hv.view fun er0 _ => ?_; subst er0)
  (refine x22 ho.form fun _ _ er2 hr => ?_; subst er2)
  exact ⟨_, _, rfl, ⟨_, (N _ (.head _)).1, rfl, _, rfl⟩, hr, _, (N _ (.head _)).1⟩
noncomputable def snapD (δ : Nat → SV) (x : Bool × List SV) : PyData := match x.1 with
  | true => .list (gDs (ress δ x.2))
  | false => match gDs (ress δ x.2) with
    | [d] => d
    | _ => .none
noncomputable def SnapIn (d : Nat) (x : Bool × List SV) : Prop := (∀ a ∈ x.2, In d a) ∧ (x.1 = false → ∃ u, x.2 = [u])
theorem snap_reads (S : W.SR c σ γ s) (hG : Good W c) {v : SV} {v' : Value} {x : Bool × List SV} (h : snap σ v = some x) (hv : VR W.K γ σ.next σ.doms.length v v') :
    (∃ as, Reads s.heap v' (snapD γ.δ x) as ∧ (snapD γ.δ x).canLay0 = true ∧ (snapD γ.δ x).depth ≤ 13) ∧ SnapIn σ.doms.length x := by
  unfold snap at h
  refine ok' (o := listOfObj σ v) (fun l q => ?_) fun q => ?_
  · replace h := q ▸ h
    refine x02 (bm h) fun q2 h => ?_
    obtain rfl := ss h
    obtain ⟨a, vs, rfl, hl, hvs, k, ho⟩ := S.listAt q hv
    refine x13 (readsL_ok S hG hvs 12 q2) fun as r1 r2 r3 => ?_
    exact ⟨⟨_, reads_list_at ho rfl rfl (by exact r1), by exact r2, Nat.succ_le_succ r3⟩, hvs.in, fun e => by exact ft e⟩
  · replace h := q ▸ h
    refine x02 (bm h) fun q2 h => ?_
    obtain rfl := ss h
    refine x13 (reads_ok S hG hv 12 q2) fun as r1 r2 r3 => ?_
    exact ⟨⟨_, r1, r2, Nat.le_succ_of_le r3⟩, fun a ha => by rw [List.mem_singleton.mp ha]; exact hv.in, fun _ => ⟨_, rfl⟩⟩
theorem snaps_reads (S : W.SR c σ γ s) (hG : Good W c) : ∀ {l : List SV} {l' : List Value} {xs : List (Bool × List SV)}, snaps σ l = some xs → VRs W.K γ σ.next σ.doms.length l l' →
    (∃ as, ReadsAll s.heap l' (xs.map (snapD γ.δ)) as ∧ PyData.canLayAll0 (xs.map (snapD γ.δ)) = true ∧ PyData.depthAll (xs.map (snapD γ.δ)) ≤ 13) ∧ (∀ x ∈ xs, SnapIn σ.doms.length x) ∧ xs.length = l.length
  | [], _, xs, h, .nil => by obtain rfl := ss h; exact ⟨⟨_, .nil, rfl, Nat.zero_le _⟩, (fun _ hx => nomatch hx), rfl⟩
  | v :: r, _, xs, h, .cons h1 h2 => by
    refine x12 (om h) fun x q h => ?_
    refine x12 (om h) fun ys q2 h => ?_
    obtain rfl := ss h
    obtain ⟨⟨as, a1, a2, a3⟩, a4⟩ := snap_reads S hG q h1
    obtain ⟨⟨bs, b1, b2, b3⟩, b4, b5⟩ := snaps_reads S hG q2 h2
    refine ⟨⟨_, .cons a1 b1, by simp only [List.map_cons, PyData.canLayAll0, a2, b2, Bool.and_self], by skip; exact Nat.max_le.mpr ⟨by assumption, by assumption⟩⟩, fun y hy => ?_, by simp [b5]⟩
    rcases List.mem_cons.mp hy with rfl | hy
    · exact a4
    · exact b4 y hy
theorem eqSnap_ok (S : W.SR c σ γ s) {x y : Bool × List SV} {o : Out Bool} (h : eqSnap x y σ = some o) (hx : SnapIn σ.doms.length x) (hy : SnapIn σ.doms.length y) : Has W c σ γ s o fun e => e = PyData.eqv (snapD γ.δ x) (snapD γ.δ y) := by
  obtain ⟨kx, lx⟩ := x
  obtain ⟨ky, ly⟩ := y
  refine x02 (bm h) fun q1 h => ?_
  refine x02 (bm h) fun q2 h => ?_
  have key := eqVs_ok (fun a b σ o => eqV_ok _ a b σ o) lx ly σ o (Nat.eq_of_beq_eq_true q2) h S hx.1 hy.1
  cases kx with
  | true =>
    cases ky with
    | true => exact key.imp fun e he => by rw [he]; rfl
    | false => exact tf q1
  | false =>
    cases ky with
    | true => exact tf q1
    | false =>
      refine x11 (hx.2 rfl) fun u hu => ?_
      refine x11 (hy.2 rfl) fun w hw => ?_
      have hu : lx = [u] := hu
      have hw : ly = [w] := hw
      subst hu
      subst hw
      exact key.imp fun e he => by rw [he]; simp only [snapD, ress, gDs, PyData.eqvAll, Bool.and_true]
theorem eqSnaps_ok : ∀ (xs ys : List (Bool × List SV)) (σ : St) (o : Out Bool), xs.length = ys.length → eqSnaps xs ys σ = some o → W.SR c σ γ s → (∀ x ∈ xs, SnapIn σ.doms.length x) → (∀ x ∈ ys, SnapIn σ.doms.length x) →
    Has W c σ γ s o fun e => e = PyData.eqvAll (xs.map (snapD γ.δ)) (ys.map (snapD γ.δ))
  | [], [], σ, o, _, h, S, _, _ => has_ok h S rfl
  | x :: xs, y :: ys, σ, o, hl, h, S, hx, hy => by
    refine has_bind h (fun l1 e => eqSnap_ok S e (hx _ (.head _)) (hy _ (.head _))) fun e τ o1 he S' z h1 => ?_
    simp only [List.map_cons, PyData.eqvAll]
    rw [← he]
    have up : ∀ x, SnapIn σ.doms.length x → SnapIn τ.doms.length x := fun x h => ⟨fun a ha => (h.1 a ha).up z.d, h.2⟩
    cases e with
    | false => exact has_ok h1 S' rfl
    | true =>
      skip
      exact eqSnaps_ok xs ys τ o1 (by simpa using hl) h1 S' (fun a h => up a (hx a (.tail _ h))) fun a h => up a (hy a (.tail _ h))
noncomputable def CmpD (c : Cx) (s : Shared) (a' b' : Value) (e : Bool) : Prop :=
  (∃ da db as bs, Reads s.heap a' da as ∧ Reads s.heap b' db bs ∧ da.canLay0 = true ∧ db.canLay0 = true ∧ c.un + min da.depth db.depth < cLine ∧ PyData.eqv da db = e) ∨
  ∃ x y vs ws, a' = .ref x ∧ b' = .ref y ∧ s.heap.IsList x vs ∧ s.heap.IsList y ws ∧ (vs.size != ws.size) = true ∧ e = false
theorem cmpD_ok (S : W.SR c σ γ s) (hG : Good W c) {n : Nat} (hR : Room n c) {a b : SV} {a' b' : Value} {o : Out Bool} (h : cmpEq a b σ = some o) (ha : VR W.K γ σ.next σ.doms.length a a') (hb : VR W.K γ σ.next σ.doms.length b b') :
    Has W c σ γ s o fun e => CmpD c s a' b' e := by
  have hu : c.un + 64 < cLine := by have := hR.u; exact lo5 (by assumption) (by decide)
  unfold cmpEq at h
  refine oc (o := listOfObj σ a) (fun qa => ?_) fun l qa => ?_
  · cases qb : listOfObj σ b with
    | some r => replace h := qb ▸ qa ▸ h; exact ns h
    | none =>
      replace h := qb ▸ qa ▸ h
      have parts : eqParts a b σ = some o → Has W c σ γ s o fun e => CmpD c s a' b' e := fun hp => by
        refine x12 (om hp) fun l ta hp => ?_
        refine x12 (om hp) fun r tb hp => ?_
        refine x12 (om hp) fun xs sa hp => ?_
        refine x12 (om hp) fun ys sb hp => ?_
        refine x02 (bm hp) fun q hq => ?_
        obtain rfl := tupOf_some ta
        obtain rfl := tupOf_some tb
        refine x33 ha.view fun _ _ _ er3 ta' ra => ?_; subst er3
        refine x33 hb.view fun _ _ _ er3 tb' rb => ?_; subst er3
        obtain ⟨⟨as, a1, a2, a3⟩, a4, a5⟩ := snaps_reads S hG sa ra
        obtain ⟨⟨bs, b1, b2, b3⟩, b4, b5⟩ := snaps_reads S hG sb rb
        refine (eqSnaps_ok xs ys σ o (by rw [a5, b5]; exact Nat.eq_of_beq_eq_true q) hq S a4 b4).imp fun e he => .inl ⟨_, _, _, _, Reads.tuple (S.tups hG.X ta') rfl rfl (by exact a1), Reads.tuple (S.tups hG.X tb') rfl rfl (by exact b1), by exact a2, by exact b2, ?_, ?_⟩
        · show c.un + min (PyData.depthAll _ + 1) _ < _
          exact mn (by assumption) (Nat.succ_le_succ (by assumption)) (by decide)
        · rw [he]; rfl
      dsimp only [eqDatas] at h
      refine bk (b := shal σ 12 a) (fun g1 => ?_) fun g1 => ?_
      · replace h := g1 ▸ h; exact parts h
      · cases g2 : shal σ 12 b with
        | false => replace h := g2 ▸ g1 ▸ h; exact parts h
        | true =>
          replace h := g2 ▸ g1 ▸ h
          refine x13 (reads_ok S hG ha 12 g1) fun as r1 r2 r3 => ?_
          refine x13 (reads_ok S hG hb 12 g2) fun bs t1 t2 t3 => ?_
          exact (eqV_ok _ _ _ _ _ h S ha.in hb.in).imp fun e he => .inl ⟨_, _, _, _, r1, t1, r2, t2, by exact mn (by assumption) (by assumption) (by decide), he.symm⟩
  · cases qb : listOfObj σ b with
    | none => replace h := qb ▸ qa ▸ h; exact ns h
    | some r =>
      replace h := qb ▸ qa ▸ h
      obtain ⟨x, vs, rfl, hl, hvs, kx, ho⟩ := S.listAt qa ha
      obtain ⟨y, ws, rfl, hm, hws, ky, ho'⟩ := S.listAt qb hb
      skip
      refine mk' h (fun q h => ?_) fun q h => ?_
      · refine has_ok h S (.inr ⟨_, _, _, _, rfl, rfl, hl, hm, ?_, rfl⟩)
        rw [bne_iff_ne]
        simpa [hvs.len, hws.len] using Nat.ne_of_beq_eq_false q
      · refine x02 (guard_some h) fun g1 h => ?_
        refine x02 (guard_some h) fun g2 h => ?_
        refine x13 (readsL_ok S hG hvs 12 g1) fun as r1 r2 r3 => ?_
        refine x13 (readsL_ok S hG hws 12 g2) fun bs t1 t2 t3 => ?_
        refine (eqVs_ok (fun a b σ o => eqV_ok _ a b σ o) l r σ o (Nat.eq_of_beq_eq_true q) h S hvs.in hws.in).imp fun e he => .inl ⟨_, _, _, _, reads_list_at ho rfl rfl (by exact r1), reads_list_at ho' rfl rfl (by exact t1), by exact r2, by exact t2, ?_, ?_⟩
        · show c.un + min (PyData.depthAll _ + 1) _ < _
          exact mn (by assumption) (Nat.succ_le_succ (by assumption)) (by decide)
        · rw [he]; rfl
theorem cmpEq_ok (S : W.SR c σ γ s) (hG : Good W c) {n : Nat} (hR : Room n c) {a b : SV} {a' b' : Value} {o : Out Bool} (h : cmpEq a b σ = some o) (ha : VR W.K γ σ.next σ.doms.length a a') (hb : VR W.K γ σ.next σ.doms.length b b') :
    Has W c σ γ s o fun e => ∀ Q E, Q (.bool e) s → wpAny (model W.prog W.w) c.A (compareOp .Eq a' b') Q E s :=
  (cmpD_ok S hG hR h ha hb).imp fun e he Q E q => by
    rcases he with ⟨da, db, as, bs, r1, r2, l1, l2, hu, he⟩ | ⟨x, y, vs, ws, rfl, rfl, hl, hm, hne, rfl⟩
    · exact SeqAt.compareEq_reads r1 r2 l1 l2 hu (by rw [he]; exact q)
    · exact SeqAt.eq_list_lengthsAt hl hm hne (by have := hR.u; show c.un < _; exact lo2 (by assumption)) q
end
end Mine
end
section
open PySem PySem.W PyProof.Rows PySem.Calls
set_option tactic.hygienic false
namespace Mine
noncomputable def GlobOK (W : Wk) (C : Cfg) : Prop := ∀ x v, lkS x C.glob = some v → ∃ v', (W.mg x = some v' ∨ (W.mg x = none ∧ W.mb x = some v')) ∧ ∀ γ n d, VR W.K γ n d v v'
section
variable {W : Wk} {c : Cx} {σ τ : St} {γ : G} {s : Shared} {fm : Fm} {env : Env}
theorem SR.cellAt (S : W.SR c σ γ s) {j : Nat} {v : Option SV} (h : σ.get j = some (.cell v)) :
    ∃ v', s.heap.IsCell (γ.ρ j) v' ∧ OVR W.K γ σ.next σ.doms.length v v' := by
  obtain ⟨hn, l, ho, N⟩ := S.thing h
  (refine x23 ho.form fun _ _ er2 hd r => ?_; subst er2)
  exact ⟨_, ⟨_, (N _ (.head _)).1, hd⟩, r⟩
theorem cellV_some {x : Str} {v : SV} (h : cellV fm x σ = some v) : ∃ j, lkS x fm.cells = some j ∧ σ.get j = some (.cell (some v)) := by
  refine x12 (om h) fun j hj h => ?_
  refine x12 (om h) fun w hg h => ?_
  have h : w = some v := h
  exact ⟨j, hj, h ▸ asCell_some hg⟩
theorem SR.cell1 (S : W.SR c σ γ s) {j : Nat} {v : SV} (h : σ.get j = some (.cell (some v))) :
    ∃ v', s.heap.IsCell (γ.ρ j) (some v') ∧ VR W.K γ σ.next σ.doms.length v v' := by
  refine x12 (S.cellAt h) fun v' h1 h2 => ?_
  cases v' with
  | none => exact h2.elim
  | some v' => exact ⟨v', h1, h2⟩
theorem name_ok {C : Cfg} (GO : GlobOK W C) (hG : Good W c) (hF : FmOK W c fm γ σ.next σ.doms.length env) (S : W.SR c σ γ s) {x : Str} {v : SV} {pos : Pos} (h : nameV C fm x σ = some v) {Q : Value → Shared → Prop} {E : Value → Shared → Prop}
    (k : ∀ v', VR W.K γ σ.next σ.doms.length v v' → Q v' s) : wpAny (model W.prog W.w) c.A (eval (.Name x pos) env) Q E s := by
  refine x12 (S.fr) fun m F Ev => ?_
  refine x13 S.nw fun H hH N _ => ?_
  have T := hG.T.keeps F.keep
  refine x12 (om h) fun kd hk h => ?_
  have hd := hF.dbg x kd hk
  have hkd : env.kindOf x = some kd := (hF.names x).trans hk
  cases kd with
  | «local» =>
    unfold localV at h
    refine oc (o := fm.cv) (fun hc => ?_) fun q hc => ?_
    · replace h := hc ▸ h
      refine x12 (Ev.r x v h) fun v' e r => ?_
      have he := hF.fn hc
      exact wpAny_Name (wpAny_loadName_local hF.kind hkd (by rw [he]; exact F.ns) e (k v' r)) hd.1
    · replace h := hc ▸ h
      refine x02 (bm h) fun hx h5 => ?_
      obtain rfl := sB_iff.mp hx
      obtain rfl := ss h5
      refine x34 (hF.comp q hc) fun oC m₂ v' h1 h2 h3 h4 => ?_
      exact wpAny_Name (wpAny_loadName_local hF.kind hkd (h2.ns (N _ (List.mem_append_left _ h1)).1) h3 (k v' h4)) hd.1
  | cell =>
    refine x12 (cellV_some h) fun j hj hg => ?_
    refine x12 (S.cell1 hg) fun v' h1 h2 => ?_
    exact wpAny_Name (wpAny_loadName_cell hF.kind hkd (hF.cells x j hj (.inl hk)).1 h1 (k v' h2)) hd.1
  | free =>
    refine x12 (cellV_some h) fun j hj hg => ?_
    refine x12 (S.cell1 hg) fun v' h1 h2 => ?_
    exact wpAny_Name (wpAny_loadName_free hF.kind hkd (hF.cells x j hj (.inr hk)).1 h1 (k v' h2) hd.2) hd.1
  | globalImplicit =>
    refine x12 (GO x v h) fun v' h1 h2 => ?_
    refine Name_function_global hF.kind hkd ?_ hd.1
    refine Or.elim h1 (fun h1 => ?_) fun qq => x02 qq fun h1 h3 => ?_
    · exact loadGlobal_global (by rw [hF.glob]; exact T.g) h1 (k v' (h2 _ _ _))
    · exact loadGlobal_builtin (by rw [hF.glob]; exact T.g) h1 (by rw [hF.blt]; exact T.b) h3 (k v' (h2 _ _ _))
  | globalExplicit => exact ns h
end
section
variable {W : Wk} {c : Cx} {σ τ : St} {γ : G} {s : Shared} {fm : Fm} {env : Env} {β : Type}
theorem notR_has {m : R Bool} {o : Out Bool} {P : Bool → Prop} (h : notR m = some o) (h1 : ∀ l, m = some l → Has W c σ γ s l P) : Has W c σ γ s o fun b => P (!b) := by
  refine has_bind h h1 fun a τ o1 p S x e => has_ok e S ?_
  simpa using p
set_option tactic.hygienic true in
theorem dec_iLt {x y : Int} : decide (x < y) = iLt x y := by
  unfold iLt
  split
  · rename_i m n; rw [Bool.eq_iff_iff]; simp [Nat.blt_eq]
  · rename_i m n; rw [Bool.eq_iff_iff]; simp [Nat.blt_eq]; omega
  · rename_i m n; simp; omega
  · rename_i m n; simp; omega
theorem KV.get {n d : Nat} {s : Str} {l : List (Str × SV)} {l' : List (Str × Value)} (h : KV W.K γ n d l l') : ∀ v, lkS s l = some v → ∃ v', valueAt l' s = some v' ∧ VR W.K γ n d v v' := by
  induction h with
  | nil => intro v h; exact ns h
  | @cons x u u' l l' ok hv hr ih =>
    intro v h
    replace h := lkS_cons ▸ h
    unfold valueAt
    by_cases q : s = x
    · subst q
      replace h := (if_pos rfl) ▸ h; obtain rfl := ss h
      exact ⟨u', by simp, hv⟩
    · replace h := (if_neg q) ▸ h
      refine x12 (ih v h) fun v' e r => ?_
      refine ⟨v', ?_, r⟩
      unfold valueAt at e
      simpa [Ne.symm q] using e
theorem KV.no {n d : Nat} {s : Str} {l : List (Str × SV)} {l' : List (Str × Value)} (h : KV W.K γ n d l l') : lkS s l = none → valueAt l' s = none := by
  induction h with
  | nil => intro h; rfl
  | @cons x u u' l l' ok hv hr ih =>
    intro h
    replace h := lkS_cons ▸ h
    unfold valueAt
    by_cases q : s = x
    · replace h := (if_pos q) ▸ h; exact sn h
    · replace h := (if_neg q) ▸ h
      have e := ih h
      unfold valueAt at e
      simpa [Ne.symm q] using e
theorem KV.isSome {n d : Nat} {s : Str} {l : List (Str × SV)} {l' : List (Str × Value)} (h : KV W.K γ n d l l') : (valueAt l' s).isSome = (lkS s l).isSome := by
  cases q : lkS s l with
  | none => rw [h.no q]; rfl
  | some v => refine x12 (h.get v q) fun v' e _ => ?_; rw [e]; rfl
end
end Mine
end
section
open PySem PySem.W PyProof.Rows PySem.Calls
set_option tactic.hygienic false
namespace Mine
section
variable {W : Wk} {c : Cx} {σ τ : St} {γ : G} {s : Shared}
noncomputable abbrev Cmp (W : Wk) (c : Cx) (s : Shared) (op : CmpOp) (a' b' : Value) (e : Bool) : Prop := ∀ Q E, (∀ tk, Q (.bool e) { s with toks := tk }) → wpAny (model W.prog W.w) c.A (compareOp op a' b') Q E s
theorem cmpNe_ok (S : W.SR c σ γ s) (hG : Good W c) {n : Nat} (hR : Room n c) {a b : SV} {a' b' : Value} {o : Out Bool} (h : cmpEq a b σ = some o) (ha : VR W.K γ σ.next σ.doms.length a a') (hb : VR W.K γ σ.next σ.doms.length b b') :
    Has W c σ γ s o fun e => Cmp W c s .NotEq a' b' (!e) :=
  (cmpD_ok S hG hR h ha hb).imp fun e he Q E q => by
    rcases he with ⟨da, db, as, bs, r1, r2, l1, l2, hu, he⟩ | ⟨x, y, vs, ws, rfl, rfl, hl, hm, hne, rfl⟩
    · exact SeqAt.compareNe_reads r1 r2 l1 l2 hu (by rw [he]; exact q s.toks)
    · exact SeqAt.RcNeAt.lists_lengths hl hm hne (by have := hR.u; show c.un < _; exact lo2 (by assumption)) W.prog W.w E Q (q s.toks)
theorem inSeq_ok {x : SV} : ∀ (l : List SV) (σ : St) (o : Out Bool), inSeq x l σ = some o → W.SR c σ γ s → In σ.doms.length x → (∀ a ∈ l, In σ.doms.length a) →
    Has W c σ γ s o fun e => e = (gDs (ress γ.δ l)).any fun y => PyData.eqv y (gD (res γ.δ x))
  | [], σ, o, h, S, hx, hl => has_ok h S rfl
  | y :: r, σ, o, h, S, hx, hl => by
    skip
    refine has_bind h (fun l e => eqV_ok _ _ _ _ _ e S (hl _ (.head _)) hx) fun a τ o1 pa S1 x1 e1 => ?_
    cases a with
    | true => refine has_ok e1 S1 ?_; simp only [ress, gDs, List.any_cons, ← pa, Bool.true_or]
    | false =>
      refine (inSeq_ok r τ o1 e1 S1 (hx.up x1.d) fun a ha => (hl a (.tail _ ha)).up x1.d).imp fun e he => ?_
      rw [he]; simp only [ress, gDs, List.any_cons, ← pa, Bool.false_or]
theorem inItems_ok {x : SV} {l : List SV} {o : Out Bool} (h : inItems x l σ = some o) (S : W.SR c σ γ s) (hx : In σ.doms.length x) (hl : ∀ a ∈ l, In σ.doms.length a) :
    Has W c σ γ s o fun e => e = (gDs (ress γ.δ l)).any fun y => PyData.eqv y (gD (res γ.δ x)) := by
  unfold inItems at h
  refine oc (o := isVar x) (fun q => ?_) fun i q => ?_
  · replace h := q ▸ h; exact inSeq_ok l σ o h S hx hl
  · replace h := q ▸ h
    refine bk (b := grounds l) (fun g => ?_) fun g => ?_
    · dsimp only at h; replace h := g ▸ h; exact inSeq_ok l σ o h S hx hl
    · dsimp only at h
      replace h := g ▸ h
      have hv := isVar_some q
      subst hv
      have hi : i < σ.doms.length := by cases hx with
        | var h => exact h
        | other h _ => exact sn h
      refine (split_ok h S hi).imp fun e he => ?_
      have hg := (S.dom hi).2 _ (S.dom hi).1
      rw [← inG_ok he, grounds_res g]
      rfl
theorem cmpIn_ok (S : W.SR c σ γ s) (hG : Good W c) {n : Nat} (hR : Room n c) {a b : SV} {a' b' : Value} {o : Out Bool} (h : cmpIn a b σ = some o) (ha : VR W.K γ σ.next σ.doms.length a a') (hb : VR W.K γ σ.next σ.doms.length b b') :
    Has W c σ γ s o fun e => Cmp W c s .In a' b' e ∧ Cmp W c s .NotIn a' b' (!e) := by
  have hu : c.un + 64 < cLine := by have := hR.u; exact lo5 (by assumption) (by decide)
  unfold cmpIn at h
  have data : ∀ {l : List SV} {vs : List Value}, inData a l σ = some o → VRs W.K γ σ.next σ.doms.length l vs →
      ∃ xs d as bs, Reads s.heap a' d bs ∧ ReadsAll s.heap vs xs as ∧ PyData.canLayAll0 xs = true ∧ d.canLay0 = true ∧ PyData.depthAll xs ≤ 12 ∧
        Has W c σ γ s o fun e => e = xs.any fun y => PyData.eqv y d := by
    intro l vs h hvs
    skip
    refine x02 (guard_some h) fun g1 h => ?_
    refine x02 (guard_some h) fun g2 h => ?_
    refine x13 (reads_ok S hG ha 12 g1) fun as r1 r2 r3 => ?_
    refine x13 (readsL_ok S hG hvs 12 g2) fun bs t1 t2 t3 => ?_
    exact ⟨_, _, _, _, r1, t1, t2, r2, t3, inItems_ok h S ha.in hvs.in⟩
  refine ok' (o := tupOf b) (fun l qb => ?_) fun qb => ?_
  · replace h := qb ▸ h
    have := tupOf_some qb; subst this
    refine x33 hb.view fun _ _ _ er3 ht hr => ?_; subst er3
    obtain ⟨xs, d, as, bs, rx, rl, cl, cd, dl, H⟩ := data h hr
    have ho := S.tups hG.X ht
    have rc := Reads.tuple ho rfl rfl (by exact rl)
    exact H.imp fun e he => ⟨fun Q E q => SeqAt.in_tuple_reads rc rx cl cd (by show c.un + 1 + _ < _; exact mo (by assumption) (by assumption) (by decide)) (by rw [← he]; exact q s.toks),
      fun Q E q => SeqAt.notIn_tuple_reads rc rx cl cd (by show c.un + 1 + _ < _; exact mo (by assumption) (by assumption) (by decide)) (by rw [← he]; exact q s.toks)⟩
  · replace h := qb ▸ h
    skip
    refine ok' (o := listOfObj σ b) (fun l ql => ?_) fun ql => ?_
    · replace h := ql ▸ h
      obtain ⟨x, vs, rfl, hl, hvs, kx, ho⟩ := S.listAt ql hb
      obtain ⟨xs, d, as, bs, rx, rl, cl, cd, dl, H⟩ := data h hvs
      have rc := reads_list_at ho rfl rfl (by exact rl)
      exact H.imp fun e he => ⟨fun Q E q => SeqAt.in_list_reads rc rx cl cd (by show c.un + 1 + _ < _; exact mo (by assumption) (by assumption) (by decide)) (by rw [← he]; exact q s.toks),
        fun Q E q => SeqAt.notIn_list_reads rc rx cl cd (by show c.un + 1 + _ < _; exact mo (by assumption) (by assumption) (by decide)) (by rw [← he]; exact q s.toks)⟩
    · replace h := ql ▸ h
      dsimp only at h
      refine oc (o := dictOfObj σ b) (fun qd => ?_) fun kvs qd => ?_
      · replace h := qd ▸ h; exact ns h
      · cases qs : strOf a with
        | none => replace h := qs ▸ qd ▸ h; exact ns h
        | some x =>
          replace h := qs ▸ qd ▸ h
          have : a = .str x := strOf_some qs
          subst this
          refine x12 (dictOfObj_some qd) fun j er1 hg => ?_; subst er1
          obtain ⟨hn, l, hor, N⟩ := S.thing hg
          refine x12 ha.view fun t er1 hok => ?_; subst er1
          refine x02 hb.view fun er0 _ => ?_; subst er0
          refine x24 hor.form fun _ _ er2 kv hd hs => ?_; subst er2
          have M : s.heap.DictOf (strKind W.prog W.w) (γ.ρ j) _ := Heap.dictOf_iff.mpr ⟨_, (N _ (.head _)).1, hd⟩
          refine has_ok h S ⟨fun Q E q => wpAny_in_of (strKind_is W.prog W.w x t) hs M.mapOf (by rw [kv.isSome]; exact q _),
            fun Q E q => wpAny_notIn_of (strKind_is W.prog W.w x t) hs M.mapOf (by rw [kv.isSome]; exact q _)⟩
end
end Mine
end
section
open PySem PySem.W PyProof.Rows PySem.Calls
set_option tactic.hygienic false
namespace Mine
section
variable {W : Wk} {c : Cx} {σ τ : St} {γ : G} {s : Shared}
theorem Cmp.of {op : CmpOp} {a' b' : Value} {e : Bool} (h : ∀ Q E, Q (.bool e) s → wpAny (model W.prog W.w) c.A (compareOp op a' b') Q E s) : Cmp W c s op a' b' e := fun Q E q => h Q E (q s.toks)
theorem bfV_ne (f : Bf) : bfV f ≠ .none := by cases f <;> (intro h; exact cd Value.ctorIdx h rfl)
theorem isNoneG_ok {n d : Nat} {v : SV} {v' : Value} {b : Bool} (h : isNoneG v = some b) (hv : VR W.K γ n d v v') : (v' == Value.none) = b := by
  cases hv <;> first
    | ((first | exact ns h | obtain rfl := ss h); rfl)
    | ((first | exact ns h | obtain rfl := ss h); exact beq_eq_false_iff_ne.mpr (bfV_ne _))
    | exact ns h
theorem okB_some {α : Type} {x : Option Bool} {o : Out Bool} (h : okB x σ = some o) : ∃ b, x = some b ∧ okR b σ = some o := by
  cases x with
  | none => exact ns h
  | some b => exact ⟨b, rfl, h⟩
theorem isNone_ok (S : W.SR c σ γ s) {v : SV} {v' : Value} {o : Out Bool} (h : isNone v σ = some o) (hv : VR W.K γ σ.next σ.doms.length v v') : Has W c σ γ s o fun e => (v' == Value.none) = e := by
  unfold isNone at h
  refine oc (o := isVar v) (fun q => ?_) fun i q => ?_
  · replace h := q ▸ h
    refine x12 (okB_some (α := Unit) h) fun b e h => ?_
    exact has_ok h S (isNoneG_ok e hv)
  · replace h := q ▸ h
    have := isVar_some q; subst this
    refine x02 hv.view fun hi hr => ?_
    exact (split_ok h S hi).imp fun e he => isNoneG_ok he hr
theorem cmpIs_ok (S : W.SR c σ γ s) {a b : SV} {a' b' : Value} {o : Out Bool} (h : cmpIs a b σ = some o) (ha : VR W.K γ σ.next σ.doms.length a a') (hb : VR W.K γ σ.next σ.doms.length b b') :
    Has W c σ γ s o fun e => Cmp W c s .Is a' b' e ∧ Cmp W c s .IsNot a' b' (!e) := by
  skip
  cases b <;> first | exact ns h | skip
  cases hb
  refine (isNone_ok S h ha).imp fun e he => ⟨fun Q E q => is_none_gen (by rw [he]; exact q s.toks), fun Q E q => isnot_none_gen (by rw [he]; exact q s.toks)⟩
theorem forced_has {α : Type} {v : SV} {v' : Value} {k : SV → St → R α} {o : Out α} {P : α → Prop} (h : forced v σ k = some o) (S : W.SR c σ γ s) (hv : VR W.K γ σ.next σ.doms.length v v')
    (h2 : ∀ d τ o1, VR W.K γ τ.next τ.doms.length d v' → isVar d = none → W.SR c τ γ s → Ext σ γ γ τ → k d τ = some o1 → Has W c τ γ s o1 P) : Has W c σ γ s o P := by
  have hf := force_ok S hv
  obtain ⟨d, τ, hm, ⟨p1, p2, _⟩, S1, x⟩ := hf
  refine x12 ((forced_spec h _ _ hm).1 d rfl) fun o1 e1 sub => ?_
  obtain ⟨b, υ, hb, pb, Sb, y⟩ := h2 d τ o1 (p1.later x.later) p2 S1 x e1
  exact ⟨b, υ, sub _ hb, pb, Sb, x.trans y⟩
theorem truth_ok (S : W.SR c σ γ s) {v : SV} {v' : Value} {o : Out Bool} (h : truth v σ = some o) (hv : VR W.K γ σ.next σ.doms.length v v') : Has W c σ γ s o fun e => v' = .bool e := by
  refine forced_has h S hv fun d τ o1 hd _ S1 x e => ?_
  refine x12 (okB_some (α := Unit) e) fun b e1 e2 => ?_
  have := boolOf_some e1; subst this
  cases hd
  exact has_ok e2 S1 rfl
theorem ltOf_ok (S : W.SR c σ γ s) {flip : Bool} {a b : SV} {a' b' : Value} {o : Out Bool} (h : ltOf flip a b σ = some o) (ha : VR W.K γ σ.next σ.doms.length a a') (hb : VR W.K γ σ.next σ.doms.length b b') :
    Has W c σ γ s o fun e => Cmp W c s (match flip with | true => .Gt | false => .Lt) a' b' e := by
  refine forced_has h S ha fun d τ o1 hd _ S1 x e => ?_
  refine oc (o := intOf d) (fun q1 => ?_) fun i q1 => ?_
  · replace e := q1 ▸ e; exact ns e
  · cases q2 : intOf b with
    | none => replace e := q2 ▸ q1 ▸ e; exact ns e
    | some j =>
      replace e := q2 ▸ q1 ▸ e
      have := intOf_some q1; subst this
      have := intOf_some q2; subst this
      cases hd
      cases hb
      refine has_ok e S1 (Cmp.of fun Q E q => ?_)
      cases flip with
      | false => exact lt_int (by rw [dec_iLt]; exact q)
      | true => exact gt_int (by rw [dec_iLt]; exact q)
theorem compare_ok (S : W.SR c σ γ s) (hG : Good W c) {n : Nat} (hR : Room n c) {op : CmpOp} {a b : SV} {a' b' : Value} {o : Out Bool} (h : compare op a b σ = some o) (ha : VR W.K γ σ.next σ.doms.length a a') (hb : VR W.K γ σ.next σ.doms.length b b') :
    Has W c σ γ s o fun e => Cmp W c s op a' b' e := by
  cases op <;> try (exact ns h; done)
  · exact (cmpEq_ok S hG hR h ha hb).imp fun e he => Cmp.of he
  · exact (notR_has h fun l e => cmpNe_ok S hG hR e ha hb).imp fun e he => by simpa using he
  · exact ltOf_ok (flip := false) S h ha hb
  · exact ltOf_ok (flip := true) S h ha hb
  · exact (cmpIs_ok S h ha hb).imp fun e he => he.1
  · exact (notR_has h fun l e => cmpIs_ok S e ha hb).imp fun e he => by simpa using he.2
  · exact (cmpIn_ok S hG hR h ha hb).imp fun e he => he.1
  · exact (notR_has h fun l e => cmpIn_ok S hG hR e ha hb).imp fun e he => by simpa using he.2
end
section
variable {W : Wk} {n : Nat} {S : Sems} {c : Cx} {fm : Fm} {σ : St} {γ : G} {s : Shared} {env : Env}
theorem cmpT_ok (IH : SemsOK W n S) (hG : Good W c) (hR : Room n c) {l r : PySem.Expr} {op : CmpOp} {pos : Pos} {o : Out Bool} (h : cmpT S fm l op r σ = some o) (hF : FmOK W c fm γ σ.next σ.doms.length env) (hS : W.SR c σ γ s)
    {Q : Bool → Shared → Prop} {E : Value → Shared → Prop} (P : Post W c o σ γ BRel Q E) :
    wpAny (model W.prog W.w) c.A (eval l env) (fun a s₁ => wpAny (model W.prog W.w) c.A (eval r env) (fun b s₂ => wpAny (model W.prog W.w) c.A (compareOp op a b) (fun v s₃ => ∃ e, v = .bool e ∧ Q e s₃) E s₂) E s₁) E s := by
  refine x12 (bind_spec h) fun l1 e1 h1 => ?_
  refine IH.ev _ _ _ _ e1 c γ s env hG hF hS hR _ _ (post_bind h1 P fun a τ o1 e2 γ' s' x S' P' a' ha => ?_)
  refine x12 (bind_spec e2) fun l2 e3 h3 => ?_
  refine IH.ev _ _ _ _ e3 c γ' s' env hG (hF.later x.later) S' hR _ _ (post_bind h3 P' fun b τ' o2 e4 γ'' s'' y S'' P'' b' hb => ?_)
  refine x24 (compare_ok S'' hG hR e4 (ha.later y.later) hb) fun e τ₂ hm p S3 z => ?_
  refine p _ _ fun tk => ⟨e, rfl, ?_⟩
  exact P'' _ _ hm γ'' _ z (S3.toks tk) e rfl
theorem cmpC_some {l : PySem.Expr} {ops : List CmpOp} {rs : List PySem.Expr} {o : Out Bool} (h : (cmpC S l ops rs).run fm σ = some o) : ∃ op r, ops = [op] ∧ rs = [r] ∧ behindInMarks op r = false ∧ cmpT S fm l op r σ = some o := by
  refine x12 (om h) fun op q h1 => ?_
  refine x12 (om h1) fun r q2 h2 => ?_
  refine x02 (bm h2) fun hb h3 => ?_
  exact ⟨op, r, single_some q, single_some q2, notm hb, h3⟩
end
end Mine
end
section
open PySem PySem.W PyProof.Rows PySem.Calls
set_option tactic.hygienic false
namespace Mine
theorem small_le {α : Type} {l : List α} (h : small l = true) : l.length ≤ 900 := Nat.le_of_ble_eq_true h
section
variable {W : Wk} {c : Cx} {σ : St} {γ : G} {s : Shared} {Q : Value → Shared → Prop} {E : Value → Shared → Prop}
theorem made_ok {o : MO} {ob : Obj} {h' : Heap} {tk : Nat} {m : Str → Option Value} {H : List (Addr × Obj)} {a : Addr} {out : Out SV} (hr : newR o σ = some out) (S : W.SR c σ γ s) (Ev : EnvM W.K c γ σ.next σ.doms.length σ.env m)
    (hH : HR W.prog W.w W.K γ σ.next σ.doms.length (σ.heap ++ σ.froz) H) (nd : (H.map (·.1)).Nodup) (ap : ∀ q ∈ c.xt, ∀ r ∈ H ++ γ.Z, @Ne Nat q.1 r.1) (F' : Fr c.h₀ c.L h' m) (N' : News c.h₀ c.L h' ((a, ob) :: (c.xt ++ (H ++ γ.Z))))
    (ho : OR W.prog W.w W.K γ σ.next σ.doms.length a o [(a, ob)]) (fresh : ∀ p ∈ c.xt ++ (H ++ γ.Z), p.1 < a) (P : Post W c out σ γ (VRel W) Q E) : Q (.ref a) { s with heap := h', toks := tk } := by
  have S' := S.alloc1 (tk := tk) Ev hH nd ap F' N' ho fresh
  have := post_ok' hr P ext_new S' (b := .ref a) (by
    have q : VR W.K (γ.at σ.next a) (σ.new o).next (σ.new o).doms.length (.obj σ.next) (.ref ((γ.at σ.next a).ρ σ.next)) := .obj (Nat.lt_succ_self _)
    have e : (γ.at σ.next a).ρ σ.next = a := if_pos rfl
    rw [e] at q; exact q)
  exact this
theorem newTup_ok {l : List SV} {vs : List Value} {out : Out SV} (h : tupR l σ = some out) (S : W.SR c σ γ s) (hv : VRs W.K γ σ.next σ.doms.length l vs) (P : Post W c out σ γ (VRel W) Q E) : wpAny (model W.prog W.w) c.A (newTuple vs) Q E s := by
  refine x02 (bm h) fun q h1 => ?_
  refine x12 (S.fr) fun m F Ev => ?_
  refine x14 (S.nw) fun H hH N nd ap => ?_
  refine kup_newTuple F N (fun D h' F' N' fresh => ?_) (by rw [hv.len]; have := small_le q; unfold sizeLine; exact Nat.le_trans (by assumption) (by decide))
  have S' := S.tuple (tk := s.toks) (k := 0) Ev hH nd ap F' N' fresh
  exact post_ok' h1 P ext_tup S' (.tup (.inl (.head _)) (hv.later later_tup))
theorem newL_some {l : List SV} {out : Out SV} (h : newL l σ = some out) : small l = true ∧ newR (.list l) σ = some out := bm h
theorem newList_ok {l : List SV} {vs : List Value} {out : Out SV} (h : newL l σ = some out) (S : W.SR c σ γ s) (hv : VRs W.K γ σ.next σ.doms.length l vs) (P : Post W c out σ γ (VRel W) Q E) : wpAny (model W.prog W.w) c.A (newList vs) Q E s := by
  refine x02 (newL_some h) fun q h => ?_
  refine x12 (S.fr) fun m F Ev => ?_
  refine x14 (S.nw) fun H hH N nd ap => ?_
  refine newList_K F N (fun D h' F' N' fresh => ?_) (by rw [hv.len]; have := small_le q; unfold sizeLine; exact Nat.le_trans (by assumption) (by decide))
  exact made_ok h S Ev hH nd ap F' N' (.list hv) fresh P
theorem retO_some {v : Option SV} {out : Out SV} (h : retO v σ = some out) : ∃ x, v = some x ∧ okR x σ = some out := om h
end
section
variable {W : Wk} {n : Nat} {S : Sems} {C : Cfg} {c : Cx} {fm : Fm} {σ : St} {γ : G} {s : Shared} {env : Env} {Q : Value → Shared → Prop} {E : Value → Shared → Prop} {out : Out SV}
theorem const_ok {k : Const} {u : Nat} {pos : Pos} (h : (evConst k).run fm σ = some out) (hS : W.SR c σ γ s) (P : Post W c out σ γ (VRel W) Q E) : wpAny (model W.prog W.w) c.A (eval (.Constant k u pos) env) Q E s := by
  refine x12 (oem h) fun v hv h => ?_
  cases k <;> try ((first | exact ns hv | obtain rfl := ss hv); done)
  · obtain rfl := ss hv; exact wpAny_Constant_none (post_ok h P hS .none)
  · obtain rfl := ss hv; exact wpAny_Constant_bool (post_ok h P hS (.bool _))
  · obtain rfl := ss hv; exact wpAny_Constant_int (post_ok h P (hS.toks _) (.int _ _))
  · refine x02 (bm hv) fun q e => ?_
    obtain rfl := ss e; exact wpAny_Constant_str (post_ok h P (hS.toks _) (.str _ (okS_ok q)))
theorem evName_ok (GO : GlobOK W C) (hG : Good W c) (hF : FmOK W c fm γ σ.next σ.doms.length env) {x : Str} {pos : Pos} (h : retO (nameV C fm x σ) σ = some out) (hS : W.SR c σ γ s) (P : Post W c out σ γ (VRel W) Q E) :
    wpAny (model W.prog W.w) c.A (eval (.Name x pos) env) Q E s := by
  refine x12 (retO_some h) fun v e h => ?_
  exact name_ok GO hG hF hS e fun v' r => post_ok h P hS r
theorem evTuple_ok (IH : SemsOK W n S) (hG : Good W c) (hR : Room n c) {es : List PySem.Expr} {k : Nat} {pos : Pos} (h : evTuple S fm es σ = some out) (hF : FmOK W c fm γ σ.next σ.doms.length env) (hS : W.SR c σ γ s) (P : Post W c out σ γ (VRel W) Q E) :
    wpAny (model W.prog W.w) c.A (eval (.Tuple es k pos) env) Q E s := by
  refine x12 (bind_spec h) fun l1 e1 h1 => ?_
  exact Tuple_ (evs_ok IH hG hR e1 hF hS (post_bind h1 P fun a τ o1 e2 γ' s' x S' P' a' ha => newTup_ok e2 S' ha P'))
theorem evList_ok (IH : SemsOK W n S) (hG : Good W c) (hR : Room n c) {es : List PySem.Expr} {pos : Pos} (h : evList S fm es σ = some out) (hF : FmOK W c fm γ σ.next σ.doms.length env) (hS : W.SR c σ γ s) (P : Post W c out σ γ (VRel W) Q E) :
    wpAny (model W.prog W.w) c.A (eval (.List es pos) env) Q E s := by
  refine x12 (bind_spec h) fun l1 e1 h1 => ?_
  exact List_ (evs_ok IH hG hR e1 hF hS (post_bind h1 P fun a τ o1 e2 γ' s' x S' P' a' ha => newList_ok e2 S' ha P'))
theorem handed_VR {K : Frag} {m d : Nat} {v : SV} {v' : Value} (h : VR K γ m d v v') : handedIn v' = true :=
  VR.rec (motive_1 := fun _ v' _ => handedIn v' = true) (motive_2 := fun _ _ _ => True) rfl (fun _ => rfl) (fun _ _ => rfl) (fun _ _ => rfl) (fun _ _ _ => rfl) (fun _ => rfl) (fun _ => rfl) (fun _ _ ih => ih) (fun _ _ _ _ ih => ih)
    (fun b => by cases b <;> decide +kernel) trivial (fun _ _ _ _ => trivial) h
theorem field_some {v : SV} {x : Str} {u : SV} (h : field v x σ = some u) : ∃ j C fs, v = .obj j ∧ σ.get j = some (.inst C fs) ∧ lkS x fs = some u := by
  refine x12 (om h) fun j q h1 => ?_
  refine x12 (om h1) fun p q2 h2 => ?_
  exact ⟨j, p.1, p.2, objOf_some q, asInst_some q2, h2⟩
theorem instAt {K : Frag} {prog : Program} {w : World} {m d : Nat} {a : Addr} {C : Nat} {fs : List (Str × SV)} {l : List (Addr × Obj)} {h₀ h : Heap} {L : Addr} (ho : OR prog w K γ m d a (.inst C fs) l) (N : News h₀ L h l) :
    ∃ dx es k, l = [(a, instObj C dx), (dx, dictOf es k)] ∧ FR K γ m d fs es ∧ (∀ x v, lkS x fs = some v → FldOK K C x) ∧ InstAt h a (instObj C dx) C (some (dictOf es k)) := by
  (refine x33 ho.form fun _ _ _ er3 f g => ?_; subst er3)
  exact ⟨_, _, _, rfl, f, g, ⟨(N _ (.head _)).1, rfl, rfl, (N _ (.tail _ (.head _))).1⟩⟩
theorem attrBase {o : PySem.Expr} {attr : Str} {env : Env} {whole : Sem Value} (h : notBare o = true) : attributeBase o attr env whole = whole := by
  cases o with
  | Call f args kws p => cases args with
    | nil => exact tf h
    | cons => cases f <;> rfl
  | _ => rfl
theorem attr_node {o : PySem.Expr} {attr : Str} {pos : Pos} {A : Around} {s : Shared} {env : Env} {Q : Value → Shared → Prop} {E : Value → Shared → Prop} (hb : notBare o = true)
    (h : wpAny (model W.prog W.w) A (eval o env) (fun o s₁ => wpAny (model W.prog W.w) A (getAttr o attr true) Q E s₁) E s) : wpAny (model W.prog W.w) A (eval (.Attribute o attr pos) env) Q E s :=
  Attribute_any_ h (by rw [arm_eval_Attribute, attrBase hb])
theorem evAttr_ok {o : PySem.Expr} (hb : notBare o = true) (IH : SemsOK W n S) (hG : Good W c) (hR : Room n c) {x : Str} {pos : Pos} (h : evAttr S fm o x σ = some out) (hF : FmOK W c fm γ σ.next σ.doms.length env) (hS : W.SR c σ γ s) (P : Post W c out σ γ (VRel W) Q E) :
    wpAny (model W.prog W.w) c.A (eval (.Attribute o x pos) env) Q E s := by
  refine x12 (bind_spec h) fun l1 e1 h1 => ?_
  refine attr_node hb (IH.ev _ _ _ _ e1 c γ s env hG hF hS hR _ _ (post_bind h1 P fun v τ o1 e2 γ' s' xx S' P' v' hv => ?_))
  refine x12 (retO_some e2) fun u e3 e4 => ?_
  (refine x33 (field_some e3) fun j C fs er3 hg hl => ?_; subst er3)
  obtain ⟨hn, l, ho, N⟩ := S'.thing hg
  refine x12 (S'.fr) fun m F _ => ?_
  (refine x02 hv.view fun er0 _ => ?_; subst er0)
  (refine x34 (instAt ho N) fun dx es k er3 fr fo I => ?_; subst er3)
  refine x12 (fr.has x u hl) fun u' g1 g2 => ?_
  obtain ⟨p1, p2, attr, p3, p4⟩ := fo x u hl
  exact get_own F hG.X I p1 p2 p3 p4 g1 (handed_VR g2) (post_ok e4 P' (S'.toks _) g2)
theorem plainArgs_any {pos : Pos} : ∀ {k : Nat} {args : List PySem.Expr}, plainArgs k args = true → (PySem.backTo pos (starEach args env)).any (·.1) = false ∧ args.length ≤ k
  | k, [], _ => by cases k <;> exact ⟨rfl, Nat.zero_le _⟩
  | 0, e :: r, h => by exact tf h
  | k + 1, e :: r, h => by
    unfold plainArgs at h
    cases q : notStar e with
    | false => rw [q] at h; exact tf h
    | true =>
      rw [q] at h
      refine x02 (plainArgs_any (pos := pos) h) fun h1 h2 => ?_
      have : starEach (e :: r) env = (false, eval e env) :: starEach r env := by cases e <;> first | rfl | exact tf q
      rw [this]
      exact ⟨by show (false || (PySem.backTo pos (starEach r env)).any (·.1)) = false; rw [h1]; rfl, Nat.succ_le_succ h2⟩
theorem callWith_any {Pr : Heap → Prop} {f : Value} {first : List Value} {args : List PySem.Expr} {k : Nat} {pos : Pos} {A : Around} {M : Model} (hp : plainArgs k args = true)
    (hk : ∀ h, Pr h → ∃ k, (k = Keeper.frame ∨ k = Keeper.machine ∨ k = Keeper.boundFrame) ∧ Looks M h (keeperOf f) k)
    (h : wpAny M A (spliced (PySem.backTo pos (starEach args env))) (fun vs s₁ => Pr s₁.heap ∧ wpAny M A (call f (first ++ vs)) Q E s₁) E s) : wpAny M A (callWith pos f first (PySem.backTo pos (starEach args env)) []) Q E s := by
  refine callWith_of (P := Pr) (by rw [(plainArgs_any hp).1]; rfl) hk ?_
  cases args with
  | nil =>
    skip
    show wpAny M A (spliced [] >>= _) _ _ s
    refine wpAny_bind (wpAny_mono h (fun vs s' h' => ?_) fun _ _ x => x)
    exact wpAny_bind (wpAny_pure (wpAny_holding (wpAny_bind (wpAny_pure (wpAny_bind (wpAny_pure (wpAny_pure h')))))))
  | cons e r =>
    have he : starEach (e :: r) env = (false, eval e env) :: starEach r env := by
      cases k with
      | zero => exact tf hp
      | succ k => cases e <;> first | rfl | exact tf hp
    rw [he] at h ⊢
    exact evalArgs_plain h
end
end Mine
end
section
open PySem PySem.W PyProof.Rows PySem.Calls
set_option tactic.hygienic false
namespace Mine
noncomputable def notSlice : PySem.Expr → Bool
  | .Slice _ _ _ _ => false
  | _ => true
section
variable {prog : Program} {w : World} {A : Around} {s : Shared} {Q : Value → Shared → Prop} {E : Value → Shared → Prop}
theorem subTail {value slice : PySem.Expr} {o i : Value} {T id : String} (hT : s.TypeIs o T) (hl : typeLookup (.type T) "__getitem__" = pure (some (.builtin id))) (ns : notSlice slice = true) (h : wpAny (model prog w) A (getItem o i) Q E s) :
    wpAny (model prog w) A (subscriptTail value slice o i) Q E s := by
  skip
  refine wpAny_bind ?_
  rw [getitemInPython_of_ne hT.not_modules]
  refine wpAny_bind (wpAny_specialOf hT hl ?_)
  have hs : subscripted slice false o i = operate [o, i] (getItem o i) := by cases slice <;> first | rfl | exact tf ns
  have fin : wpAny (model prog w) A (subscripted slice false o i) (fun r s₃ => wpAny (model prog w) A (letTemporaryGo value o r >>= fun _ => pure r) Q E s₃) E s := by
    rw [hs]
    exact wpAny_operating (wpAny_mono h (fun r s₃ h₃ => wpAny_bind (wpAny_letTemporaryGo (wpAny_pure h₃))) fun _ _ x => x)
  first
    | exact wpAny_pure (wpAny_bind fin)
    | exact wpAny_bind (wpAny_pure (wpAny_bind fin))
    | exact wpAny_bind fin
end
section
variable {W : Wk} {n : Nat} {S : Sems} {C : Cfg} {c : Cx} {fm : Fm} {σ : St} {γ : G} {s : Shared} {env : Env} {Q : Value → Shared → Prop} {E : Value → Shared → Prop} {out : Out SV}
theorem VRs.at {K : Frag} {m d : Nat} {l : List SV} {vs : List Value} (h : VRs K γ m d l vs) : ∀ {k : Nat} {x : SV}, getAt k l = some x → ∃ v', vs[k]? = some v' ∧ VR K γ m d x v' :=
  fun {k} {x} => VRs.ind K (P := fun l vs => ∀ (k : Nat) (x : SV), getAt k l = some x → ∃ v', vs[k]? = some v' ∧ VR K γ m d x v') (fun k x h => by cases k <;> exact ns h) (fun a _ ih k x h => by
    cases k with
    | zero => obtain rfl := ss h; exact ⟨_, rfl, a⟩
    | succ k => exact ih k x h) h k x
theorem VRs.append {K : Frag} {m d : Nat} {l r : List SV} {vs ws : List Value} (h : VRs K γ m d l vs) (h2 : VRs K γ m d r ws) : VRs K γ m d (l ++ r) (vs ++ ws) :=
  VRs.ind K (P := fun l vs => VRs K γ m d (l ++ r) (vs ++ ws)) h2 (fun a _ ih => .cons a ih) h
theorem atNat_some {k : Nat} {l : List SV} {x : SV} (h : atNat k l = some x) : k ≤ 1000 ∧ getAt k l = some x := ⟨Nat.le_of_ble_eq_true (bm h).1, (bm h).2⟩
theorem SR.dictAt (hS : W.SR c σ γ s) {v : SV} {v' : Value} {l : List (Str × SV)} (h : dictOfObj σ v = some l) (hv : VR W.K γ σ.next σ.doms.length v v') :
    ∃ a kvs, v' = .ref a ∧ s.heap.DictOf (strKind W.prog W.w) a kvs ∧ (a == sysModules) = false ∧ KV W.K γ σ.next σ.doms.length l kvs := by
  (refine x12 (dictOfObj_some h) fun j er1 hg => ?_; subst er1)
  obtain ⟨hn, l0, ho, N⟩ := hS.thing hg
  (refine x02 hv.view fun er0 _ => ?_; subst er0)
  (refine x24 ho.form fun _ _ er2 kv hd hs => ?_; subst er2)
  exact ⟨_, _, rfl, Heap.dictOf_iff.mpr ⟨_, (N _ (.head _)).1, hd⟩, hs, kv⟩
theorem itemOf_some {l : List SV} {k : Int} {x : SV} (h : itemOf l k = some x) : -(2 ^ 63) ≤ k ∧ k < 2 ^ 63 ∧ ∃ j, seqIndex? k l.length = some j ∧ getAt j l = some x := by
  cases k with
  | ofNat j =>
    refine x02 (atNat_some h) fun h1 h2 => ?_
    have hlt : j < l.length := by
      replace h2 := getAt_eq ▸ h2
      exact (List.getElem?_eq_some_iff.mp h2).1
    refine ⟨by simp only [Int.ofNat_eq_natCast]; omega, by simp only [Int.ofNat_eq_natCast]; omega, j, ?_, h2⟩
    unfold seqIndex?
    simp only [Int.ofNat_eq_natCast]
    rw [if_neg (by omega : ¬ ((j : Int) < 0)), if_pos (by simp; omega)]
    rfl
  | negSucc j =>
    refine x02 (bm h) fun q1 h1 => ?_
    refine x02 (bm h1) fun q2 h2 => ?_
    have q1 := Nat.le_of_ble_eq_true q1
    have q2 : j < l.length := by simpa [Nat.blt_eq] using q2
    refine ⟨by omega, by omega, _, ?_, h2⟩
    unfold seqIndex?
    rw [if_pos (by omega : Int.negSucc j < 0), if_pos (by simp; omega)]
    congr 1
    omega
theorem forced_post {α β : Type} {rel : α → G → Nat → Nat → β → Prop} {Q : β → Shared → Prop} {v : SV} {v' : Value} {k : SV → St → R α} {o : Out α} (h : forced v σ k = some o) (hS : W.SR c σ γ s) (hv : VR W.K γ σ.next σ.doms.length v v') (P : Post W c o σ γ rel Q E) :
    ∃ d τ o1, VR W.K γ τ.next τ.doms.length d v' ∧ isVar d = none ∧ W.SR c τ γ s ∧ Ext σ γ γ τ ∧ k d τ = some o1 ∧ Post W c o1 τ γ rel Q E := by
  obtain ⟨d, τ, hm, ⟨p1, p2, _⟩, S1, x⟩ := force_ok hS hv
  refine x12 ((forced_spec h _ _ hm).1 d rfl) fun o1 e1 sub => ?_
  exact ⟨d, τ, o1, p1.later x.later, p2, S1, x, e1, P.back sub x⟩
set_option tactic.hygienic true in
theorem sub_ok {value slice : PySem.Expr} (ns : notSlice slice = true) {o i : SV} {o' i' : Value} (h : subscr o i σ = some out) (hS : W.SR c σ γ s) (hG : Good W c) (ho : VR W.K γ σ.next σ.doms.length o o') (hi : VR W.K γ σ.next σ.doms.length i i') (P : Post W c out σ γ (VRel W) Q E) :
    wpAny (model W.prog W.w) c.A (subscriptTail value slice o' i') Q E s := by
  refine x36 (forced_post h hS ho P) fun o τ o1 ho _ S1 x1 e1 P1 => ?_
  obtain ⟨i, υ, o2, hi, _, S2, x2, e2, P2⟩ := forced_post e1 S1 (hi.later x1.later) P1
  refine x12 (retO_some e2) fun x e3 e4 => ?_
  have ho := ho.later x2.later
  unfold subG2 at e3
  cases hi <;> try (cases e3; done)
  · rename_i k t
    dsimp only at e3
    refine ok' (o := tupOf o) (fun l q => ?_) fun q => ?_
    · replace e3 := q ▸ e3
      have := tupOf_some q; subst this
      refine x33 ho.view fun _ _ _ er3 ht hr => ?_; subst er3
      obtain ⟨b1, b2, j, hj, hx⟩ := itemOf_some e3
      refine x12 (hr.at hx) fun v' hv hr' => ?_
      have I : IsTup s.heap _ _ := ⟨_, S2.tups hG.X ht, rfl, _, rfl⟩
      exact subTail I.typeIs slot_tuple_getitem.lookup ns (getItem_tuple I b1 b2 (by rw [List.size_toArray, hr.len]; exact hj) (by simpa using hv) (post_ok e4 P2 S2 hr'))
    · replace e3 := q ▸ e3
      dsimp only at e3
      refine oc (o := listOfObj υ o) (fun ql => ?_) fun l ql => ?_
      · replace e3 := ql ▸ e3; cases e3
      · replace e3 := ql ▸ e3
        refine x24 (S2.listAt ql ho) fun a vs er2 hl hvs _ => ?_; subst er2
        dsimp only [listItem] at e3
        split at e3
        case h_2 => cases e3
        case h_1 k =>
          refine x02 (atNat_some e3) fun b1 hx => ?_
          refine x12 (hvs.at hx) fun v' hv hr' => ?_
          refine subTail hl.typeIs slot_list_getitem.lookup ns (wpAny_getItem_list hl (by simp) ?_ ?_ (post_ok e4 P2 S2 hr'))
          · simp only [Int.ofNat_eq_natCast]; omega
          · simpa using hv
  · dsimp only at e3
    refine oc (o := dictOfObj υ o) (fun q => ?_) fun kvs q => ?_
    · replace e3 := q ▸ e3; cases e3
    · replace e3 := q ▸ e3
      refine x24 (S2.dictAt q ho) fun a kvs' er2 hd hs kv => ?_; subst er2
      refine x12 (kv.get _ e3) fun v' hv hr' => ?_
      exact subTail hd.typeIs slot_dict_getitem.lookup ns (wpAny_getItem_of (strKind_is W.prog W.w _ _) hd.mapOf hv (post_ok e4 P2 (S2.toks _) hr'))
theorem evSub_ok (IH : SemsOK W n S) (hG : Good W c) (hR : Room n c) {o i : PySem.Expr} {pos : Pos} (ns : notSlice i = true) (h : evSub S fm o i σ = some out) (hF : FmOK W c fm γ σ.next σ.doms.length env) (hS : W.SR c σ γ s) (P : Post W c out σ γ (VRel W) Q E) :
    wpAny (model W.prog W.w) c.A (eval (.Subscript o i pos) env) Q E s := by
  refine x12 (bind_spec h) fun l1 e1 h1 => ?_
  refine Subscript_ (IH.ev _ _ _ _ e1 c γ s env hG hF hS hR _ _ (post_bind h1 P fun v τ o1 e2 γ' s' x S' P' v' hv => ?_))
  refine x12 (bind_spec e2) fun l2 e3 h3 => ?_
  exact IH.ev _ _ _ _ e3 c γ' s' env hG (hF.later x.later) S' hR _ _ (post_bind h3 P' fun iv τ' o2 e4 γ'' s'' y S'' P'' i' hi => sub_ok ns e4 S'' hG (hv.later y.later) hi P'')
theorem binop_ok (hG : Good W c) {op : Operator} {a b : SV} {a' b' : Value} (h : binop op a b σ = some out) (hS : W.SR c σ γ s) (ha : VR W.K γ σ.next σ.doms.length a a') (hb : VR W.K γ σ.next σ.doms.length b b') (P : Post W c out σ γ (VRel W) Q E) :
    wpAny (model W.prog W.w) c.A (binaryOp op a' b') Q E s := by
  refine x36 (forced_post h hS ha P) fun a τ o1 ha _ S1 x1 e1 P1 => ?_
  obtain ⟨b, υ, o2, hb, _, S2, x2, e2, P2⟩ := forced_post e1 S1 (hb.later x1.later) P1
  have ha := ha.later x2.later
  cases op with
  | Add =>
    cases ha with
    | int i t =>
      refine x12 (om e2) fun j q e3 => ?_
      obtain rfl := intOf_some q
      cases hb
      exact add_int (post_ok e3 P2 (S2.toks _) (.int _ _))
    | @str i t ok =>
      refine x12 (om e2) fun j q e3 => ?_
      obtain rfl := strOf_some q
      refine x12 hb.view fun u er1 ok' => ?_; subst er1
      refine x02 (bm e3) fun hsz e4 => ?_
      have hsz := Nat.le_of_ble_eq_true hsz
      exact add_str (fun t' tk => post_ok e4 P2 (S2.toks _) (.str _ (strOk_add ok ok'))) (by show i.cps.size + j.cps.size ≤ sizeLine; exact Nat.le_trans (by assumption) (by decide))
    | @obj j hj =>
      refine x12 (om e2) fun l q1 e3 => ?_
      refine x12 (om e3) fun r q2 e4 => ?_
      refine x24 (S2.listAt q1 (.obj hj)) fun x vs ex hl hvs _ => ?_
      refine x24 (S2.listAt q2 hb) fun y ws er2 hm hws _ => ?_; subst er2
      cases ex
      refine x02 (newL_some e4) fun q e => ?_
      refine x12 (S2.fr) fun m F Ev => ?_
      refine x14 (S2.nw) fun H hH N nd ap => ?_
      have q := small_le q
      replace q := List.length_append ▸ q
      refine add_lists F N hl hm (fun h' F' N' => ?_) (by rw [hvs.len, hws.len]; exact Nat.le_trans (by assumption) (by decide))
      exact made_ok e S2 Ev hH nd ap F' N' (.list (hvs.append hws)) (fun p hp => Heap.lt_size (N p hp).1) P2
    | _ => exact ns e2
  | Sub =>
    refine x12 (om e2) fun i q1 e3 => ?_
    refine x12 (om e3) fun j q2 e4 => ?_
    obtain rfl := intOf_some q1
    obtain rfl := intOf_some q2
    cases ha
    cases hb
    exact sub_int (post_ok e4 P2 (S2.toks _) (.int _ _))
  | _ => exact ns e2
end
end Mine
end
section
open PySem PySem.W PyProof.Rows PySem.Calls
set_option tactic.hygienic false
namespace Mine
section
variable {W : Wk} {n : Nat} {S : Sems} {C : Cfg} {c : Cx} {fm : Fm} {σ : St} {γ : G} {s : Shared} {env : Env} {Q : Value → Shared → Prop} {E : Value → Shared → Prop} {out : Out SV}
theorem boolR_some {m : R Bool} (h : boolR m = some out) : ∃ l, m = some l ∧ ∀ r τ, (r, τ) ∈ l → (∀ a, r = .ok a → (Res.ok (SV.bool a), τ) ∈ out) ∧ (∀ c v, r = .ex c v → (.ex c v, τ) ∈ out) := by
  refine x12 (bind_spec h) fun l e sp => ?_
  refine ⟨l, e, fun r τ hm => ⟨fun a ha => ?_, (sp r τ hm).2⟩⟩
  refine x12 ((sp r τ hm).1 a ha) fun o1 e1 sub => ?_
  obtain rfl := ss e1
  exact sub _ (.head _)
theorem evCmp_ok (IH : SemsOK W n S) (hG : Good W c) (hR : Room n c) {l : PySem.Expr} {ops : List CmpOp} {rs : List PySem.Expr} {pos : Pos} (h : (evCmp S l ops rs).run fm σ = some out) (hF : FmOK W c fm γ σ.next σ.doms.length env) (hS : W.SR c σ γ s) (P : Post W c out σ γ (VRel W) Q E) :
    wpAny (model W.prog W.w) c.A (eval (.Compare l ops rs pos) env) Q E s := by
  refine x12 (boolR_some h) fun o e sp => ?_
  obtain ⟨op, r, rfl, rfl, hm, e⟩ := cmpC_some e
  have P' : Post W c o σ γ BRel (fun b s => Q (.bool b) s) E := by
    intro r τ hr γ' s' x S'
    refine x02 (sp r τ hr) fun h1 h2 => ?_
    cases r with
    | ok a => exact fun b hb => P _ _ (h1 a rfl) γ' s' x S' _ (by rw [hb]; exact .bool _)
    | ex cc v => exact P _ _ (h2 cc v rfl) γ' s' x S'
  refine wpAny_Compare1 (wpAny_mono (cmpT_ok (pos := pos) IH hG hR e hF hS P') (fun a s₁ h₁ => wpAny_mono h₁ (fun b s₂ h₂ => wpAny_mono h₂ (fun v s₃ h₃ => ?_) fun _ _ x => x) fun _ _ x => x) fun _ _ x => x) hm
  refine x12 h₃ fun e er1 q => ?_; subst er1
  exact q
theorem truthy_post (hS : W.SR c σ γ s) {v : SV} {v' : Value} {k : Bool → St → R SV} (h : bindR (truth v σ) k = some out) (hv : VR W.K γ σ.next σ.doms.length v v') (P : Post W c out σ γ (VRel W) Q E) :
    ∃ b τ o1, v' = .bool b ∧ W.SR c τ γ s ∧ Ext σ γ γ τ ∧ k b τ = some o1 ∧ Post W c o1 τ γ (VRel W) Q E := by
  refine x35 (has_post_bind h (fun l e => truth_ok hS e hv) P) fun b τ o1 h1 h2 h3 h4 h5 => ?_
  exact ⟨b, τ, o1, h1, h2, h3, h4, h5⟩
theorem evBool_ok (IH : SemsOK W n S) (hG : Good W c) (hR : Room n c) {op : BoolOp} {es : List PySem.Expr} {pos : Pos} (h : evBool S fm op es pos σ = some out) (hF : FmOK W c fm γ σ.next σ.doms.length env) (hS : W.SR c σ γ s) (P : Post W c out σ γ (VRel W) Q E) :
    wpAny (model W.prog W.w) c.A (eval (.BoolOp op es pos) env) Q E s := by
  cases es with
  | nil => exact ns h
  | cons x rest =>
    cases rest with
    | nil => exact BoolOp_one (IH.ev _ _ _ _ h c γ s env hG hF hS hR _ _ P)
    | cons y rest =>
      refine x12 (bind_spec (show bindR (S.ev fm x σ) _ = some out from h)) fun l1 e1 h1 => ?_
      cases op with
      | And =>
        refine BoolOp_and (IH.ev _ _ _ _ e1 c γ s env hG hF hS hR _ _ (post_bind h1 P fun v τ o1 e2 γ' s' x S' P' v' hv => ?_))
        obtain ⟨b, υ, o2, rfl, S2, x2, e3, P2⟩ := truthy_post S' e2 hv P'
        refine wpAny_truthy_bool ?_
        cases b with
        | true => exact IH.ev _ _ _ _ e3 c γ' s' env hG ((hF.later x.later).later x2.later) S2 hR _ _ P2
        | false => exact post_ok e3 P2 S2 (.bool _)
      | Or =>
        refine BoolOp_or (IH.ev _ _ _ _ e1 c γ s env hG hF hS hR _ _ (post_bind h1 P fun v τ o1 e2 γ' s' x S' P' v' hv => ?_))
        obtain ⟨b, υ, o2, rfl, S2, x2, e3, P2⟩ := truthy_post S' e2 hv P'
        refine wpAny_truthy_bool ?_
        cases b with
        | false => exact IH.ev _ _ _ _ e3 c γ' s' env hG ((hF.later x.later).later x2.later) S2 hR _ _ P2
        | true => exact post_ok e3 P2 S2 (.bool _)
theorem evIf_ok (IH : SemsOK W n S) (hG : Good W c) (hR : Room n c) {t a b : PySem.Expr} {pos : Pos} (h : evIf S fm t a b σ = some out) (hF : FmOK W c fm γ σ.next σ.doms.length env) (hS : W.SR c σ γ s) (P : Post W c out σ γ (VRel W) Q E) :
    wpAny (model W.prog W.w) c.A (eval (.IfExp t a b pos) env) Q E s := by
  refine x12 (bind_spec h) fun l1 e1 h1 => ?_
  refine IfExp_ (IH.ts _ _ _ _ e1 c γ s env hG hF hS hR _ _ (post_bind h1 P fun v τ o1 e2 γ' s' x S' P' v' hv => ?_))
  subst hv
  cases v' with
  | true => exact IH.ev _ _ _ _ e2 c γ' s' env hG (hF.later x.later) S' hR _ _ P'
  | false => exact IH.ev _ _ _ _ e2 c γ' s' env hG (hF.later x.later) S' hR _ _ P'
theorem evUn_ok (IH : SemsOK W n S) (hG : Good W c) (hR : Room n c) {op : UnaryOp} {x : PySem.Expr} {pos : Pos} (h : evUn S fm op x σ = some out) (hF : FmOK W c fm γ σ.next σ.doms.length env) (hS : W.SR c σ γ s) (P : Post W c out σ γ (VRel W) Q E) :
    wpAny (model W.prog W.w) c.A (eval (.UnaryOp op x pos) env) Q E s := by
  cases op <;> try (exact ns h; done)
  · refine x12 (bind_spec (show bindR (S.ev fm x σ) _ = some out from h)) fun l1 e1 h1 => ?_
    refine UnaryOp_ (IH.ev _ _ _ _ e1 c γ s env hG hF hS hR _ _ (post_bind h1 P fun v τ o1 e2 γ' s' x S' P' v' hv => ?_))
    refine x12 (boolR_some e2) fun o e3 sp => ?_
    obtain ⟨b, υ, hm, rfl, S2, x2⟩ := (show Has W c τ γ' s' o fun e => v' = .bool (!e) from (notR_has e3 fun l e => truth_ok S' e hv).imp fun e he => by simpa using he)
    refine not_of (wpAny_truthy_bool ?_)
    have := P' _ _ ((sp _ _ hm).1 b rfl) γ' s' x2 S2
    refine this _ ?_
    rw [Bool.not_not]; exact .bool _
  · refine x12 (bind_spec (show bindR (S.ev fm x σ) _ = some out from h)) fun l1 e1 h1 => ?_
    refine UnaryOp_ (IH.ev _ _ _ _ e1 c γ s env hG hF hS hR _ _ (post_bind h1 P fun v τ o1 e2 γ' s' x S' P' v' hv => ?_))
    refine x12 (om e2) fun i q e4 => ?_
    obtain rfl := intOf_some q
    cases hv
    exact neg_int (post_ok e4 P' (S'.toks _) (.int _ _))
theorem tsBool_ok (IH : SemsOK W n S) (hG : Good W c) (hR : Room n c) {op : BoolOp} {es : List PySem.Expr} {pos : Pos} {whole : Sem Value} {out : Out Bool} {Q : Bool → Shared → Prop} (h : tsBool S fm op es pos σ = some out) (hF : FmOK W c fm γ σ.next σ.doms.length env) (hS : W.SR c σ γ s) (P : Post W c out σ γ BRel Q E)
    (hw : ∀ e p, isTrue (.BoolOp op e p) env whole = isTrue (.BoolOp op e p) env (eval (.BoolOp op e p) env)) :
    wpAny (model W.prog W.w) c.A (isTrue (.BoolOp op es pos) env whole) Q E s := by
  cases es with
  | nil =>
    cases op with
    | And => exact isTrue_and_nil (post_ok h P hS rfl)
    | Or => exact isTrue_or_nil (post_ok h P hS rfl)
  | cons x rest =>
    refine x12 (bind_spec (show bindR (S.ts fm x σ) _ = some out from h)) fun l1 e1 h1 => ?_
    cases op with
    | And =>
      refine isTrue_and (IH.ts _ _ _ _ e1 c γ s env hG hF hS hR _ _ (post_bind h1 P fun v τ o1 e2 γ' s' x S' P' v' hv => ?_))
      subst hv
      cases v' with
      | true => rw [if_pos rfl, hw]; exact IH.ts _ _ _ _ e2 c γ' s' env hG (hF.later x.later) S' hR _ _ P'
      | false => exact post_ok e2 P' S' rfl
    | Or =>
      refine isTrue_or (IH.ts _ _ _ _ e1 c γ s env hG hF hS hR _ _ (post_bind h1 P fun v τ o1 e2 γ' s' x S' P' v' hv => ?_))
      subst hv
      cases v' with
      | true => exact post_ok e2 P' S' rfl
      | false => rw [if_neg Bool.false_ne_true, hw]; exact IH.ts _ _ _ _ e2 c γ' s' env hG (hF.later x.later) S' hR _ _ P'
theorem tsEv_ok (IH : SemsOK W n S) (hG : Good W c) (hR : Room n c) {e : PySem.Expr} {out : Out Bool} {Q : Bool → Shared → Prop} (h : tsEv S fm e σ = some out) (hF : FmOK W c fm γ σ.next σ.doms.length env) (hS : W.SR c σ γ s) (P : Post W c out σ γ BRel Q E) :
    wpAny (model W.prog W.w) c.A (eval e env) (fun v s₁ => wpAny (model W.prog W.w) c.A (truthy v) Q E s₁) E s := by
  refine x12 (bind_spec h) fun l1 e1 h1 => ?_
  refine IH.ev _ _ _ _ e1 c γ s env hG hF hS hR _ _ (post_bind h1 P fun v τ o1 e2 γ' s' x S' P' v' hv => ?_)
  obtain ⟨b, υ, hm, rfl, S2, x2⟩ := truth_ok S' e2 hv
  exact wpAny_truthy_bool (P' _ _ hm γ' s' x2 S2 _ rfl)
theorem tsStep_ok (IH : SemsOK W n S) (hG : Good W c) (hR : Room n c) {e : PySem.Expr} {out : Out Bool} {Q : Bool → Shared → Prop} (h : tsStep S fm e σ = some out) (hF : FmOK W c fm γ σ.next σ.doms.length env) (hS : W.SR c σ γ s) (P : Post W c out σ γ BRel Q E) :
    wpAny (model W.prog W.w) c.A (isTrue e env (eval e env)) Q E s := by
  cases e with
  | UnaryOp op x pos =>
    cases op with
    | Not =>
      refine isTrue_not ?_
      refine x12 (bind_spec (show bindR (S.ts fm x σ) _ = some out from h)) fun l1 e1 h1 => ?_
      refine IH.ts _ _ _ _ e1 c γ s env hG hF hS hR _ _ (post_bind h1 P fun v τ o1 e2 γ' s' x S' P' v' hv => ?_)
      subst hv
      exact post_ok e2 P' S' rfl
    | _ => exact isTrue_plain (tsEv_ok IH hG hR h hF hS P)
  | BoolOp => exact tsBool_ok IH hG hR h hF hS P fun _ _ => rfl
  | IfExp t a b pos =>
    refine isTrue_IfExp ?_
    refine x12 (bind_spec (show bindR (S.ts fm t σ) _ = some out from h)) fun l1 e1 h1 => ?_
    refine IH.ts _ _ _ _ e1 c γ s env hG hF hS hR _ _ (post_bind h1 P fun v τ o1 e2 γ' s' x S' P' v' hv => ?_)
    subst hv
    cases v' with
    | true => exact IH.ts _ _ _ _ e2 c γ' s' env hG (hF.later x.later) S' hR _ _ P'
    | false => exact IH.ts _ _ _ _ e2 c γ' s' env hG (hF.later x.later) S' hR _ _ P'
  | Compare l ops rs pos =>
    refine x24 (cmpC_some h) fun op r er2 er3 hm e => ?_; subst er2; subst er3
    refine wpAny_isTrue_Compare1 (wpAny_mono (cmpT_ok (pos := pos) IH hG hR e hF hS P) (fun a s₁ h₁ => wpAny_mono h₁ (fun b s₂ h₂ => wpAny_mono h₂ (fun v s₃ h₃ => ?_) fun _ _ x => x) fun _ _ x => x) fun _ _ x => x) hm
    refine x12 h₃ fun e er1 q => ?_; subst er1
    exact wpAny_truthy_bool q
  | _ => exact isTrue_plain (tsEv_ok IH hG hR h hF hS P) rfl
end
end Mine
end
section
open PySem PySem.W PyProof.Rows PySem.Calls
set_option tactic.hygienic false
namespace Mine
section
variable {prog : Program} {w : World} {K : Frag} {c : Cx} {σ τ : St} {γ γ' : G} {s : Shared}
theorem SR.turn (S : SR prog w K c σ γ s) {j : Nat} {o : MO} (hj : lkN j σ.heap = some o) :
    ∃ l, OR prog w K γ σ.next σ.doms.length (γ.ρ j) o l ∧ News c.h₀ c.L s.heap l ∧ ∀ (l1 l2 : List (Addr × Obj)) (p : Addr × Obj) (ob' : Obj) (h' : Heap) (tk : Nat) (o' : MO), l = l1 ++ p :: l2 → NT p.2 → Heap.SameBut p.1 s.heap h' → h'.get? p.1 = some ob' →
      OR prog w K γ σ.next σ.doms.length (γ.ρ j) o' (l1 ++ (p.1, ob') :: l2) → SR prog w K c { σ with heap := ptN j o' σ.heap } γ { s with heap := h', toks := tk } := by
  refine x12 (S.fr) fun m F Ev => ?_
  refine x14 (S.nw) fun H hH N nd ap => ?_
  (refine x23 hH.append fun H₁ H₂ er2 hh hf => ?_; subst er2)
  obtain ⟨hn, pre, l, post, rfl, ho, upd⟩ := hh.split hj
  refine ⟨l, ho, fun p hp => N p (by simp only [List.mem_append]; exact .inr (.inl (.inl (.inr (.inl hp))))), ?_⟩
  intro l1 l2 p ob' h' tk o' el hnt hs hg ho'
  subst el
  have e : pre ++ ((l1 ++ p :: l2) ++ post) ++ H₂ = (pre ++ l1) ++ ([p] ++ (l2 ++ post ++ H₂)) := by simp only [List.append_assoc, List.cons_append, List.nil_append]
  refine x02 (S.apart e N nd ap (List.mem_singleton.mpr rfl) hnt) fun d1 d2 => ?_
  have z := N p (by simp)
  refine S.put (tk := tk) Ev hf (upd o' _ ho') nd ap (by simp) (F.change hs z.2.1 z.2.2) ?_
  have N2 : News c.h₀ c.L s.heap ((c.xt ++ (pre ++ l1)) ++ (p.1, p.2) :: (l2 ++ post ++ H₂ ++ γ.Z)) := fun q hq => N q (by
    simp only [List.mem_append, List.mem_cons] at hq ⊢
    rcases hq with (hq | hq | hq) | hq | ((hq | hq) | hq) | hq
    · exact .inl hq
    · exact .inr (.inl (.inl (.inl hq)))
    · exact .inr (.inl (.inl (.inr (.inl (.inl hq)))))
    · exact .inr (.inl (.inl (.inr (.inl (.inr (.inl hq))))))
    · exact .inr (.inl (.inl (.inr (.inl (.inr (.inr hq))))))
    · exact .inr (.inl (.inl (.inr (.inr hq))))
    · exact .inr (.inl (.inr hq))
    · exact .inr (.inr hq))
  have N3 := news_set N2 (by exact d1) (by exact d2) hs hg
  intro q hq
  refine N3 q ?_
  simp only [List.mem_append, List.mem_cons] at hq ⊢
  rcases hq with hq | ((hq | (hq | hq | hq) | hq) | hq) | hq
  · exact .inl (.inl hq)
  · exact .inl (.inr (.inl hq))
  · exact .inl (.inr (.inr hq))
  · exact .inr (.inl hq)
  · exact .inr (.inr (.inl (.inl (.inl hq))))
  · exact .inr (.inr (.inl (.inl (.inr hq))))
  · exact .inr (.inr (.inl (.inr hq)))
  · exact .inr (.inr (.inr hq))
theorem put_some {j : Nat} {o : MO} (h : σ.put j o = some τ) : ∃ o₀, lkN j σ.heap = some o₀ ∧ τ = { σ with heap := ptN j o σ.heap } := by
  refine x12 (om h) fun o₀ e h1 => ?_
  obtain rfl := ss h1
  exact ⟨o₀, e, rfl⟩
theorem get_of {j : Nat} {o : MO} (h : lkN j σ.heap = some o) : σ.get j = some o := by unfold St.get; rw [h]
theorem ext_put {hp : List (Nat × MO)} : Ext σ γ γ { σ with heap := hp } := ⟨Nat.le_refl _, Nat.le_refl _, fun _ _ => rfl, fun _ _ => rfl, fun _ h => h, rfl, rfl⟩
theorem nt_list {xs : Array Value} {k : Nat} : NT (listOf xs k) := nt_of fun vs k => .inr (by simp)
end
section
variable {W : Wk} {n : Nat} {S : Sems} {C : Cfg} {c : Cx} {fm : Fm} {σ τ : St} {γ : G} {s : Shared} {env : Env} {Q : Value → Shared → Prop} {E : Value → Shared → Prop} {out : Out SV}
theorem putL_some {j : Nat} {l : List SV} (h : putL j l σ = some out) : small l = true ∧ ∃ o₀, lkN j σ.heap = some o₀ ∧ okR .none { σ with heap := ptN j (.list l) σ.heap } = some out := by
  refine x02 (bm h) fun q h1 => ?_
  refine x12 (om h1) fun τ e h2 => ?_
  (refine x12 (put_some e) fun o₀ e1 er2 => ?_; subst er2)
  exact ⟨q, o₀, e1, h2⟩
theorem grow_ok (hS : W.SR c σ γ s) {j : Nat} {l l2 : List SV} {a' : Value} (hg : σ.get j = some (.list l)) (h : putL j (l ++ l2) σ = some out) (P : Post W c out σ γ (VRel W) Q E) :
    ∃ vs k, VRs W.K γ σ.next σ.doms.length l vs ∧ s.heap.get? (γ.ρ j) = some (listOf vs.toArray k) ∧ vs.length + l2.length ≤ 900 ∧ ∀ ws k' h' tk, VRs W.K γ σ.next σ.doms.length l2 ws → Heap.SameBut (γ.ρ j) s.heap h' → h'.get? (γ.ρ j) = some (listOf (vs ++ ws).toArray k') →
      Q .none { s with heap := h', toks := tk } := by
  obtain ⟨sm, o₀, hj, e⟩ := putL_some h
  have := get_of hj
  rw [hg] at this
  obtain rfl := ss this
  refine x13 (hS.turn hj) fun l0 ho N upd => ?_
  (refine x22 ho.form fun vs k er2 hr => ?_; subst er2)
  have := small_le sm
  rw [List.length_append] at this
  refine ⟨vs, k, hr, (N _ (.head _)).1, by rw [hr.len]; assumption, fun ws k' h' tk hw hs hg' => ?_⟩
  have S' := upd [] [] _ _ h' tk (.list (l ++ l2)) rfl nt_list hs hg' (.list (hr.append hw))
  exact post_ok' e P ext_put S' .none
theorem runApp_some {o : SV} {args : List SV} (h : runApp o args σ = some out) : ∃ j l, σ.get j = some (.list l) ∧ o = .obj j ∧ ∃ x, args = [x] ∧ putL j (l ++ [x]) σ = some out := by
  refine x12 (om h) fun j q h1 => ?_
  refine x12 (om h1) fun x q2 h2 => ?_
  refine x12 (om h2) fun l q3 h3 => ?_
  exact ⟨j, l, asList_some q3, objOf_some q, x, single_some q2, h3⟩
theorem runExt_some {o : SV} {args : List SV} (h : runExt o args σ = some out) : ∃ j l, σ.get j = some (.list l) ∧ o = .obj j ∧ ∃ x r, args = [x] ∧ listOfObj σ x = some r ∧ putL j (l ++ r) σ = some out := by
  refine x12 (om h) fun j q h1 => ?_
  refine x12 (om h1) fun x q2 h2 => ?_
  refine x12 (om h2) fun l q3 h3 => ?_
  refine x12 (om h3) fun r q4 h4 => ?_
  exact ⟨j, l, asList_some q3, objOf_some q, x, r, single_some q2, q4, h4⟩
theorem app_ok (hS : W.SR c σ γ s) {o : SV} {o' : Value} {args : List SV} {args' : List Value} (h : runApp o args σ = some out) (ho : VR W.K γ σ.next σ.doms.length o o') (ha : VRs W.K γ σ.next σ.doms.length args args') (P : Post W c out σ γ (VRel W) Q E) :
    wpAny (model W.prog W.w) c.A (call (.builtin "list.append") (o' :: args')) Q E s := by
  obtain ⟨j, l, hg, rfl, x, rfl, h1⟩ := runApp_some h
  (refine x02 ho.view fun er0 hj => ?_; subst er0)
  (refine x23 ha.view fun _ _ er2 hx hr => ?_; subst er2)
  cases hr
  refine x24 (grow_ok (a' := .none) hS hg h1 P) fun vs k hr hh hsz q => ?_
  skip
  exact append_at (hsz := by rw [List.size_toArray]; skip; exact Nat.le_trans (Nat.le_of_succ_le (by assumption)) (by decide)) hh fun h' hs ho' => q [_] _ h' s.toks (.cons hx .nil) hs (by simpa using ho')
theorem ext_ok (hS : W.SR c σ γ s) {o : SV} {o' : Value} {args : List SV} {args' : List Value} (h : runExt o args σ = some out) (ho : VR W.K γ σ.next σ.doms.length o o') (ha : VRs W.K γ σ.next σ.doms.length args args') (P : Post W c out σ γ (VRel W) Q E) :
    wpAny (model W.prog W.w) c.A (call (.builtin "list.extend") (o' :: args')) Q E s := by
  obtain ⟨j, l, hg, rfl, x, r, rfl, hr, h1⟩ := runExt_some h
  (refine x02 ho.view fun er0 hj => ?_; subst er0)
  (refine x23 ha.view fun _ _ er2 hx hr' => ?_; subst er2)
  cases hr'
  obtain ⟨b, ws, rfl, hm, hws, kb, hb⟩ := hS.listAt hr hx
  refine x24 (grow_ok (a' := .none) hS hg h1 P) fun vs k hvs hh hsz q => ?_
  have hlen := hws.len
  refine call_meets PySem.F.slot_list_extend ⟨_, hh, rfl⟩ PySem.F.entry_list_extend (PySem.F.args_list_extend_2 _ _) (PySem.AutoSeq1.list_extend_list_list_0 (γ.ρ j) vs.toArray k b ws.toArray kb ?_ ?_ ?_) ⟨hh, hb, ?_⟩
  · have : (900 : Nat) ≤ sizeLine := by decide
    simp only [Builtin.List.listTooLong, List.size_toArray, Bool.and_eq_true, decide_eq_true_eq, not_and]
    intro _
    omega
  · rw [List.size_toArray]; skip; exact Nat.le_trans (Nat.le_add_right _ _) (Nat.le_trans (by assumption) (by decide))
  · simp only [List.size_toArray]; unfold sizeLine; omega
  · have q1 := PySem.IsL.update hh fun x => x ++ ws.toArray
    have e : vs.toArray ++ ws.toArray = (vs ++ ws).toArray := by simp
    simp only [e] at q1
    exact q ws _ _ s.toks hws (Heap.SameBut.update ..) q1
end
end Mine
end
section
open PySem PySem.W PyProof.Rows PySem.Calls
set_option tactic.hygienic false
namespace Mine
noncomputable def Kept (M : Model) (f : Value) (h : Heap) : Prop := ∃ k, (k = Keeper.frame ∨ k = Keeper.machine ∨ k = Keeper.boundFrame) ∧ Looks M h (keeperOf f) k
section
variable {W : Wk} {n : Nat} {S : Sems} {C : Cfg} {c : Cx} {fm : Fm} {σ τ : St} {γ : G} {s : Shared} {env : Env} {Q : Value → Shared → Prop} {E : Value → Shared → Prop} {out : Out SV}
theorem kept_builtin {M : Model} {h : Heap} {i : String} : Kept M (.builtin i) h := ⟨.machine, .inr (.inl rfl), .now⟩
theorem kept_type {M : Model} {h : Heap} {i : String} : Kept M (.type i) h := ⟨.machine, .inr (.inl rfl), .now⟩
theorem kept_fn {M : Model} {h : Heap} (b : Bf) : Kept M (bfV b) h := by cases b <;> first | exact kept_builtin | exact kept_type
theorem kept_top {M : Model} {h : Heap} {K : Frag} {a : Addr} (hk : keepIn K (.ref a) = true) (X : K.In h) : Kept M (.ref a) h := keeps_K hk h X
theorem SR.K (hS : W.SR c σ γ s) (hG : Good W c) : W.K.In s.heap := by
  refine x12 (hS.fr) fun m F _ => ?_
  exact fun a o e => F.keep _ _ (hG.X a o e)
theorem kept_lam {b : PySem.Expr} {ns : List (Str × NameKind)} {cl : List (Str × Nat)} {j : Nat} {M : Model} (hS : W.SR c σ γ s) (h : σ.get j = some (.lam b ns cl)) : Kept M (.ref (γ.ρ j)) s.heap := by
  obtain ⟨hn, l, ho, N⟩ := hS.thing h
  cases ho with
  | lam _ _ _ _ => exact keeps_F _ ⟨_, _, _, _, (N _ (.head _)).1⟩
theorem kept_ok (IH : SemsOK W n S) (hS : W.SR c σ γ s) (hG : Good W c) {f : SV} {f' : Value} {args : List SV} {M : Model} (h : S.cl f args σ = some out) (hf : VR W.K γ σ.next σ.doms.length f f') : Kept M f' s.heap := by
  rcases IH.kp _ _ _ _ h with ⟨a, rfl, q⟩ | ⟨j, b, ns, cl, rfl, q⟩ | ⟨b, rfl⟩
  · cases hf; exact kept_top q (hS.K hG)
  · cases hf; exact kept_lam hS q
  · cases hf; exact kept_fn b
theorem evCallF_ok (IH : SemsOK W n S) (hG : Good W c) (hR : Room n c) {x : Str} {xp pos : Pos} {args : List PySem.Expr} (hp : plainArgs 28 args = true) (h : evCallF S fm (.Name x xp) args σ = some out) (hF : FmOK W c fm γ σ.next σ.doms.length env) (hS : W.SR c σ γ s) (P : Post W c out σ γ (VRel W) Q E) :
    wpAny (model W.prog W.w) c.A (eval (.Call (.Name x xp) args [] pos) env) Q E s := by
  refine x12 (bind_spec h) fun l1 e1 h1 => ?_
  refine Call_ (IH.ev _ _ _ _ e1 c γ s env hG hF hS hR _ _ (post_bind h1 P fun f τ o1 e2 γ' s' x S' P' f' hf => ?_))
  refine x12 (bind_spec e2) fun l2 e3 h3 => ?_
  refine callWith_any (Pr := Kept (model W.prog W.w) f') hp (fun _ h => h) ?_
  refine evs_ok IH hG hR e3 (hF.later x.later) S' (post_bind h3 P' fun vs τ' o2 e4 γ'' s'' y S'' P'' vs' hvs => ?_)
  have hf2 := hf.later y.later
  exact ⟨kept_ok IH S'' hG e4 hf2, IH.cl _ _ _ _ e4 c γ'' s'' f' vs' hG S'' hR hf2 hvs _ _ P''⟩
theorem meth_node {o : PySem.Expr} {name : Str} {apos pos : Pos} {args : List PySem.Expr} {A : Around} (hb : notBare o = true) (hl : Nat.beq apos.endLine pos.line = true) (hp : plainArgs 28 args = true)
    (h : wpAny (model W.prog W.w) A (eval o env) (fun ov s₁ => ∀ pl, wpAny (model W.prog W.w) A (getMethod ov name pl) (fun fx s₂ => wpAny (model W.prog W.w) A (callWith pos fx.1 fx.2 (PySem.backTo pos (starEach args env)) []) Q E s₂) E s₁) E s) :
    wpAny (model W.prog W.w) A (eval (.Call (.Attribute o name apos) args [] pos) env) Q E s := by
  rw [arm_eval_Call, attrBase hb]
  refine wpAny_bind (wpAny_mono h (fun ov s₁ h₁ => wpAny_bind (wpAny_standAt ?_)) fun _ _ x => x)
  have few : methodCallForm (args.length + ([] : List Keyword).length) (PySem.backTo pos (starEach args env)) (PySem.backToKw pos (keywordEach [] env)) = true := by
    refine x02 (plainArgs_any (env := env) (pos := pos) hp) fun q1 q2 => ?_
    unfold methodCallForm
    have : (PySem.backTo pos (starEach args env)).all (!·.1) = true := by
      rw [List.all_eq_true]
      intro x hx
      have := List.any_eq_false.mp q1 x hx
      simpa using this
    rw [this]
    simp [keywordEach, PySem.backToKw]
    exact Nat.lt_of_le_of_lt (by assumption) (by decide)
  unfold methodCall
  rw [few]
  refine wpAny_bind (wpAny_holding ?_)
  unfold calleeOf
  rw [if_pos rfl]
  refine wpAny_mono (h₁ _) (fun fx s₂ h₂ => ?_) fun _ _ x => x
  unfold methodCallPos
  have e : (!true || apos.endLine == pos.line) = true := by
    have := Nat.eq_of_beq_eq_true hl
    simp [this]
  rw [if_pos e]
  exact wpAny_bind (wpAny_pure h₂)
end
end Mine
end
section
open PySem PySem.W PyProof.Rows PySem.Calls
set_option tactic.hygienic false
namespace Mine
noncomputable def MethOK (W : Wk) (C : Cfg) : Prop := ∀ c r name f, lkN c C.cls = some r → lkS name r.meths = some f → plainGet W.K c name = true ∧ findIn W.K (.ref c) name = some (some (.ref f)) ∧ isFn W.K (.ref f) = true
noncomputable def mkV : MK → Value
  | .fn f => .ref f
  | .app => .builtin "list.append"
  | .ext => .builtin "list.extend"
  | .tget => .builtin "dict.get"
  | .vals => .builtin "dict.values"
  | .rpart => .builtin "str.rpartition"
section
variable {W : Wk} {n : Nat} {S : Sems} {C : Cfg} {c : Cx} {fm : Fm} {σ τ : St} {γ : G} {s : Shared} {env : Env} {Q : Value → Shared → Prop} {E : Value → Shared → Prop} {out : Out SV}
theorem oneKd_some {name want : Str} {k k' : MK} (h : oneKd name want k = some k') : name = want ∧ k' = k := by
  refine x02 (bm h) fun q e => ?_
  obtain rfl := ss e
  exact ⟨sB_iff.mp q, rfl⟩
theorem listKd_some {name : Str} {k : MK} (h : listKd name = some k) : (name = "append" ∧ k = .app) ∨ (name = "extend" ∧ k = .ext) := by
  skip
  refine mc h (fun q h => ?_) fun q h => ?_
  · obtain rfl := ss h; exact .inl ⟨sB_iff.mp q, rfl⟩
  · refine x02 (bm h) fun q2 e => ?_
    obtain rfl := ss e
    exact .inr ⟨sB_iff.mp q2, rfl⟩
theorem instKd_some {name : Str} {d : Nat} {fs : List (Str × SV)} {k : MK} (h : instKd C name d fs = some k) : ∃ r f, lkN d C.cls = some r ∧ lkS name fs = none ∧ lkS name r.meths = some f ∧ k = .fn f := by
  refine x12 (om h) fun r h1 h2 => ?_
  refine x02 (bm h2) fun q h3 => ?_
  refine x12 (om h3) fun f h4 h5 => ?_
  obtain rfl := ss h5
  exact ⟨r, f, h1, noneB_eq q, h4, rfl⟩
set_option tactic.hygienic true in
theorem methKd_ok (MO : MethOK W C) (hG : Good W c) (hS : W.SR c σ γ s) {v : SV} {v' : Value} {name : Str} {k : MK} (h : methKd C v name σ = some k) (hv : VR W.K γ σ.next σ.doms.length v v')
    (htd : ∀ j kvs l, σ.get j = some (.tdict kvs) → OR W.prog W.w W.K γ σ.next σ.doms.length (γ.ρ j) (.tdict kvs) l → News c.h₀ c.L s.heap l → ∀ pl (Q : Value × List Value → Shared → Prop), Q (.builtin "dict.get", [.ref (γ.ρ j)]) s → wpAny (model W.prog W.w) c.A (getMethod (.ref (γ.ρ j)) "get" pl) Q E s)
    {Q : Value × List Value → Shared → Prop} (hq : Q (mkV k, [v']) s) (pl : Sem Bool) : wpAny (model W.prog W.w) c.A (getMethod v' name pl) Q E s := by
  cases hv <;> try (cases h; done)
  · obtain ⟨rfl, rfl⟩ := oneKd_some h
    have hq' : Q (.builtin "str.rpartition", [.str _ _]) s := hq
    with_reducible exact GM.rpartition hq'
  · rename_i j hj
    refine x12 (om h) fun m hg h1 => ?_
    obtain ⟨_, l, ho, N⟩ := hS.thing hg
    refine x12 (hS.fr) fun m' F _ => ?_
    cases m <;> try (cases h1; done)
    · refine x22 ho.form fun _ _ er2 hr => ?_; subst er2
      have g := (N _ (.head _)).1
      have hl : s.heap.IsList (γ.ρ j) _ := ⟨_, g, rfl, _, rfl⟩
      have nd : s.heap.NoDictAt (.ref (γ.ρ j)) := ⟨_, g, rfl⟩
      rcases listKd_some h1 with ⟨rfl, rfl⟩ | ⟨rfl, rfl⟩
      · exact getMethod_list_of PySem.F.slot_list_append PySem.F.type_list_append hl nd hq
      · exact getMethod_list_of PySem.F.slot_list_extend PySem.F.type_list_extend hl nd hq
    · refine x02 (oneKd_some h1) fun er0 er1 => ?_; subst er0; subst er1
      refine x24 ho.form fun _ _ er2 kv hd hs => ?_; subst er2
      have g := (N _ (.head _)).1
      have D : s.heap.DictOf (strKind W.prog W.w) (γ.ρ j) _ := Heap.dictOf_iff.mpr ⟨_, g, hd⟩
      refine getMethod_builtin D.typeIs PySem.F.plainAttrs_dict PySem.F.slot_dict_values PySem.F.type_dict_values (fun a e => ?_) hq
      cases e
      refine x22 hd fun es ep he _ => ?_
      exact ⟨_, g, he.2.1⟩
    · refine x34 (instAt ho N) fun dx es k' er3 fr fo I => ?_; subst er3
      refine x24 (instKd_some h1) fun r f h2 h3 h4 er5 => ?_; subst er5
      refine x03 (MO _ _ _ _ h2 h4) fun p1 p2 p3 => ?_
      exact method_inst F hG.X I p1 p2 p3 (fr.no _ h3) hq
    · refine x02 (oneKd_some h1) fun er0 er1 => ?_; subst er0; subst er1
      exact htd j _ _ hg ho N pl Q hq
theorem four_le : 4096 ≤ sizeLine := by decide +kernel
theorem runRpart_some {o : SV} {args : List SV} (h : runRpart o args σ = some out) : ∃ x d, o = .str x ∧ args = [.str d] ∧ (!Nat.beq d.cps.size 0) = true ∧ Nat.ble x.cps.size 4096 = true ∧ okS (PySem.Txt.rpartition x d).1 = true ∧ okS (PySem.Txt.rpartition x d).2.1 = true ∧ okS (PySem.Txt.rpartition x d).2.2 = true ∧
    okR (.tup [.str (PySem.Txt.rpartition x d).1, .str (PySem.Txt.rpartition x d).2.1, .str (PySem.Txt.rpartition x d).2.2]) σ = some out := by
  refine x12 (om h) fun x q1 h1 => ?_
  refine x12 (om h1) fun y q2 h2 => ?_
  refine x12 (om h2) fun d q3 h3 => ?_
  refine x02 (bm h3) fun b1 h4 => ?_
  refine x02 (bm h4) fun b2 h5 => ?_
  refine x02 (bm h5) fun b3 h6 => ?_
  refine x02 (bm h6) fun b4 h7 => ?_
  refine x02 (bm h7) fun b5 h8 => ?_
  exact ⟨x, d, strOf_some q1, by rw [single_some q2, strOf_some q3], b1, b2, b3, b4, b5, h8⟩
theorem rpart_ok (hS : W.SR c σ γ s) {o : SV} {o' : Value} {args : List SV} {args' : List Value} (h : runRpart o args σ = some out) (ho : VR W.K γ σ.next σ.doms.length o o') (ha : VRs W.K γ σ.next σ.doms.length args args') (P : Post W c out σ γ (VRel W) Q E) :
    wpAny (model W.prog W.w) c.A (call (.builtin "str.rpartition") (o' :: args')) Q E s := by
  refine y2_8 (runRpart_some h) fun x d er2 er3 q1 q2 k1 k2 k3 h9 => ?_; subst er2; subst er3
  (refine x12 ho.view fun t er1 hx => ?_; subst er1)
  (refine x23 ha.view fun _ _ er2 hd hr => ?_; subst er2)
  cases hr
  (refine x12 hd.view fun u er1 hd => ?_; subst er1)
  refine x12 (hS.fr) fun m F Ev => ?_
  refine x14 (hS.nw) fun H hH N nd ap => ?_
  have hsz : x.length ≤ sizeLine := Nat.le_trans (Nat.le_of_ble_eq_true q2) four_le
  refine rpartitionN (hsz := hsz) F N ?_ fun ta tb tc h' k F' N' => ?_
  · show (d.cps.size == 0) = false
    rw [beq_eq_false_iff_ne]; exact Nat.ne_of_beq_eq_false (notm q1)
  have S' := hS.tuple (tk := k) (k := 0) Ev hH nd ap F' N' (fun p hp => Heap.lt_size (N p hp).1)
  exact post_ok' h9 P ext_tup S' (.tup (.inl (.head _)) (.cons (.str _ (okS_ok k1)) (.cons (.str _ (okS_ok k2)) (.cons (.str _ (okS_ok k3)) .nil))))
theorem runVals_some {o : SV} {args : List SV} (h : runVals o args σ = some out) : ∃ j kvs, σ.get j = some (.dict kvs) ∧ o = .obj j ∧ args = [] ∧ newR (.view j) σ = some out := by
  refine x12 (om h) fun j q h1 => ?_
  refine x02 (bm h1) fun b h2 => ?_
  refine x12 (om h2) fun l q3 h3 => ?_
  exact ⟨j, l, asDict_some q3, objOf_some q, isNil_eq b, h3⟩
theorem vals_ok (hS : W.SR c σ γ s) {o : SV} {o' : Value} {args : List SV} {args' : List Value} (h : runVals o args σ = some out) (ho : VR W.K γ σ.next σ.doms.length o o') (ha : VRs W.K γ σ.next σ.doms.length args args') (P : Post W c out σ γ (VRel W) Q E) :
    wpAny (model W.prog W.w) c.A (call (.builtin "dict.values") (o' :: args')) Q E s := by
  (refine x24 (runVals_some h) fun j kvs hg er3 er4 h9 => ?_; subst er3; subst er4)
  (refine x02 ho.view fun er0 hj => ?_; subst er0)
  cases ha
  obtain ⟨_, l, ho, N0⟩ := hS.thing hg
  refine x12 (hS.fr) fun m F Ev => ?_
  refine x14 (hS.nw) fun H hH N nd ap => ?_
  (refine x24 ho.form fun _ _ er2 kv hd hs => ?_; subst er2)
  have D : s.heap.DictOf (strKind W.prog W.w) (γ.ρ j) _ := Heap.dictOf_iff.mpr ⟨_, (N0 _ (.head _)).1, hd⟩
  refine call_meetsIn PySem.F.slot_dict_values D.typeIs PySem.F.entry_dict_values (PySem.F.args_dict_values_1 _) (meets_dict_values (strKind W.prog W.w) (γ.ρ j) hs) ⟨⟨_, D⟩, ?_⟩
  exact made_ok (tk := s.toks) h9 hS Ev hH nd ap (F.push _) (News.push F N _) (.view hj) (fun q hq => Heap.lt_size (N q hq).1) P
set_option tactic.hygienic true in
theorem NItems_of {K : Frag} {m e : Nat} (tp : ∀ a o, Tups K γ a o → s.heap.get? a = some o) : ∀ {l : List SV} {vs : List Value} {k : NKey}, VRs K γ m e l vs → tkItems l = some k → NItems W.prog W.w s.heap k vs
  | _, _, _, .nil, h => by obtain rfl := ss h; exact .nil
  | _, _, _, .cons (v := x) hx r, h => by
    refine x12 (om h) fun a h1 h2 => ?_
    refine x12 (om h2) fun l' h3 h4 => ?_
    obtain rfl := ss h4
    have ih := NItems_of tp r h3
    cases hx <;> try ((first | exact ns h1 | obtain rfl := ss h1); done)
    · rename_i t ok
      obtain rfl := ss h1
      exact .str ok ih
    · rename_i ht hr
      refine x02 (bm h1) fun q e => ?_
      cases isNil_eq q
      obtain rfl := ss e
      cases hr
      exact .tup ⟨_, _, _, tp _ _ ht, rfl, rfl, .nil⟩ ih
theorem SR.tkIs (S : W.SR c σ γ s) (X : W.K.In c.h₀) {x : SV} {k : NKey} {a : Addr} (h : VR W.K γ σ.next σ.doms.length x (.ref a)) (e : tkOf x = some k) : NIs W.prog W.w s.heap k a := by
  cases x <;> try (exact ns e; done)
  refine x33 h.view fun _ _ _ q ht hr => ?_
  cases q
  exact ⟨_, _, _, S.tups X ht, rfl, rfl, by exact NItems_of (fun a o q => S.tups X q) hr e⟩
theorem TObj.at {kvs : List (SV × SV)} {xs : List (NKey × Addr × Value)} {o : Obj} {d : Addr} (X : W.K.In c.h₀) (S : W.SR c σ γ s) (hk : TK W.K γ σ.next σ.doms.length kvs xs) (T : TObj W.prog W.w o xs) (ho : s.heap.get? d = some o) : s.heap.DictOfH (nKind W.prog W.w) d xs := by
  refine x22 T.dt fun es ep e1 e2 => ?_
  refine ⟨o, es, ep, ho, T.ex, e1, e2, fun x hx => ?_, T.nd⟩
  have key : ∀ {kvs : List (SV × SV)} {xs : List (NKey × Addr × Value)}, TK W.K γ σ.next σ.doms.length kvs xs → ∀ x ∈ xs, NIs W.prog W.w s.heap x.1 x.2.1 := by
    intro kvs xs h
    induction h with
    | nil => exact fun _ h => nomatch h
    | cons e a b _ ih =>
      intro x hx
      rcases List.mem_cons.mp hx with rfl | hx
      · exact S.tkIs X a e
      · exact ih x hx
  exact key hk x hx
theorem get_meth_ok (hG : Good W c) (hS : W.SR c σ γ s) (j : Nat) (kvs : List (SV × SV)) (l : List (Addr × Obj)) (hg : σ.get j = some (.tdict kvs)) (ho : OR W.prog W.w W.K γ σ.next σ.doms.length (γ.ρ j) (.tdict kvs) l) (N : News c.h₀ c.L s.heap l) (pl : Sem Bool)
    (Q : Value × List Value → Shared → Prop) (hq : Q (.builtin "dict.get", [.ref (γ.ρ j)]) s) : wpAny (model W.prog W.w) c.A (getMethod (.ref (γ.ρ j)) "get" pl) Q E s := by
  (refine x24 ho.form fun _ _ er2 hk T hs => ?_; subst er2)
  have g := (N _ (.head _)).1
  exact getMethod_builtin (T.at hG.X hS hk g).typeIs PySem.F.plainAttrs_dict PySem.F.slot_dict_get PySem.F.type_dict_get (fun a e => by cases e; exact ⟨_, g, T.ex.2.1⟩) hq
theorem tkB1_iff {x y : Option Str} : tkB1 x y = true ↔ x = y := by
  cases x <;> cases y <;> simp [tkB1, sB_iff]
theorem tkB_iff : ∀ {x y : NKey}, tkB x y = true ↔ x = y
  | [], [] => by simp [tkB]
  | [], _ :: _ => by simp [tkB]
  | _ :: _, [] => by simp [tkB]
  | a :: x, b :: y => by
    unfold tkB
    cases q : tkB1 a b with
    | true => rw [tkB1_iff.mp q]; simpa using tkB_iff
    | false =>
      constructor
      · intro h; exact tf h
      · intro h; cases h; rw [tkB1_iff.mpr rfl] at q; exact ft q
theorem tkGet_ok {K : Frag} {m e : Nat} {k : NKey} {d v : SV} {d' : Value} (hd : VR K γ m e d d') : ∀ {kvs : List (SV × SV)} {xs : List (NKey × Addr × Value)}, TK K γ m e kvs xs → tkGet k d kvs = some v → VR K γ m e v (((atKey xs k).map (·.2)).getD d')
  | _, _, .nil, h => by obtain rfl := ss h; exact hd
  | _, _, .cons (k := k0) e1 a b r, h => by
    refine x12 (om h) fun k1 q1 h1 => ?_
    rw [e1] at q1
    obtain rfl := ss q1
    refine mc h1 (fun q h1 => ?_) fun q h1 => ?_
    · obtain rfl := ss h1
      rw [tkB_iff.mp q]
      simpa [atKey] using b
    · have ne : ¬ k0 = k := fun z => by rw [tkB_iff.mpr z] at q; exact ft q
      have := tkGet_ok hd r h1
      simpa [atKey, ne] using this
theorem runGet_some {o : SV} {args : List SV} (h : runGet o args σ = some out) : ∃ j kvs, σ.get j = some (.tdict kvs) ∧ o = .obj j ∧ ∃ x d, args = [x, d] ∧ forced x σ (fun x τ => getT x d kvs τ) = some out := by
  refine x12 (om h) fun j q h1 => ?_
  refine x12 (om h1) fun p q2 h2 => ?_
  refine x12 (om h2) fun l q3 h3 => ?_
  exact ⟨j, l, asTd_some q3, objOf_some q, p.1, p.2, pair_some q2, h3⟩
theorem get_run_ok (hG : Good W c) (hR : Room n c) (hS : W.SR c σ γ s) {o : SV} {o' : Value} {args : List SV} {args' : List Value} (h : runGet o args σ = some out) (ho : VR W.K γ σ.next σ.doms.length o o') (ha : VRs W.K γ σ.next σ.doms.length args args') (P : Post W c out σ γ (VRel W) Q E) :
    wpAny (model W.prog W.w) c.A (call (.builtin "dict.get") (o' :: args')) Q E s := by
  obtain ⟨j, kvs, hg, rfl, x, d, rfl, h9⟩ := runGet_some h
  obtain ⟨rfl, hj⟩ := ho.view
  refine x23 ha.view fun x' _ er2 hx hr => ?_; subst er2
  obtain ⟨d', _, rfl, hd, hr⟩ := hr.view
  cases hr
  obtain ⟨_, l, ho, N0⟩ := hS.thing hg
  refine x36 (forced_post h9 hS hx P) fun x0 τ o1 hx0 _ S1 x1 e1 P1 => ?_
  refine x24 ho.form fun _ _ er2 hk T hs => ?_; subst er2
  have g := (N0 _ (.head _)).1
  refine x12 (om e1) fun k hk0 e2 => ?_
  refine x12 (om e2) fun v hv e3 => ?_
  cases x0 <;> try (exact ns hk0; done)
  have hx1 := hx0
  refine x33 hx0.view fun _ _ _ er3 ht hr => ?_; subst er3
  have D := T.at hG.X S1 (hk.later x1.later) g
  have hR2 : c.un + 1 + 8 < cLine := by have := hR.u; exact lo6 (by assumption) (by decide)
  refine call_meetsIn PySem.F.slot_dict_get D.typeIs PySem.F.entry_dict_get (PySem.F.args_dict_get_3 _ _ _) (meetsH_dict_get_default (nKind W.prog W.w) _ _ hs _) ⟨hR2, k, _, S1.tkIs hG.X hx1 hk0, D, ?_⟩
  exact post_ok (rel := VRel W) (Q := Q) e3 P1 (S1.toks _) (tkGet_ok (hd.later x1.later) (hk.later x1.later) hv)
theorem runM_ok (IH : SemsOK W n S) (hG : Good W c) (hR : Room n c) (hS : W.SR c σ γ s) {v : SV} {v' : Value} {k : MK} {args : List SV} {args' : List Value} (h : runM S v k args σ = some out) (hv : VR W.K γ σ.next σ.doms.length v v') (ha : VRs W.K γ σ.next σ.doms.length args args')
    (P : Post W c out σ γ (VRel W) Q E) : Kept (model W.prog W.w) (mkV k) s.heap ∧ wpAny (model W.prog W.w) c.A (call (mkV k) (v' :: args')) Q E s := by
  cases k with
  | fn f =>
    exact ⟨kept_ok IH hS hG h (.top f), IH.cl _ _ _ _ h c γ s _ _ hG hS hR (.top f) (.cons hv ha) _ _ P⟩
  | app => exact ⟨kept_builtin, app_ok hS h hv ha P⟩
  | ext => exact ⟨kept_builtin, ext_ok hS h hv ha P⟩
  | tget => exact ⟨kept_builtin, get_run_ok hG hR hS h hv ha P⟩
  | vals => exact ⟨kept_builtin, vals_ok hS h hv ha P⟩
  | rpart => exact ⟨kept_builtin, rpart_ok hS h hv ha P⟩
theorem evMeth_ok (MO : MethOK W C) (IH : SemsOK W n S) (hG : Good W c) (hR : Room n c) {o : PySem.Expr} {name : Str} {apos pos : Pos} {args : List PySem.Expr} (hb : notBare o = true) (hl : Nat.beq apos.endLine pos.line = true) (hp : plainArgs 28 args = true)
    (h : evMeth C S fm o name args σ = some out) (hF : FmOK W c fm γ σ.next σ.doms.length env) (hS : W.SR c σ γ s) (P : Post W c out σ γ (VRel W) Q E) :
    wpAny (model W.prog W.w) c.A (eval (.Call (.Attribute o name apos) args [] pos) env) Q E s := by
  refine x12 (bind_spec h) fun l1 e1 h1 => ?_
  refine meth_node hb hl hp (IH.ev _ _ _ _ e1 c γ s env hG hF hS hR _ _ (post_bind h1 P fun v τ o1 e2 γ' s' x S' P' v' hv => ?_))
  intro pl
  refine x12 (om e2) fun k hk e2 => ?_
  refine methKd_ok MO hG S' hk hv (fun j kvs l a b c pl Q q => get_meth_ok hG S' j kvs l a b c pl Q q) ?_ pl
  refine x12 (bind_spec e2) fun l2 e3 h3 => ?_
  refine callWith_any (Pr := Kept (model W.prog W.w) (mkV k)) hp (fun _ h => h) ?_
  refine evs_ok IH hG hR e3 (hF.later x.later) S' (post_bind h3 P' fun vs τ' o2 e4 γ'' s'' y S'' P'' vs' hvs => ?_)
  exact runM_ok IH hG hR S'' e4 (hv.later y.later) hvs P''
end
end Mine
end
section
open PySem PySem.W PyProof.Rows PySem.Calls
set_option tactic.hygienic false
namespace Mine
section
variable {W : Wk} {n : Nat} {S : Sems} {C : Cfg} {c : Cx} {fm : Fm} {σ τ : St} {γ : G} {s : Shared} {env : Env} {Q : Value → Shared → Prop} {E : Value → Shared → Prop} {out : Out SV}
inductive PR : List Str → List Value → List (Value × Value) → Prop
  | nil : PR [] [] []
  | cons {x v t xs vs ps} : PyData.strOk x = true → PR xs vs ps → PR (x :: xs) (v :: vs) ((.str x t, v) :: ps)
theorem keysOf_some : ∀ {ks : List (Option PySem.Expr)} {names : List Str}, keysOf ks = some names → ks.all (·.isSome) = true ∧ ks.length = names.length
  | [], names, h => by obtain rfl := ss h; exact ⟨rfl, rfl⟩
  | e :: r, names, h => by
    refine x12 (om h) fun e er1 h1 => ?_; subst er1
    refine x12 (om h1) fun k h2 h3 => ?_
    refine x12 (om h3) fun ks h4 h5 => ?_
    obtain rfl := ss h5
    refine x02 (keysOf_some h4) fun a b => ?_
    exact ⟨by exact a, by simp [b]⟩
theorem keyOf_some {e : PySem.Expr} {x : Str} (h : keyOf e = some x) : ∃ u p, e = .Constant (.str x) u p ∧ PyData.strOk x = true := by
  refine x12 (om h) fun k h1 h2 => ?_
  refine x12 (om h2) fun y h3 h4 => ?_
  refine x02 (bm h4) fun q h5 => ?_
  cases h5
  cases e <;> try ((first | exact ns h1 | cases h1); done)
  cases h1
  cases k <;> try ((first | exact ns h3 | cases h3); done)
  cases h3
  exact ⟨_, _, rfl, okS_ok q⟩
theorem keysOf_cons {e : Option PySem.Expr} {r : List (Option PySem.Expr)} {names : List Str} (h : keysOf (e :: r) = some names) : ∃ k ks u p, e = some (.Constant (.str k) u p) ∧ names = k :: ks ∧ PyData.strOk k = true ∧ keysOf r = some ks := by
  (refine x12 (om h) fun e er1 h1 => ?_; subst er1)
  refine x12 (om h1) fun k h2 h3 => ?_
  refine x12 (om h3) fun ks h4 h5 => ?_
  obtain rfl := ss h5
  (refine x22 (keyOf_some h2) fun u p er2 ok => ?_; subst er2)
  exact ⟨k, ks, u, p, rfl, rfl, ok, h4⟩
theorem pairs_ok (IH : SemsOK W n S) (hG : Good W c) (hR : Room n c) {pos : Pos} : ∀ {ks : List (Option PySem.Expr)} {names : List Str} {es : List PySem.Expr} {σ : St} {γ : G} {s : Shared} {o : Out (List SV)} {Q : List (Value × Value) → Shared → Prop},
    keysOf ks = some names → names.length = es.length → evs S fm es σ = some o → FmOK W c fm γ σ.next σ.doms.length env → W.SR c σ γ s →
      Post W c o σ γ (fun vs γ n d ps => ∃ vs', VRs W.K γ n d vs vs' ∧ PR names vs' ps) Q E → wpAny (model W.prog W.w) c.A (evalPairs (pairTrees ks es env pos)) Q E s
  | [], names, es, σ, γ, s, o, Q, hk, hl, h, hF, hS, P => by
    obtain rfl := ss hk
    cases es with
    | cons _ _ => cases hl
    | nil => exact pairTrees_nil_walk (post_ok h P hS ⟨[], .nil, .nil⟩)
  | e :: r, names, es, σ, γ, s, o, Q, hk, hl, h, hF, hS, P => by
    refine x44 (keysOf_cons hk) fun k ks u p er4 er5 ok h2 => ?_; subst er4; subst er5
    cases es with
    | nil => cases hl
    | cons e1 es =>
      refine x12 (bind_spec h) fun l e2 h3 => ?_
      refine pairTrees_cons_walk (wpAny_Constant_str ?_)
      refine IH.ev _ _ _ _ e2 c γ _ env hG hF (hS.toks _) hR _ _ (post_bind h3 P fun v τ o1 e4 γ' s' x S' P' v' hv => ?_)
      refine x12 (bind_spec e4) fun l2 e5 h5 => ?_
      refine pairs_ok IH hG hR h2 (by simpa using hl) e5 (hF.later x.later) S' ?_
      intro r τ2 hm γ2 s2 y S2
      refine x02 (h5 r τ2 hm) fun ha hb => ?_
      cases r with
      | ex cc v => exact P' _ _ (hb cc v rfl) γ2 s2 y S2
      | ok a =>
        rintro ps ⟨vs', q1, q2⟩
        refine x12 (ha a rfl) fun o1 e6 sub => ?_
        obtain rfl := ss e6
        exact P' (.ok (v :: a)) τ2 (sub _ (.head _)) γ2 s2 y S2 _ ⟨v' :: vs', .cons (hv.later y.later) q1, .cons ok q2⟩
theorem PR.str {names : List Str} {vs : List Value} {ps : List (Value × Value)} (h : PR names vs ps) : allStrKeys ps = true ∧ (strPairs ps).map (·.1) = names := by
  induction h with
  | nil => exact ⟨rfl, rfl⟩
  | cons _ _ ih => exact ⟨by exact ih.1, by simp only [strPairs, List.map_cons, ih.2]⟩
theorem PR.kv {K : Frag} {m d : Nat} {names : List Str} {vs : List Value} {ps : List (Value × Value)} (h : PR names vs ps) : ∀ {l : List SV}, VRs K γ m d l vs → KV K γ m d (zipL names l) (strPairs ps) := by
  induction h with
  | nil => intro l h; cases h; exact .nil
  | cons ok _ ih =>
    intro l h
    cases h with
    | cons a b => exact .cons ok a (ih b)
theorem memS_iff {x : Str} : ∀ {l : List Str}, memS x l = false → x ∉ l
  | [], _ => by simp
  | y :: r, h => by
    skip
    refine mc h (fun q h => ?_) fun q h => ?_
    · exact ft h
    · exact fun hm => (List.mem_cons.mp hm).elim (sB_false.mp q) (memS_iff h)
theorem nodupS_ok : ∀ {l : List Str}, nodupS l = true → l.Nodup
  | [], _ => List.nodup_nil
  | x :: r, h => by
    skip
    refine mc h (fun q h => ?_) fun q h => ?_
    · exact tf h
    · exact List.nodup_cons.mpr ⟨memS_iff q, nodupS_ok h⟩
theorem putR_some {j : Nat} {o : MO} {out : Out SV} (h : putR j o σ = some out) : lkN j σ.heap = some (.dict []) ∧ okR (.obj j) { σ with heap := ptN j o σ.heap } = some out := by
  refine x12 (om h) fun l h1 h2 => ?_
  refine x02 (bm h2) fun b h3 => ?_
  rw [isNil_eq b] at h1
  exact ⟨asDict_some h1, h3⟩
theorem evDictS_ok (IH : SemsOK W n S) (hG : Good W c) (hR : Room n c) {ks : List (Option PySem.Expr)} {names : List Str} {es : List PySem.Expr} {pos : Pos} (hk : keysOf ks = some names) (hnd : nodupS names = true) (hl : names.length = es.length) (hle : names.length ≤ 15) (hne : ks ≠ [])
    (h : evDictS S fm names es σ = some out) (hF : FmOK W c fm γ σ.next σ.doms.length env) (hS : W.SR c σ γ s) (P : Post W c out σ γ (VRel W) Q E) : wpAny (model W.prog W.w) c.A (eval (.Dict ks es pos) env) Q E s := by
  refine x12 (bind_spec h) fun l1 e1 h1 => ?_
  refine x12 (hS.fr) fun m F Ev => ?_
  refine x14 (hS.nw) fun H hH N nd ap => ?_
  refine x02 (keysOf_some hk) fun k1 k2 => ?_
  refine kdn_eval (knd := strKind W.prog W.w) F N hG.T.nolimit k1 (by rw [k2, hl]) hne (by rw [k2]; exact hle) fun d h' o F' N' fresh lo hd => ?_
  have S' := hS.alloc1 (tk := s.toks) Ev hH nd ap F' N' (.dict .nil hd lo) fresh
  have x := ext_new (σ := σ) (γ := γ) (a := d) (o := .dict [])
  refine pairs_ok IH hG hR hk hl e1 (hF.later x.later) S' ?_
  intro r τ hm γ2 s2 y S2
  refine x02 (h1 r τ hm) fun ha hb => ?_
  cases r with
  | ex cc v => exact P _ _ (hb cc v rfl) γ2 s2 (x.trans y) S2
  | ok a =>
    rintro ps ⟨vs', q1, q2⟩
    refine x12 (ha a rfl) fun o1 e2 sub => ?_
    refine x02 (putR_some e2) fun hj e2 => ?_
    refine x13 (S2.turn hj) fun l ho N2 upd => ?_
    have hρ : γ2.ρ σ.next = d := by
      rw [y.ρ _ (Nat.lt_succ_self _)]
      exact if_pos rfl
    refine x24 ho.form fun kvs' o2 er2 kv hd2 hs2 => ?_; subst er2
    cases kv
    refine x02 q2.str fun a1 a2 => ?_
    have D : s2.heap.DictOf (strKind W.prog W.w) d [] := by rw [← hρ]; exact Heap.dictOf_iff.mpr ⟨_, (N2 _ (.head _)).1, hd2⟩
    refine display_done_str a1 (by rw [a2]; exact nodupS_ok hnd) D fun h'' hm'' hs'' => ?_
    refine x12 (Heap.dictOf_iff.mp hm'') fun o'' ho'' hd'' => ?_
    have nt : NT o2 := by
      refine x22 hd2 fun es ep he _ => ?_
      exact nt_of fun vs k => .inr (by rw [he.1]; decide)
    have S3 := upd [] [] _ o'' h'' (s2.toks + ps.length) (.dict (zipL names a)) rfl nt (by rw [hρ]; exact hs'') (by rw [hρ]; exact ho'') (.dict (q2.kv q1) hd'' hs2)
    have := P (.ok (.obj σ.next)) _ (sub _ (by obtain rfl := ss e2; exact .head _)) γ2 _ ((x.trans y).trans ext_put) S3 (.ref (γ2.ρ σ.next)) (.obj (Nat.lt_of_lt_of_le (Nat.lt_succ_self _) y.n))
    rw [hρ] at this
    exact this
theorem evDict_ok (IH : SemsOK W n S) (hG : Good W c) (hR : Room n c) {ks : List (Option PySem.Expr)} {es : List PySem.Expr} {pos : Pos}
    (htd : ∀ kes, exprsOf ks = some kes → evDictT S fm kes es σ = some out → wpAny (model W.prog W.w) c.A (eval (.Dict ks es pos) env) Q E s)
    (h : (evDict S ks es).run fm σ = some out) (hF : FmOK W c fm γ σ.next σ.doms.length env) (hS : W.SR c σ γ s) (P : Post W c out σ γ (VRel W) Q E) : wpAny (model W.prog W.w) c.A (eval (.Dict ks es pos) env) Q E s := by
  cases ks with
  | nil =>
    refine x02 (em h) fun q h1 => ?_
    cases isNil_eq q
    refine x12 (hS.fr) fun m F Ev => ?_
    refine x14 (hS.nw) fun H hH N nd ap => ?_
    exact newDict_K F N hG.T.nolimit fun d h' o F' N' fresh lo hd _ _ _ => made_ok (tk := s.toks) h1 hS Ev hH nd ap F' N' (.dict .nil hd lo) fresh P
  | cons k0 ks =>
    simp only [evDict, isNil] at h
    refine ok' (o := keysOf (k0 :: ks)) (fun names hk => ?_) fun hk => ?_
    · rw [hk] at h
      refine x02 (em h) fun g1 h1 => ?_
      refine x02 (em h1) fun g2 h2 => ?_
      refine x02 (em h2) fun g3 h3 => ?_
      exact evDictS_ok IH hG hR hk g1 (Nat.eq_of_beq_eq_true g2) (Nat.le_of_ble_eq_true g3) (List.cons_ne_nil _ _) h3 hF hS P
    · rw [hk] at h
      refine x12 (oem h) fun kes hk h1 => ?_
      exact htd kes hk h1
theorem nameOfE_some {e : PySem.Expr} {x : Str} (h : nameOfE e = some x) : ∃ p, e = .Name x p := by
  cases e <;> try ((first | exact ns h | obtain rfl := ss h); done)
  obtain rfl := ss h
  exact ⟨_, rfl⟩
theorem VRs.take {K : Frag} {m d : Nat} {l : List SV} {vs : List Value} (h : VRs K γ m d l vs) : ∀ k, VRs K γ m d (l.take k) (vs.take k) :=
  VRs.ind K (P := fun l vs => ∀ k, VRs K γ m d (l.take k) (vs.take k)) (fun k => by cases k <;> exact .nil) (fun a _ ih k => by
    cases k with
    | zero => exact .nil
    | succ k => exact .cons a (ih k)) h
theorem cmin (a b : Nat) : max (0 : Int) (min (b : Int) (a : Int)) = ((min b a : Nat) : Int) := by
  refine (Int.max_eq_right (Int.le_min.mpr ⟨Int.natCast_nonneg b, Int.natCast_nonneg a⟩)).trans ?_
  rcases Nat.le_total a b with h | h
  · rw [Nat.min_eq_right h]; exact Int.min_eq_right (Int.ofNat_le.mpr h)
  · rw [Nat.min_eq_left h]; exact Int.min_eq_left (Int.ofNat_le.mpr h)
theorem pick_upto {vs : List Value} {k : Nat} : slicePick vs.toArray none (some (Int.ofNat k)) none = (vs.take k).toArray := by
  have e : sliceBounds none (some (Int.ofNat k)) none vs.toArray.size = (((0 : Nat) : Int), ((min k vs.toArray.size : Nat) : Int), 1) := by
    simp only [sliceBounds, Option.getD_none, show (1 : Int) > 0 by decide, if_true, if_neg (show ¬ (Int.ofNat k < 0) from Int.not_lt.mpr (Int.natCast_nonneg k)), Int.ofNat_eq_natCast]
    congr 1
    congr 1
    exact cmin _ _
  rw [kmk_pick_nat _ e]
  show ((vs.drop 0).take (min k vs.toArray.size - 0)).toArray = _
  rw [List.drop_zero, Nat.sub_zero, List.size_toArray, kmk_take_min]
theorem evSlice_some {o : PySem.Expr} {lo hi st : Option PySem.Expr} {out : Out SV} (h : (evSlice S o lo hi st).run fm σ = some out) : ∃ k x p, lo = none ∧ hi = some k ∧ st = none ∧ o = .Name x p ∧ bindR (S.ev fm o σ) (fun v τ => bindR (S.ev fm k τ) fun kv τ' => cutR v kv τ') = some out := by
  refine x02 (em h) fun q h1 => ?_
  refine x02 (em h1) fun q2 h2 => ?_
  refine x12 (oem h2) fun k q3 h3 => ?_
  refine x12 (oem h3) fun x q4 h4 => ?_
  refine x11 (nameOfE_some q4) fun p q5 => ?_
  exact ⟨k, x, p, noneB_eq q, q3, noneB_eq q2, q5, h4⟩
theorem cutR_some {v k : SV} {out : Out SV} (h : cutR v k σ = some out) : ∃ l j, listOfObj σ v = some l ∧ k = .int (.ofNat j) ∧ small l = true ∧ newR (.list (l.take j)) σ = some out := by
  refine x12 (om h) fun l h1 h2 => ?_
  refine x12 (om h2) fun j h3 h4 => ?_
  refine x02 (bm h4) fun b h5 => ?_
  exact ⟨l, j, h1, natOf_some h3, b, (newL_some h5).2⟩
theorem evSlice_ok (IH : SemsOK W n S) (hG : Good W c) (hR : Room n c) {o : PySem.Expr} {lo hi st : Option PySem.Expr} {sp pos : Pos} (h : (evSlice S o lo hi st).run fm σ = some out) (hF : FmOK W c fm γ σ.next σ.doms.length env) (hS : W.SR c σ γ s) (P : Post W c out σ γ (VRel W) Q E) :
    wpAny (model W.prog W.w) c.A (eval (.Subscript o (.Slice lo hi st sp) pos) env) Q E s := by
  (refine x35 (evSlice_some h) fun k x p er3 er4 er5 er6 h9 => ?_; subst er3; subst er4; subst er5; subst er6)
  refine x12 (bind_spec h9) fun l1 e1 h1 => ?_
  refine Subscript_ (IH.ev _ _ _ _ e1 c γ s env hG hF hS hR _ _ (post_bind h1 P fun v τ o1 e2 γ' s' x S' P' v' hv => ?_))
  refine x12 (bind_spec e2) fun l2 e3 h3 => ?_
  rw [arm_eval_Slice]
  refine wpAny_bind (wpAny_pure (wpAny_bind (wpAny_holding ?_)))
  refine IH.ev _ _ _ _ e3 c γ' s' env hG (hF.later x.later) S' hR _ _ (post_bind h3 P' fun iv τ' o2 e4 γ'' s'' y S'' P'' i' hi => ?_)
  refine wpAny_bind (wpAny_holding (wpAny_pure ?_))
  skip
  refine wpAny_newObj_type ?_
  refine x24 (cutR_some e4) fun l j hl hj sz e9 => ?_
  (refine x24 (S''.listAt hl (hv.later y.later)) fun a vs er2 hL hvs _ => ?_; subst er2)
  subst hj
  cases hi
  refine x12 (S''.fr) fun m F Ev => ?_
  refine x14 (S''.nw) fun H hH N nd ap => ?_
  have hz : vs.toArray.size ≤ sizeLine := by
    rw [List.size_toArray, hvs.len]
    have := small_le sz
    skip; exact Nat.le_trans (by assumption) (by decide)
  refine slice_list F N hL .none (.int _ _) (fun h' F' N' => ?_) rfl (fun _ => rfl) hz
  rw [pick_upto] at N'
  exact made_ok (tk := s''.toks) e9 S'' Ev hH nd ap F' N' (.list (hvs.take j)) (fun p hp => Nat.lt_succ_of_lt (Heap.lt_size (N p hp).1)) P''
end
end Mine
end
section
open PySem PySem.W PyProof.Rows PySem.Calls
set_option tactic.hygienic false
namespace Mine
noncomputable def closOf (addr : Str → Addr) : List (Str × NameKind) → List (Str × Addr) → List (Str × Addr)
  | [], acc => acc
  | (x, k) :: r, acc => if k == .free then closOf addr r ((x, addr x) :: acc) else closOf addr r acc
theorem closOf_lookup {addr : Str → Addr} {x : Str} {a : Addr} : ∀ {names : List (Str × NameKind)} {acc : List (Str × Addr)}, (∀ b, acc.lookup x = some b → b = a) → ((acc.lookup x = some a) ∨ (x, NameKind.free) ∈ names) → addr x = a → (closOf addr names acc).lookup x = some a
  | [], acc, h, h2, e => by
    refine Or.elim h2 (fun h2 => ?_) fun h2 => ?_
    · exact h2
    · cases h2
  | (y, k) :: r, acc, h, h2, e => by
    unfold closOf
    by_cases q : k == .free
    · rw [if_pos q]
      by_cases z : x = y
      · subst z
        refine closOf_lookup (fun b hb => ?_) (.inl ?_) e
        · simp at hb; rw [← hb]; exact e
        · simp [e]
      · refine closOf_lookup (fun b hb => h b ?_) ?_ e
        · rw [List.lookup_cons] at hb
          rw [show (x == y) = false from beq_eq_false_iff_ne.mpr z] at hb
          exact hb
        · rcases h2 with h2 | h2
          · left
            rw [List.lookup_cons, show (x == y) = false from beq_eq_false_iff_ne.mpr z]
            exact h2
          · right
            refine Or.elim (List.mem_cons.mp h2) (fun h2 => ?_) fun h2 => ?_
            · cases h2; exact absurd rfl z
            · exact h2
    · rw [if_neg q]
      refine closOf_lookup h ?_ e
      rcases h2 with h2 | h2
      · exact .inl h2
      · right
        rcases List.mem_cons.mp h2 with h2 | h2
        · cases h2; exact absurd rfl q
        · exact h2
theorem closureFor_eq {env : Env} {sc : Scope} {addr : Str → Addr} (h : ∀ x, (x, NameKind.free) ∈ sc.names → env.cells.lookup x = some (addr x)) : closureFor sc env = pure (closOf addr sc.names []) := by
  have key : ∀ (names : List (Str × NameKind)) (acc : List (Str × Addr)), (∀ x, (x, NameKind.free) ∈ names → env.cells.lookup x = some (addr x)) →
      (forIn names acc fun (p : Str × NameKind) (cs : List (Str × Addr)) => (do if p.2 == .free then pure (ForInStep.yield ((p.1, ← cellOf env p.1) :: cs)) else pure (ForInStep.yield cs) : Sem (ForInStep (List (Str × Addr))))) = pure (closOf addr names acc) := by
    intro names
    induction names with
    | nil => intro acc _; rfl
    | cons p r ih =>
      obtain ⟨x, k⟩ := p
      intro acc hn
      rw [List.forIn_cons]
      unfold closOf
      by_cases q : k == .free
      · have e : cellOf env x = pure (addr x) := by
          unfold cellOf
          rw [hn x (by rw [eq_of_beq q]; exact .head _)]
        simp only [q, if_true, e, pure_bind]
        exact ih _ fun x hx => hn x (.tail _ hx)
      · simp only [q, if_false, pure_bind, Bool.false_eq_true]
        exact ih _ fun x hx => hn x (.tail _ hx)
  unfold closureFor
  rw [← key sc.names [] h]
  simp
end Mine
end
section
open PySem PySem.W PyProof.Rows PySem.Calls
set_option tactic.hygienic false
namespace Mine
theorem lkS_lookup {α : Type} {x : Str} : ∀ {l : List (Str × α)}, lkS x l = l.lookup x
  | [] => rfl
  | (y, v) :: r => by
    rw [lkS_cons, List.lookup_cons, lkS_lookup]
    by_cases q : x = y
    · subst q; simp
    · rw [if_neg q, show (x == y) = false from beq_eq_false_iff_ne.mpr q]
theorem relab_ok {env : Env} {outer : List (Str × NameKind)} (hk : env.scope.kind = .function) (hn : ∀ x, env.kindOf x = lkS x outer) : ∀ (names : List (Str × NameKind)), relab outer names = names.map fun (n, k) => if (k == NameKind.free && env.scope.kind == .function && env.kindOf n == some .cell) then (n, NameKind.cell) else (n, k)
  | [] => rfl
  | (x, k) :: r => by
    unfold relab
    rw [List.map_cons, ← relab_ok hk hn r]
    congr 1
    dsimp only
    rw [hk, hn x]
    cases k <;> try rfl
    show (x, match isCell1 (lkS x outer) with | true => NameKind.cell | false => NameKind.free) = _
    cases lkS x outer with
    | none => rfl
    | some k => cases k <;> rfl
theorem relab_kindOf {env : Env} {outer : List (Str × NameKind)} {sc : Scope} {cl : List (Str × Addr)} {C : Addr} (hk : env.scope.kind = .function) (hn : ∀ x, env.kindOf x = lkS x outer) (x : Str) : (compEnvC sc cl C env).kindOf x = lkS x (relab outer sc.names) := by
  rw [relab_ok hk hn, lkS_lookup]
  rfl
theorem goodName_ok {x : Str} (h : goodName x = true) : (x == ("__debug__" : Str)) = false ∧ (x == ("__classdict__" : Str)) = false := by
  refine x02 (am h) fun h1 h2 => ?_
  exact ⟨beq_eq_false_iff_ne.mpr (sB_false.mp (notm h1)), beq_eq_false_iff_ne.mpr (sB_false.mp (notm h2))⟩
theorem isLocalK_ok {o : Option NameKind} (h : isLocalK o = true) : o = some .local := by
  cases o with
  | none => exact tf h
  | some k => cases k <;> first | rfl | exact tf h
theorem fromCells_ok {fm : Fm} {y : Str} (h : fromCells fm y = true) : (lkS y fm.names = some .cell ∨ lkS y fm.names = some .free) ∧ ∃ j, lkS y fm.cells = some j := by
  refine x02 (am h) fun q h1 => ?_
  refine ⟨?_, Option.isSome_iff_exists.mp h1⟩
  generalize lkS y fm.names = o at q
  cases o with
  | none => exact tf q
  | some k => cases k <;> first | exact .inl rfl | exact .inr rfl | exact tf q
theorem compNames_ok {all : List (Str × NameKind)} {fm : Fm} : ∀ {names : List (Str × NameKind)}, compNames all fm names = true → ∀ p ∈ names, goodName p.1 = true ∧ (p.2 = .globalImplicit ∨ (p.2 = .local ∧ lkS p.1 all = some .local) ∨ (p.2 = .free ∧ fromCells fm p.1 = true))
  | [], _, p, hp => by cases hp
  | (y, k) :: r, h, p, hp => by
    refine x02 (am h) fun g h1 => ?_
    refine x02 (am h1) fun q h2 => ?_
    rcases List.mem_cons.mp hp with rfl | hp
    · refine ⟨g, ?_⟩
      cases k <;> first | exact .inl rfl | exact .inr (.inl ⟨rfl, isLocalK_ok q⟩) | exact .inr (.inr ⟨rfl, q⟩) | exact tf q
    · exact compNames_ok h2 p hp
theorem lkS_mem {α : Type} {x : Str} {v : α} : ∀ {l : List (Str × α)}, lkS x l = some v → (x, v) ∈ l
  | [], h => by exact ns h
  | (y, w) :: r, h => by
    rw [lkS_cons] at h
    by_cases q : x = y
    · rw [if_pos q] at h; obtain rfl := ss h; subst q; exact .head _
    · rw [if_neg q] at h; exact .tail _ (lkS_mem h)
theorem relab_mem {outer : List (Str × NameKind)} {x : Str} {k : NameKind} : ∀ {names : List (Str × NameKind)}, (x, k) ∈ relab outer names → ∃ k', (x, k') ∈ names ∧ (k = k' ∨ (k' = .free ∧ k = .cell))
  | [], h => by cases h
  | (y, j) :: r, h => by
    skip
    rcases List.mem_cons.mp h with h | h
    · cases h
      refine ⟨j, .head _, ?_⟩
      cases j <;> try exact .inl rfl
      refine bc (b := isCell1 (lkS x outer)) (fun q => ?_) fun q => ?_
      · exact .inr ⟨rfl, by simp only [relabK, q]⟩
      · exact .inl (by simp only [relabK, q])
    · refine x12 (relab_mem h) fun k' h1 h2 => ?_
      exact ⟨k', .tail _ h1, h2⟩
structure Core (W : Wk) (c : Cx) (σ : St) (γ : G) (m : Str → Option Value) (H : List (Addr × Obj)) : Prop where
  Ev : EnvM W.K c γ σ.next σ.doms.length σ.env m
  hH : HR W.prog W.w W.K γ σ.next σ.doms.length (σ.heap ++ σ.froz) H
  nd : (H.map (·.1)).Nodup
  tz : ∀ q ∈ γ.Z, IsT q.2
  dm : ∀ i l, getAt i σ.doms = some l → γ.δ i ∈ l ∧ ∀ x ∈ l, ground x = true
  ou : Ou c.outer c.tabs σ.next σ.froz γ
section
variable {W : Wk} {n : Nat} {S : Sems} {C : Cfg} {c c' : Cx} {fm : Fm} {σ τ : St} {γ γ' : G} {s : Shared} {env : Env} {m : Str → Option Value} {H : List (Addr × Obj)}
theorem SR.core (hS : W.SR c σ γ s) : ∃ m H, Core W c σ γ m H ∧ Fr c.h₀ c.L s.heap m ∧ News c.h₀ c.L s.heap (c.xt ++ (H ++ γ.Z)) ∧ (∀ q ∈ c.xt, ∀ r ∈ H ++ γ.Z, @Ne Nat q.1 r.1) := by
  refine x12 (hS.fr) fun m F Ev => ?_
  refine x14 (hS.nw) fun H hH N nd ap => ?_
  exact ⟨m, H, ⟨Ev, hH, nd, hS.tz, hS.dm, hS.ou⟩, F, N, ap⟩
theorem Core.sr (K : Core W c σ γ m H) {h : Heap} {tk : Nat} (F : Fr c.h₀ c.L h m) (N : News c.h₀ c.L h (c.xt ++ (H ++ γ.Z))) (ap : ∀ q ∈ c.xt, ∀ r ∈ H ++ γ.Z, @Ne Nat q.1 r.1) : W.SR c σ γ { c.s₀ with heap := h, toks := tk } :=
  ⟨rfl, ⟨m, F, K.Ev⟩, ⟨H, K.hH, N, K.nd, ap⟩, K.tz, K.dm, K.ou⟩
theorem Core.swap (K : Core W c σ γ m H) (hm : ∀ mf, c'.mf = some mf → m = mf) (ho : c'.outer = c.outer := by rfl) (ht : c'.tabs = c.tabs := by rfl) : Core W c' σ γ m H := ⟨⟨K.Ev.r, hm⟩, K.hH, K.nd, K.tz, K.dm, by rw [ho, ht]; exact K.ou⟩
noncomputable abbrev Cx.comp (c : Cx) (I : Addr) (oI : Obj) (Ca : Addr) (oC : Obj) (D : Addr) (oD : Obj) (m : Str → Option Value) : Cx := { c with xt := (I, oI) :: (Ca, oC) :: (D, oD) :: c.xt, mf := some m }
theorem Good.comp (hG : Good W c) {I : Addr} {oI : Obj} {Ca : Addr} {oC : Obj} {D : Addr} {oD : Obj} : Good W (c.comp I oI Ca oC D oD m) := ⟨hG.X, hG.T, hG.k, hG.tb, hG.ex⟩
theorem comp_fm {x : Str} {v : SV} {v' : Value} {sc : Scope} {I : Addr} {oI : Obj} {Ca : Addr} {oC : Obj} {D : Addr} {oD : Obj} {m₂ : Str → Option Value} {k d k' d' : Nat} (hF : FmOK W c fm γ k d env) (lt : Later γ γ' k d k' d') (hk : sc.kind = .function) (hn : compNames sc.names fm sc.names = true) (ho : LCg.NsObj oC m₂) (hx : m₂ x = some v') (hv : VR W.K γ' k' d' v v') :
    FmOK W (c.comp I oI Ca oC D oD m) { names := relab fm.names sc.names, cells := fm.cells, cv := some (x, v), tab := fm.tab } γ' k' d' (compEnvC sc (closOf (fun y => (((lkS y fm.cells).map γ.ρ).getD 0)) sc.names []) Ca env) where
  kind := hk
  glob := hF.glob
  blt := hF.blt
  names := fun y => relab_kindOf hF.kind hF.names y
  cells := fun y j e q => by
    have hm : ∃ k', (y, k') ∈ sc.names ∧ k' = .free := by
      rcases q with q | q <;> refine x12 (relab_mem (lkS_mem q)) fun k' h1 h2 => ?_
      · rcases h2 with rfl | ⟨rfl, _⟩
        · have := (compNames_ok hn _ h1).2
          rcases this with h | ⟨h, _⟩ | ⟨h, _⟩ <;> cases h
        · exact ⟨_, h1, rfl⟩
      · rcases h2 with rfl | ⟨_, h⟩
        · exact ⟨_, h1, rfl⟩
        · cases h
    refine x12 hm fun _ h1 er2 => ?_; subst er2
    have hc : fromCells fm y = true := by
      refine Or.elim ((compNames_ok hn _ h1).2) (fun h => ?_) fun oo => Or.elim oo (fun qq => x02 qq fun h _ => ?_) fun qq => x02 qq fun _ h => ?_
      · cases h
      · cases h
      · exact h
    have hj := (hF.cells y j e (fromCells_ok hc).1).2
    exact ⟨closOf_lookup (fun b hb => by exact ns hb) (.inr h1) (by simp [e, lt.lρ _ hj]), Nat.lt_of_lt_of_le hj lt.ln⟩
  tab := fun j e => by
    have := (hF.later lt).tab j e
    exact this
  fn := fun h => by exact sn h
  comp := fun q e => by
    obtain rfl := ss e
    exact ⟨oC, m₂, v', by simp [compEnvC], ho, hx, hv⟩
  dbg := fun y k e => by
    refine x12 (relab_mem (lkS_mem e)) fun k' h1 _ => ?_
    exact goodName_ok (compNames_ok hn _ h1).1
theorem clos_ok {k d : Nat} (hF : FmOK W c fm γ k d env) {sc : Scope} (h : ∀ x, (x, NameKind.free) ∈ sc.names → fromCells fm x = true) : closureFor sc env = pure (closOf (fun y => (((lkS y fm.cells).map γ.ρ).getD 0)) sc.names []) :=
  closureFor_eq fun x hx => by
    obtain ⟨h1, j, h2⟩ := fromCells_ok (h x hx)
    rw [(hF.cells x j h2 h1).1, h2]
    rfl
end
end Mine
end
section
open PySem PySem.W PyProof.Rows PySem.Calls
set_option tactic.hygienic false
namespace Mine
section
variable {W : Wk} {n : Nat} {S : Sems} {C : Cfg} {c c' : Cx} {fm : Fm} {σ τ : St} {γ γ' : G} {s : Shared} {env : Env} {m : Str → Option Value} {H : List (Addr × Obj)} {Q : Value → Shared → Prop} {E : Value → Shared → Prop} {out : Out SV}
theorem allOkV_ok : ∀ {o : Out SV}, allOkV o = true → ∀ r τ, (r, τ) ∈ o → ∃ v, r = .ok v
  | [], _, _, _, h => by cases h
  | (.ok v, _) :: o, q, r, τ, h => by
    rcases List.mem_cons.mp h with h | h
    · cases h; exact ⟨v, rfl⟩
    · exact allOkV_ok (o := o) q r τ h
  | (.ex c v, _) :: o, q, _, _, _ => by exact tf q
theorem okOnlyV_some {m : R SV} {l : Out SV} (h : okOnlyV m = some l) : m = some l ∧ ∀ r τ, (r, τ) ∈ l → ∃ v, r = .ok v := by
  refine x12 (om h) fun o e h1 => ?_
  refine x02 (bm h1) fun q h2 => ?_
  obtain rfl := ss h2
  exact ⟨e, allOkV_ok q⟩
theorem comp_rest (IH : SemsOK W n S) (hG : Good W c) (hR : Room n c) {σ₀ : St} {γ₀ : G} {x : Str} {elt : PySem.Expr} {sc : Scope} (hF : FmOK W c fm γ₀ σ₀.next σ₀.doms.length env) (hk : sc.kind = .function) (hn : compNames sc.names fm sc.names = true)
    (hmf : ∀ mf, c.mf = some mf → m = mf) (hs : ∀ h tk, ({ s with heap := h, toks := tk } : Shared) = { c.s₀ with heap := h, toks := tk }) {Sx : List (Addr × Obj) → Prop} (hSx : ∀ rest, Sx (c.xt ++ rest)) {Pp : Nat → Value → Prop} {Fin : List Value → List (Addr × Obj) → Prop} :
    ∀ (l : List SV) (i : Nat) (σ : St) (γ : G) (H : List (Addr × Obj)) (ys' : List Value) (o : Out (List SV)),
      compI S { fm with names := relab fm.names sc.names } x elt l σ = some o → Ext σ₀ γ₀ γ σ → Core W c σ γ m H → (∀ q ∈ c.xt, ∀ r ∈ H ++ γ.Z, @Ne Nat q.1 r.1) →
      (∀ j v, j < l.length → Pp (i + j) v → ∃ sv, getAt j l = some sv ∧ VR W.K γ σ.next σ.doms.length sv v) →
      (∀ zs τ, (.ok zs, τ) ∈ o → ∀ γ' H' zs', Ext σ γ γ' τ → Core W c τ γ' m H' → (∀ q ∈ c.xt, ∀ r ∈ H' ++ γ'.Z, @Ne Nat q.1 r.1) → VRs W.K γ' τ.next τ.doms.length zs zs' → Fin (ys' ++ zs') (c.xt ++ (H' ++ γ'.Z))) →
      LCg.CompRest W.prog W.w c.A c.h₀ c.L m env elt x sc (closOf (fun y => (((lkS y fm.cells).map γ₀.ρ).getD 0)) sc.names []) s Sx Pp Fin l.length i ys' (c.xt ++ (H ++ γ.Z))
  | [], i, σ, γ, H, ys', o, h, x0, K, ap, items, fin => by
    refine LCg.CompRest.zero ?_
    have := fin [] σ (by obtain rfl := ss h; exact .head _) γ H [] (Ext.refl _ _) K ap .nil
    rwa [List.append_nil] at this
  | v :: vs, i, σ, γ, H, ys', o, h, x0, K, ap, items, fin => by
    refine x12 (bind_spec (show bindR (okOnlyV _) _ = some o from h)) fun l1 e1 h1 => ?_
    refine x02 (okOnlyV_some e1) fun e1 allok => ?_
    refine LCg.CompRest.succ fun v' I oI Ca oC D m₂ h tk E' hP hNs hm F N off ne => ?_
    refine x12 (items 0 v' (Nat.succ_pos _) hP) fun sv g hv => ?_
    obtain rfl := ss g
    rw [hs]
    have offm := off.mem
    have S2 : W.SR (c.comp I oI Ca oC D (LCg.lst ys') m) σ γ { c.s₀ with heap := h, toks := tk } := by
      refine Core.sr (c := c.comp I oI Ca oC D (LCg.lst ys') m) (K.swap fun mf e => by obtain rfl := ss e; rfl) F N fun q hq r hr => ?_
      rcases List.mem_cons.mp hq with rfl | hq
      · exact Ne.symm (offm r (List.mem_append.mpr (.inr hr))).1
      · rcases List.mem_cons.mp hq with rfl | hq
        · exact Ne.symm (offm r (List.mem_append.mpr (.inr hr))).2.1
        · rcases List.mem_cons.mp hq with rfl | hq
          · exact Ne.symm (offm r (List.mem_append.mpr (.inr hr))).2.2
          · exact ap q hq r hr
    refine IH.ev _ _ _ _ e1 _ γ _ _ hG.comp (comp_fm hF x0.later hk hn hNs hm hv) S2 ⟨hR.d, hR.u⟩ _ _ ?_
    intro r τ hmem γ1 s1 x1 S1
    obtain ⟨y, rfl⟩ := allok r τ hmem
    intro y' hy
    refine x24 S1.core fun m1 H1 K1 F1 N1 ap1 => ?_
    have hm1 := K1.Ev.f m rfl
    rw [hm1] at K1 F1
    refine x12 ((h1 _ _ hmem).1 y rfl) fun o1 e2 sub => ?_
    refine x12 (bind_spec e2) fun l2 e3 h3 => ?_
    refine ⟨s1.heap, s1.toks, c.xt ++ (H1 ++ γ1.Z), ?_, F1, N1, LCg.Off3.of fun p hp => ?_, hSx _, ?_⟩
    · have := S1.sm; rw [this]
    · rcases List.mem_append.mp hp with hp | hp
      · exact offm p (List.mem_append.mpr (.inl hp))
      · exact ⟨Ne.symm (ap1 (I, oI) (.head _) p hp), Ne.symm (ap1 (Ca, oC) (.tail _ (.head _)) p hp), Ne.symm (ap1 (D, LCg.lst ys') (.tail _ (.tail _ (.head _))) p hp)⟩
    · refine comp_rest IH hG hR hF hk hn hmf hs hSx vs (i + 1) τ γ1 H1 (ys' ++ [y']) l2 e3 (x0.trans x1) (K1.swap hmf) (fun q hq r hr => ap1 q (.tail _ (.tail _ (.tail _ hq))) r hr) (fun j u hj hP => ?_) (fun zs τ' hz γ' H' zs' x' K' ap' hzs => ?_)
      · obtain ⟨su, g, hu⟩ := items (j + 1) u (Nat.succ_lt_succ hj) (by rwa [show i + (j + 1) = i + 1 + j by exact (Nat.succ_add_eq_add_succ _ _).symm])
        exact ⟨su, g, hu.later x1.later⟩
      · refine x12 ((h3 _ _ hz).1 zs rfl) fun o2 e4 sub2 => ?_
        obtain rfl := ss e4
        have := fin (y :: zs) τ' (sub _ (sub2 _ (.head _))) γ' H' (y' :: zs') (x1.trans x') K' ap' (.cons (hy.later x'.later) hzs)
        rwa [List.append_assoc]
end
end Mine
end
section
open PySem PySem.W PyProof.Rows PySem.Calls
set_option tactic.hygienic false
namespace Mine
noncomputable abbrev Cx.fix (c : Cx) (m : Str → Option Value) : Cx := { c with mf := some m }
section
variable {W : Wk} {n : Nat} {S : Sems} {C : Cfg} {c c' : Cx} {fm : Fm} {σ τ : St} {γ γ' : G} {s : Shared} {env : Env} {m : Str → Option Value} {H : List (Addr × Obj)} {Q : Value → Shared → Prop} {E : Value → Shared → Prop} {out : Out SV}
theorem SR.unfix (hmf : ∀ mf, c.mf = some mf → m = mf) (hS : W.SR (c.fix m) σ γ s) : W.SR c σ γ s := by
  refine x12 (hS.fr) fun m' F Ev => ?_
  have e := Ev.f m rfl
  exact ⟨hS.sm, ⟨m', F, Ev.r, fun mf h => e.trans (hmf mf h)⟩, hS.nw, hS.tz, hS.dm, hS.ou⟩
theorem Thrown.unfix {cc : Nat} {v : SV} {e : Value} (hmf : ∀ mf, c.mf = some mf → m = mf) (h : Thrown W (c.fix m) cc v γ σ e s) : Thrown W c cc v γ σ e s :=
  x13 h fun its f S ap => ⟨its, f, SR.unfix (c := c.more its) (m := m) hmf S, ap⟩
theorem FmOK.fix {k d : Nat} (hF : FmOK W c fm γ k d env) : FmOK W (c.fix m) fm γ k d env := ⟨hF.kind, hF.glob, hF.blt, hF.names, hF.cells, hF.tab, hF.fn, hF.comp, hF.dbg⟩
theorem Core.hole (K : Core W c σ γ m H) {j : Nat} {l : List SV} (hj : lkN j σ.heap = some (.list l)) (ap : ∀ q ∈ c.xt, ∀ r ∈ H ++ γ.Z, @Ne Nat q.1 r.1) {h : Heap} (N : News c.h₀ c.L h (c.xt ++ (H ++ γ.Z))) :
    ∃ vs k H', Core W c { σ with heap := ptN j .hole σ.heap } γ m H' ∧ VRs W.K γ σ.next σ.doms.length l vs ∧ j < σ.next ∧ (γ.ρ j, listOf vs.toArray k) ∈ H ∧ (∀ p ∈ H', p ∈ H) ∧ (∀ r ∈ H' ++ γ.Z, @Ne Nat (γ.ρ j) r.1) := by
  (refine x23 K.hH.append fun H₁ H₂ er2 hh hf => ?_; subst er2)
  obtain ⟨hn, pre, l0, post, rfl, ho, upd⟩ := hh.split hj
  (refine x22 ho.form fun vs k er2 hr => ?_; subst er2)
  have h1 := upd .hole [] .hole
  have nd := K.nd
  simp only [List.map_append, List.map_cons, List.map_nil, List.nodup_append, List.nodup_cons, List.append_assoc, List.mem_append, List.mem_map, List.mem_cons] at nd
  refine ⟨vs, k, (pre ++ ([] ++ post)) ++ H₂, ⟨⟨K.Ev.r, K.Ev.f⟩, h1.both hf, ?_, K.tz, K.dm, K.ou⟩, hr, hn, by simp, fun p hp => ?_, fun r hr' => ?_⟩
  · have := K.nd
    simp only [List.map_append, List.map_cons, List.map_nil, List.nodup_append, List.nodup_cons, List.append_assoc, List.nil_append, List.cons_append, List.mem_append, List.mem_cons] at this ⊢
    refine ⟨this.1, this.2.1.2, fun a ha b hb => this.2.2 a ha b (.inr hb)⟩
  · simp only [List.nil_append, List.mem_append] at hp
    simp only [List.mem_append, List.mem_cons, List.not_mem_nil, or_false]
    rcases hp with (hp | hp) | hp
    · exact .inl (.inl hp)
    · exact .inl (.inr (.inr hp))
    · exact .inr hp
  · refine Or.elim (List.mem_append.mp hr') (fun hr' => ?_) fun hr' => ?_
    · have := K.nd
      simp only [List.map_append, List.map_cons, List.map_nil, List.nodup_append, List.nodup_cons, List.append_assoc, List.nil_append, List.cons_append, List.mem_append, List.mem_cons, List.mem_map] at this
      simp only [List.nil_append, List.mem_append] at hr'
      rcases hr' with (hr' | hr') | hr'
      · exact Ne.symm (this.2.2 _ ⟨r, hr', rfl⟩ _ (.inl rfl))
      · intro e; exact this.2.1.1 (.inl ⟨r, hr', e.symm⟩)
      · intro e; exact this.2.1.1 (.inr ⟨r, hr', e.symm⟩)
    · intro e
      refine x21 (K.tz r hr') fun ws k' ht => ?_
      have a := (N r (by simp only [List.mem_append]; exact .inr (.inr hr'))).1
      have b := (N (γ.ρ j, listOf vs.toArray k) (by simp)).1
      rw [← e] at a
      have a' : h.get? (γ.ρ j) = some r.2 := a
      rw [b] at a'
      exact nt_list ws k' ((Option.some.inj a').trans ht)
theorem Core.unhole (K : Core W c σ γ m H) {j : Nat} {l : List SV} {vs : List Value} {k : Nat} (hj : lkN j σ.heap = some .hole) (hv : VRs W.K γ σ.next σ.doms.length l vs) (ne : ∀ r ∈ H, @Ne Nat (γ.ρ j) r.1) :
    ∃ H', Core W c { σ with heap := ptN j (.list l) σ.heap } γ m H' ∧ ∀ p ∈ H', p = (γ.ρ j, listOf vs.toArray k) ∨ p ∈ H := by
  (refine x23 K.hH.append fun H₁ H₂ er2 hh hf => ?_; subst er2)
  obtain ⟨hn, pre, l0, post, rfl, ho, upd⟩ := hh.split hj
  cases ho
  have h1 := upd (.list l) [(γ.ρ j, listOf vs.toArray k)] (.list hv)
  refine ⟨_, ⟨⟨K.Ev.r, K.Ev.f⟩, h1.both hf, ?_, K.tz, K.dm, K.ou⟩, fun p hp => ?_⟩
  · have := K.nd
    simp only [List.map_append, List.map_cons, List.map_nil, List.nodup_append, List.nodup_cons, List.append_assoc, List.nil_append, List.cons_append, List.mem_append, List.mem_cons, List.mem_map] at this ⊢
    refine ⟨this.1, ⟨?_, this.2.1⟩, fun a ha b hb => ?_⟩
    · rintro (⟨r, hr, e⟩ | ⟨r, hr, e⟩)
      · exact ne r (by simp [hr]) e.symm
      · exact ne r (by simp [hr]) e.symm
    · rcases hb with rfl | hb
      · refine x12 ha fun r hr er2 => ?_; subst er2
        exact Ne.symm (ne r (by simp [hr]))
      · exact this.2.2 a ha b hb
  · simp only [List.mem_append, List.mem_cons, List.not_mem_nil, or_false] at hp
    simp only [List.nil_append, List.mem_append]
    rcases hp with (hp | hp | hp) | hp
    · exact .inr (.inl (.inl hp))
    · exact .inl hp
    · exact .inr (.inl (.inr hp))
    · exact .inr (.inr hp)
end
end Mine
end
section
open PySem PySem.W PyProof.Rows PySem.Calls
set_option tactic.hygienic false
namespace Mine
section
variable {W : Wk} {n : Nat} {S : Sems} {C : Cfg} {c c' : Cx} {fm : Fm} {σ τ : St} {γ γ' : G} {s : Shared} {env : Env} {m : Str → Option Value} {H : List (Addr × Obj)} {Q : Value → Shared → Prop} {E : Value → Shared → Prop} {out : Out SV}
theorem hs_of (hS : W.SR c σ γ s) : ∀ h tk, ({ s with heap := h, toks := tk } : Shared) = { c.s₀ with heap := h, toks := tk } := fun h tk => hS.sm' (h := h) (tk := tk)
theorem guardC_some {x : Str} {names : List (Str × NameKind)} {k : Fm → St → R SV} (h : (guardC x names k).run fm σ = some out) : lkS x names = some .local ∧ compNames names fm names = true ∧ fm.cv = none ∧ k fm σ = some out := by
  refine x02 (bm h) fun q1 h1 => ?_
  refine x02 (bm h1) fun q2 h2 => ?_
  refine x02 (bm h2) fun q3 h3 => ?_
  exact ⟨isLocalK_ok q1, q2, noneB_eq q3, h3⟩
theorem plainSc_ok {sc : Scope} (h : plainSc sc = true) : sc.kind = .function ∧ sc.isGenerator = false ∧ sc.isCoroutine = false := by
  refine x02 (am h) fun q1 h1 => ?_
  refine x02 (am h1) fun q2 q3 => ?_
  refine ⟨?_, notm q2, notm q3⟩
  generalize sc.kind = k at q1
  cases k <;> first | rfl | exact tf q1
theorem compH_some {elt : PySem.Expr} {x : Str} {names : List (Str × NameKind)} {v : SV} {out : Out SV} (h : (Option.bind (srcH v τ) fun p => compH S fm x elt names p.1 p.2 τ) = some out) :
    ∃ j l, v = .obj j ∧ lkN j τ.heap = some (.list l) ∧ small l = true ∧ bindR (compI S { fm with names := relab fm.names names } x elt l { τ with heap := ptN j .hole τ.heap }) (fun ys τ' => backL j l ys τ') = some out := by
  refine x12 (om h) fun p h1 h2 => ?_
  refine x12 (om h1) fun j h3 h4 => ?_
  refine x12 (om h4) fun l h5 h6 => ?_
  obtain rfl := ss h6
  refine x02 (bm h2) fun b h7 => ?_
  exact ⟨j, l, objOf_some h3, asList_some h5, b, h7⟩
theorem backL_some {j : Nat} {l ys : List SV} {out : Out SV} (h : backL j l ys σ = some out) : lkN j σ.heap = some .hole ∧ newR (.list ys) { σ with heap := ptN j (.list l) σ.heap } = some out := by
  refine x02 (bm h) fun b h1 => ?_
  exact ⟨isHole_some b, (newL_some h1).2⟩
theorem compNames_cell {all : List (Str × NameKind)} {names : List (Str × NameKind)} (h : compNames all fm names = true) : ∀ y ∈ names, y.2 ≠ .cell := fun y hy e => by
  rcases (compNames_ok h y hy).2 with q | ⟨q, _⟩ | ⟨q, _⟩ <;> replace q := e ▸ q <;> cases q
theorem compNames_free {all : List (Str × NameKind)} {names : List (Str × NameKind)} (h : compNames all fm names = true) : ∀ x, (x, NameKind.free) ∈ names → fromCells fm x = true := fun y hy => by
  refine Or.elim ((compNames_ok h _ hy).2) (fun q => ?_) fun oo => Or.elim oo (fun qq => x02 qq fun q _ => ?_) fun qq => x02 qq fun _ q => ?_
  · cases q
  · cases q
  · exact q
theorem compNames_local {all : List (Str × NameKind)} {names : List (Str × NameKind)} (h : compNames all fm names = true) : ∀ y ∈ names, y.2 = .local → all.lookup y.1 = some .local := fun y hy e => by
  rcases (compNames_ok h y hy).2 with q | ⟨_, q⟩ | ⟨q, _⟩
  · replace q := e ▸ q; cases q
  · rw [← lkS_lookup]; exact q
  · replace q := e ▸ q; cases q
theorem off1_mem {D : Addr} : ∀ {l : List (Addr × Obj)}, LCg.Off1 D l → ∀ p ∈ l, p.1 ≠ D
  | [], _, _, h => nomatch h
  | _ :: _, x, p, h => by
    rcases List.mem_cons.mp h with rfl | h
    · exact x.1
    · exact off1_mem x.2 p h
theorem comp_done {D : Addr} {h : Heap} {tk : Nat} {zs : List SV} {zs' : List Value} (K : Core W c τ γ' m H) (F : Fr c.h₀ c.L h m) (N : News c.h₀ c.L h ((D, LCg.lst zs') :: (c.xt ++ (H ++ γ'.Z)))) (ap : ∀ q ∈ c.xt, ∀ r ∈ H ++ γ'.Z, @Ne Nat q.1 r.1) (off : ∀ p ∈ c.xt ++ (H ++ γ'.Z), p.1 ≠ D)
    (hz : VRs W.K γ' τ.next τ.doms.length zs zs') (x : Ext σ γ γ' τ) (P : Post W c out σ γ (VRel W) Q E) (hm : (Res.ok (SV.obj τ.next), τ.new (.list zs)) ∈ out) : Q (.ref D) { c.s₀ with heap := h, toks := tk } := by
  have S3 : W.SR c τ γ' { c.s₀ with heap := h, toks := tk } := K.sr F (fun p hp => N p (.tail _ hp)) ap
  have ho : OR W.prog W.w W.K γ' τ.next τ.doms.length D (.list zs) [(D, LCg.lst zs')] := .list hz
  have S4 := S3.alloc (h' := h) (tk := tk) (a := D) (l := [(D, LCg.lst zs')]) (o := .list zs) K.Ev K.hH K.nd ap F (fun p hp => by
      refine Or.elim (List.mem_append.mp hp) (fun hp => ?_) fun hp => ?_
      · exact N p (by rw [List.mem_singleton.mp hp]; exact .head _)
      · exact N p (.tail _ hp)) ho (fun p hp q hq => by rw [List.mem_singleton.mp hq]; exact off p hp) (by simp)
  refine P (.ok (.obj τ.next)) _ hm _ _ (x.trans ext_new) S4 _ ?_
  have q : VR W.K (γ'.at τ.next D) (τ.next + 1) τ.doms.length (.obj τ.next) (.ref ((γ'.at τ.next D).ρ τ.next)) := .obj (Nat.lt_succ_self _)
  have e : (γ'.at τ.next D).ρ τ.next = D := if_pos rfl
  replace q := e ▸ q; exact q
theorem evCompList_ok (IH : SemsOK W n S) (hG : Good W c) (hR : Room n c) {elt iter : PySem.Expr} {x : Str} {px pos : Pos} {sc : Scope} (hsc : plainSc sc = true) (hset : notSet iter = true) (hx : lkS x sc.names = some .local) (hn : compNames sc.names fm sc.names = true)
    (h : evCompList S fm elt x iter sc.names σ = some out) (hF : FmOK W c fm γ σ.next σ.doms.length env) (hS : W.SR c σ γ s) (P : Post W c out σ γ (VRel W) Q E) : wpAny (model W.prog W.w) c.A (eval (.ListComp elt [⟨.Name x px, iter, [], .ofNat 0⟩] sc pos) env) Q E s := by
  refine x03 (plainSc_ok hsc) fun hk _ _ => ?_
  refine x24 hS.core fun m H K F N ap => ?_
  have hmf := K.Ev.f
  have hsm := hs_of hS
  refine x12 (bind_spec h) fun l1 e1 h1 => ?_
  have S0 : W.SR (c.fix m) σ γ s := ⟨hS.sm, ⟨m, F, K.Ev.r, fun mf e => by obtain rfl := ss e; rfl⟩, hS.nw, hS.tz, hS.dm, hS.ou⟩
  refine LCg.ListComp_U (m := m) (cl := closOf (fun y => (((lkS y fm.cells).map γ.ρ).getD 0)) sc.names []) F (clos_ok hF (compNames_free hn)) (compNames_cell hn) hk (compNames_local hn) (by rw [← lkS_lookup]; exact hx) ?_ (fun y => by cases iter <;> first | rfl | exact tf hset)
  refine IH.ev _ _ _ _ e1 (c.fix m) γ s env ⟨hG.X, hG.T, hG.k, hG.tb, hG.ex⟩ hF.fix S0 ⟨hR.d, hR.u⟩ _ _ ?_
  intro r τ hm γ1 s1 x1 S1
  cases r with
  | ex cc v => exact fun e h => P _ _ ((h1 _ _ hm).2 cc v rfl) γ1 s1 x1 (S1.unfix hmf) e (h.unfix hmf)
  | ok v =>
    intro v' hv
    refine x12 ((h1 _ _ hm).1 v rfl) fun o1 e2 sub => ?_
    refine x24 S1.core fun m1 H1 K1 F1 N1 ap1 => ?_
    have hm1 := K1.Ev.f m rfl
    rw [hm1] at K1 F1
    refine x24 (compH_some e2) fun j l er2 hj hsz e5 => ?_; subst er2
    refine x02 hv.view fun er0 hjn => ?_; subst er0
    refine x12 (bind_spec e5) fun l2 e3 h3 => ?_
    refine x36 (K1.hole hj ap1 N1) fun vs k H2 K2 hvs _ hmem hsub hap => ?_
    let c1 : Cx := { c with xt := (γ1.ρ j, listOf vs.toArray k) :: c.xt }
    have hG1 : Good W c1 := ⟨hG.X, hG.T, hG.k, hG.tb, hG.ex⟩
    have hF1 : FmOK W c1 fm γ σ.next σ.doms.length env := ⟨hF.kind, hF.glob, hF.blt, hF.names, hF.cells, hF.tab, hF.fn, fun p e => by refine x32 (hF.comp p e) fun oC m₂ v' a1 a2 => ?_; exact ⟨oC, m₂, v', .tail _ a1, a2⟩, hF.dbg⟩
    have apx : ∀ q ∈ c1.xt, ∀ r ∈ H2 ++ γ1.Z, @Ne Nat q.1 r.1 := fun q hq r hr => by
      rcases List.mem_cons.mp hq with rfl | hq
      · exact hap r hr
      · refine ap1 q hq r ?_
        rcases List.mem_append.mp hr with hr | hr
        · exact List.mem_append.mpr (.inl (hsub _ hr))
        · exact List.mem_append.mpr (.inr hr)
    have N2 : News c.h₀ c.L s1.heap (c1.xt ++ (H2 ++ γ1.Z)) := fun p hp => N1 p (by
      simp only [c1, List.cons_append, List.mem_cons, List.mem_append] at hp ⊢
      rcases hp with rfl | hp | hp | hp
      · exact .inr (.inl hmem)
      · exact .inl hp
      · exact .inr (.inl (hsub _ hp))
      · exact .inr (.inr hp))
    have hxl : ∀ (q : Addr × Obj), q ∈ c.xt → @Ne Nat (γ1.ρ j) q.1 := fun q hq => Ne.symm (ap1 q hq _ (List.mem_append.mpr (.inl hmem)))
    have hlen := hvs.len
    refine LCg.CompSrc.ledger (k := k) rfl F1 N2 (.head _) (by rw [List.size_toArray, hlen]; have := small_le hsz; skip; exact Nat.le_trans (by assumption) (by decide)) fun g => ?_
    have hs1 : ∀ h tk, ({ ({ s1 with heap := g } : Shared) with heap := h, toks := tk } : Shared) = { c.s₀ with heap := h, toks := tk } := fun h tk => (hs_of S1 h tk : ({ s1 with heap := h, toks := tk } : Shared) = { c.s₀ with heap := h, toks := tk })
    have eqn : vs.toArray.size = l.length := by rw [List.size_toArray, hlen]
    rw [eqn]
    have jlt : j < τ.next := hjn
    refine comp_rest (c := c1) (σ₀ := σ) (γ₀ := γ) IH hG1 ⟨hR.d, hR.u⟩ hF1 hk hn (fun mf e => hmf mf e) hs1 (Sx := _) (fun rest => ?_) l 0 { τ with heap := ptN j .hole τ.heap } γ1 H2 [] l2 e3 (x1.trans ext_put) (K2.swap fun mf e => hmf mf e) apx (fun i v hi hP => ?_) (fun zs τ' hz γ' H' zs' x' K' ap' hzs => ?_)
    · exact .inr ⟨_, .head _, rfl, _, rfl⟩
    · have e : getAt i l = some (l[i]) := by rw [getAt_eq]; exact List.getElem?_eq_getElem hi
      refine x12 (hvs.at e) fun v2 g1 g2 => ?_
      have hP' : vs[i]? = some v := by simpa using hP
      rw [g1] at hP'
      obtain rfl := ss hP'
      exact ⟨_, e, g2⟩
    · intro D h tk F' N' off
      refine x12 ((h3 _ _ hz).1 zs rfl) fun o2 e4 sub2 => ?_
      refine x02 (backL_some e4) fun hj' e6 => ?_
      have hρ : γ'.ρ j = γ1.ρ j := x'.ρ j jlt
      obtain ⟨H3, K3, sub3⟩ := (K'.swap (c' := c) fun mf e => hmf mf e).unhole (k := k) hj' (hvs.later x'.later) (fun r hr => by rw [hρ]; exact ap' _ (.head _) r (List.mem_append.mpr (.inl hr)))
      have inN : ∀ p ∈ c.xt ++ (H3 ++ γ'.Z), p ∈ c1.xt ++ (H' ++ γ'.Z) := fun p hp => by
        simp only [c1, List.cons_append, List.mem_cons, List.mem_append] at hp ⊢
        rcases hp with hp | hp | hp
        · exact .inr (.inl hp)
        · rcases sub3 p hp with rfl | hp
          · exact .inl (by rw [hρ])
          · exact .inr (.inr (.inl hp))
        · exact .inr (.inr (.inr hp))
      have ap3 : ∀ q ∈ c.xt, ∀ r ∈ H3 ++ γ'.Z, @Ne Nat q.1 r.1 := fun q hq r hr => by
        refine Or.elim (List.mem_append.mp hr) (fun hr => ?_) fun hr => ?_
        · rcases sub3 r hr with rfl | hr
          · rw [hρ]; exact Ne.symm (hxl q hq)
          · exact ap' q (.tail _ hq) r (List.mem_append.mpr (.inl hr))
        · exact ap' q (.tail _ hq) r (List.mem_append.mpr (.inr hr))
      show Q (.ref D) ({ s1 with heap := h, toks := tk } : Shared)
      rw [hs_of S1]
      exact comp_done (c := c) (τ := { τ' with heap := ptN j (.list l) τ'.heap }) K3 F' (fun p hp => (List.mem_cons.mp hp).elim (fun e => N' p (by rw [e]; exact .head _)) fun hp => N' p (.tail _ (inN p hp))) ap3 (fun p hp => off1_mem off p (inN p hp)) hzs ((x1.trans ext_put).trans (x'.trans ext_put)) P (sub _ (sub2 _ (by obtain rfl := ss e6; exact .head _)))
end
end Mine
end
section
open PySem PySem.W PyProof.Rows PySem.Calls
set_option tactic.hygienic false
namespace Mine
theorem upTo_spec : ∀ (n : Nat) (l : List SV), (upTo n l).length = n + l.length ∧ (∀ i, i < n → getAt i (upTo n l) = some (.int (.ofNat i))) ∧ ∀ i, n ≤ i → getAt i (upTo n l) = getAt (i - n) l
  | 0, l => ⟨by simp [upTo], fun i h => absurd h (Nat.not_lt_zero _), fun i _ => by rfl⟩
  | n + 1, l => by
    refine x03 (upTo_spec n (.int (.ofNat n) :: l)) fun h1 h2 h3 => ?_
    refine ⟨by simp only [upTo, h1, List.length_cons]; exact (Nat.succ_add_eq_add_succ _ _).symm, fun i hi => ?_, fun i hi => ?_⟩
    · simp only [upTo]
      by_cases q : i < n
      · exact h2 i q
      · obtain rfl : i = n := by omega
        rw [h3 i (Nat.le_refl _), Nat.sub_self]; rfl
    · simp only [upTo]
      rw [h3 i (by exact Nat.le_of_succ_le (by assumption))]
      obtain ⟨k, hk⟩ : ∃ k, i - n = k + 1 := ⟨i - n - 1, by omega⟩
      rw [hk, show i - (n + 1) = k by omega]; rfl
section
variable {W : Wk} {n : Nat} {S : Sems} {C : Cfg} {c c' : Cx} {fm : Fm} {σ τ : St} {γ γ' : G} {s : Shared} {env : Env} {m : Str → Option Value} {H : List (Addr × Obj)} {Q : Value → Shared → Prop} {E : Value → Shared → Prop} {out : Out SV}
set_option tactic.hygienic true in
theorem isRangeFn_some {o : Option SV} (h : isRangeFn o = true) : o = some (.fn .range) := by
  cases o with
  | none => exact tf h
  | some v =>
    cases v <;> try (exact tf h; done)
    rename_i f
    cases f <;> first | rfl | exact tf h
theorem compR_some {elt : PySem.Expr} {x : Str} {names : List (Str × NameKind)} {v : SV} {out : Out SV} (h : compR S fm elt x names v τ = some out) :
    ∃ k, v = .int (.ofNat k) ∧ small (upTo k []) = true ∧ bindR (compI S { fm with names := relab fm.names names } x elt (upTo k []) τ) (fun ys τ' => newL ys τ') = some out := by
  refine x12 (om h) fun k h1 h2 => ?_
  refine x02 (bm h2) fun b h3 => ?_
  exact ⟨k, natOf_some h1, b, h3⟩
theorem evCompRange_ok (GO : GlobOK W C) (IH : SemsOK W n S) (hG : Good W c) (hR : Room n c) {elt a : PySem.Expr} {x f : Str} {px pos fp rp : Pos} {sc : Scope} (hsc : plainSc sc = true) (hx : lkS x sc.names = some .local) (hn : compNames sc.names fm sc.names = true)
    (h : evCompRange C S fm elt x f a sc.names σ = some out) (hF : FmOK W c fm γ σ.next σ.doms.length env) (hS : W.SR c σ γ s) (P : Post W c out σ γ (VRel W) Q E) : wpAny (model W.prog W.w) c.A (eval (.ListComp elt [⟨.Name x px, .Call (.Name f fp) [a] [] rp, [], .ofNat 0⟩] sc pos) env) Q E s := by
  refine x03 (plainSc_ok hsc) fun hk _ _ => ?_
  refine x24 hS.core fun m H K F N ap => ?_
  have hmf := K.Ev.f
  have hsm := hs_of hS
  refine x02 (bm h) fun hrn h9 => ?_
  have hrn := isRangeFn_some hrn
  refine x12 (bind_spec h9) fun l1 e1 h1 => ?_
  have S0 : W.SR (c.fix m) σ γ s := ⟨hS.sm, ⟨m, F, K.Ev.r, fun mf e => by obtain rfl := ss e; rfl⟩, hS.nw, hS.tz, hS.dm, hS.ou⟩
  have hG0 : Good W (c.fix m) := ⟨hG.X, hG.T, hG.k, hG.tb, hG.ex⟩
  refine LCg.ListComp_U (m := m) (cl := closOf (fun y => (((lkS y fm.cells).map γ.ρ).getD 0)) sc.names []) F (clos_ok hF (compNames_free hn)) (compNames_cell hn) hk (compNames_local hn) (by rw [← lkS_lookup]; exact hx) ?_ (fun y => rfl)
  refine Call_ (name_ok (c := c.fix m) GO hG0 hF.fix S0 hrn fun v' hv => ?_)
  cases hv
  have hst : notStar a = true := by
    cases a <;> first | rfl | (rw [IH.ns] at e1; exact ns e1)
  refine callWith_any (Pr := fun _ => True) (k := 1) (by simp only [plainArgs, hst]) (fun h _ => kept_type (M := model W.prog W.w) (h := h) (i := "range")) ?_
  refine args_cons ?_ (star_ok hst)
  refine IH.ev _ _ _ _ e1 (c.fix m) γ s env hG0 hF.fix S0 ⟨hR.d, hR.u⟩ _ _ ?_
  intro r τ hm γ1 s1 x1 S1
  cases r with
  | ex cc v => exact fun e h => P _ _ ((h1 _ _ hm).2 cc v rfl) γ1 s1 x1 (S1.unfix hmf) e (h.unfix hmf)
  | ok v =>
    intro v' hv
    refine args_nil ⟨trivial, ?_⟩
    refine x12 ((h1 _ _ hm).1 v rfl) fun o1 e2 sub => ?_
    refine x24 S1.core fun m1 H1 K1 F1 N1 ap1 => ?_
    have hm1 := K1.Ev.f m rfl
    rw [hm1] at K1 F1
    refine x13 (compR_some e2) fun k er1 hsz e5 => ?_; subst er1
    refine x11 hv.view fun t er1 => ?_; subst er1
    refine x12 (bind_spec e5) fun l2 e3 h3 => ?_
    refine x03 (upTo_spec k []) fun u1 u2 _ => ?_
    have hle : k ≤ 900 := by have := small_le hsz; rw [u1] at this; exact this
    refine call_range_1 ?_
    have up : ∀ (b : Addr) (o : Obj), s1.heap.get? b = some o → (s1.heap.push { cls := .type "range", data := .fields #[.int 0 s1.toks, .int (Int.ofNat k) t, .int 1 (s1.toks + 1)] }).get? b = some o := fun b o e => Heap.get?_push_of_some _ e
    have hrs : Builtin.Range.rangeSize 0 (Int.ofNat k) 1 = ((k : Nat) : Int) := by
      rw [rangeSize_one]
      simp only [Int.ofNat_eq_natCast]
      by_cases q : (k : Int) > 0
      · rw [if_pos q]; exact Int.sub_zero _
      · rw [if_neg q]; omega
    refine LCg.CompSrc.range (a := 0) (b := Int.ofNat k) rfl (F1.keeps up) (N1.grown up) (IsRange.new ..) (small_one (by decide) (by decide) (by skip; exact ip (by decide)) (by skip; exact io (by assumption) (by decide))) hrs (by skip; exact Nat.le_trans (by assumption) (by decide)) fun g => ?_
    have hs1 : ∀ g2 tk0 h tk, ({ ({ ({ s1 with heap := g2, toks := tk0 } : Shared) with heap := g } : Shared) with heap := h, toks := tk } : Shared) = { c.s₀ with heap := h, toks := tk } := fun _ _ h tk => (hs_of S1 h tk : ({ s1 with heap := h, toks := tk } : Shared) = { c.s₀ with heap := h, toks := tk })
    have eqn : k = (upTo k []).length := by rw [u1]; rfl
    rw [show LCg.CompRest W.prog W.w c.A c.h₀ c.L m env elt x sc (closOf (fun y => (((lkS y fm.cells).map γ.ρ).getD 0)) sc.names []) _ (fun _ => True) _ _ k 0 [] _ = LCg.CompRest W.prog W.w c.A c.h₀ c.L m env elt x sc (closOf (fun y => (((lkS y fm.cells).map γ.ρ).getD 0)) sc.names []) _ (fun _ => True) _ _ (upTo k []).length 0 [] _ from by rw [← eqn]]
    refine comp_rest (c := c) (σ₀ := σ) (γ₀ := γ) IH hG hR hF hk hn (fun mf e => hmf mf e) (hs1 _ _) (Sx := _) (fun rest => trivial) (upTo k []) 0 τ γ1 H1 [] l2 e3 x1 (K1.swap fun mf e => hmf mf e) ap1 (fun i v hi hP => ?_) (fun zs τ' hz γ' H' zs' x' K' ap' hzs => ?_)
    · refine x11 hP fun t' er1 => ?_; subst er1
      refine ⟨_, u2 i (by rw [← eqn] at hi; exact hi), ?_⟩
      have : (0 : Int) + ((0 + i : Nat) : Int) = Int.ofNat i := by simp
      rw [this]
      exact .int _ _
    · intro D h tk F' N' off
      refine x12 ((h3 _ _ hz).1 zs rfl) fun o2 e4 sub2 => ?_
      refine x02 (newL_some e4) fun _ e6 => ?_
      show Q (.ref D) ({ s1 with heap := h, toks := tk } : Shared)
      rw [hs_of S1]
      exact comp_done (c := c) (K'.swap (c' := c) fun mf e => hmf mf e) F' N' ap' (fun p hp => off1_mem off p hp) hzs (x1.trans x') P (sub _ (sub2 _ (by obtain rfl := ss e6; exact .head _)))
end
end Mine
end
section
open PySem PySem.W PyProof.Rows PySem.Calls
set_option tactic.hygienic false
namespace Mine
theorem updF_of {d : Addr} {o : Obj} : ∀ {pre post : List (Addr × Obj)}, (∀ p ∈ pre, p.1 ≠ d) → (∀ p ∈ post, p.1 ≠ d) → UpdF d o (pre ++ (d, o) :: post) (fun o' => pre ++ (d, o') :: post)
  | [], post, _, h => .head h
  | p :: pre, post, h1, h2 => .tail (h1 p (.head _)) (updF_of (fun q hq => h1 q (.tail _ hq)) h2)
section
variable {W : Wk} {n : Nat} {S : Sems} {C : Cfg} {c c' : Cx} {fm : Fm} {σ τ : St} {γ γ' : G} {s : Shared} {env : Env} {m : Str → Option Value} {H : List (Addr × Obj)} {Q : Value → Shared → Prop} {E : Value → Shared → Prop} {out : Out SV}
theorem Core.put (K : Core W c σ γ m H) {j : Nat} {o : MO} (hj : lkN j σ.heap = some o) : ∃ A l B, H = A ++ (l ++ B) ∧ j < σ.next ∧ OR W.prog W.w W.K γ σ.next σ.doms.length (γ.ρ j) o l ∧
    ∀ o' l', OR W.prog W.w W.K γ σ.next σ.doms.length (γ.ρ j) o' l' → l'.map (·.1) = l.map (·.1) → Core W c { σ with heap := ptN j o' σ.heap } γ m (A ++ (l' ++ B)) := by
  (refine x23 K.hH.append fun H₁ H₂ er2 hh hf => ?_; subst er2)
  obtain ⟨hn, pre, l, post, rfl, ho, upd⟩ := hh.split hj
  refine ⟨pre, l, post ++ H₂, by simp only [List.append_assoc], hn, ho, fun o' l' h1 h2 => ⟨⟨K.Ev.r, K.Ev.f⟩, ?_, ?_, K.tz, K.dm, K.ou⟩⟩
  · have := (upd o' l' h1).both hf
    simpa only [List.append_assoc] using this
  · have := K.nd
    simp only [List.map_append, List.append_assoc] at this ⊢
    rw [h2]; exact this
theorem Core.new (K : Core W c σ γ m H) {a : Addr} {o : MO} {l : List (Addr × Obj)} (ho : OR W.prog W.w W.K γ σ.next σ.doms.length a o l) (fresh : ∀ p ∈ H, ∀ q ∈ l, @Ne Nat p.1 q.1) (ndl : (l.map (·.1)).Nodup) : Core W c (σ.new o) (γ.at σ.next a) m (l ++ H) := by
  refine ⟨K.Ev.later later_at, ?_, ?_, K.tz, K.dm, K.ou.later (d := 0) (d' := 0) later_at⟩
  · refine HR.cons (Nat.lt_succ_self _) ?_ (K.hH.later later_at)
    show OR W.prog W.w W.K (γ.at σ.next a) (σ.next + 1) _ (if σ.next = σ.next then a else γ.ρ σ.next) o l
    rw [if_pos rfl]
    exact ho.later later_at
  · rw [List.map_append, List.nodup_append]
    refine ⟨ndl, K.nd, fun x hx y hy => ?_⟩
    refine x12 (List.mem_map.mp hx) fun q hq er2 => ?_; subst er2
    refine x12 (List.mem_map.mp hy) fun p hp er2 => ?_; subst er2
    exact Ne.symm (fresh p hp q hq)
theorem lamNames_ok : ∀ {names : List (Str × NameKind)}, lamNames fm names = true → ∀ p ∈ names, goodName p.1 = true ∧ (p.2 = .globalImplicit ∨ (p.2 = .free ∧ fromCells fm p.1 = true))
  | [], _, p, hp => by cases hp
  | (y, k) :: r, h, p, hp => by
    refine x02 (am h) fun g h1 => ?_
    refine x02 (am h1) fun q h2 => ?_
    rcases List.mem_cons.mp hp with rfl | hp
    · refine ⟨g, ?_⟩
      cases k <;> first | exact .inl rfl | exact .inr ⟨rfl, q⟩ | exact tf q
    · exact lamNames_ok h2 p hp
theorem noParams_ok {ps : Arguments} (h : noParams ps = true) : ps = noArgs := by
  refine x02 (am h) fun h1 h => ?_
  refine x02 (am h) fun h2 h => ?_
  refine x02 (am h) fun h3 h => ?_
  refine x02 (am h) fun h4 h => ?_
  refine x02 (am h) fun h5 h => ?_
  refine x02 (am h) fun h6 h7 => ?_
  cases ps
  rw [noArgs]
  congr 1
  · exact isNil_eq h1
  · exact isNil_eq h2
  · exact noneB_eq h3
  · exact isNil_eq h4
  · exact isNil_eq h5
  · exact noneB_eq h6
  · exact isNil_eq h7
theorem lamR_some {body : PySem.Expr} {names : List (Str × NameKind)} (h : lamR body names fm σ = some out) : ∃ j, fm.cv = none ∧ lamNames fm names = true ∧ fm.tab = some j ∧ lkN j σ.heap = some (.tab true) ∧ newR (.lam body names fm.cells) { σ with heap := ptN j (.tab false) σ.heap } = some out := by
  refine x02 (bm h) fun q1 h1 => ?_
  refine x02 (bm h1) fun q2 h2 => ?_
  refine x12 (om h2) fun j q3 h3 => ?_
  refine x02 (bm h3) fun q4 h4 => ?_
  refine x12 (om h4) fun τ q5 h5 => ?_
  (refine x12 (put_some q5) fun _ _ er2 => ?_; subst er2)
  exact ⟨j, noneB_eq q1, q2, q3, isTab_some q4, h5⟩
theorem scope_eta {sc : Scope} (h : plainSc sc = true) : sc = lamScope sc.names sc.more := by
  refine x03 (plainSc_ok h) fun a b d => ?_
  cases sc
  simp only at a b d
  subst a b d
  rfl
theorem evLam_ok (hG : Good W c) {ps : Arguments} {body : PySem.Expr} {sc : Scope} {pos : Pos} (h : (evLam ps body sc).run fm σ = some out) (hF : FmOK W c fm γ σ.next σ.doms.length env) (hS : W.SR c σ γ s) (P : Post W c out σ γ (VRel W) Q E) :
    wpAny (model W.prog W.w) c.A (eval (.Lambda ps body sc pos) env) Q E s := by
  refine x02 (em h) fun hp h2 => ?_
  refine x02 (em h2) fun hsc h3 => ?_
  obtain rfl := noParams_ok hp
  refine x15 (lamR_some h3) fun j hcv hn htab hj h9 => ?_
  have henv := hF.fn hcv
  subst henv
  obtain ⟨hjn, cc, hcc, hhd⟩ := hF.tab j htab
  refine x24 hS.core fun m H K F N ap => ?_
  (refine x34 (K.put hj) fun A l B er3 _ ho upd => ?_; subst er3)
  (refine x12 ho.form fun ps er1 hps => ?_; subst er1)
  have := hps rfl; subst this
  have hcl := clos_ok hF (sc := sc) (fun x hx => by
    rcases (lamNames_ok hn _ hx).2 with q | ⟨_, q⟩
    · cases q
    · exact q)
  have ntab : NT (tabObj #[]) := nt_of fun vs k => .inl (by simp)
  refine x02 (hS.apart (H := A ++ ([(γ.ρ j, tabObj #[])] ++ B)) (pre := A) (l := [(γ.ρ j, tabObj #[])]) (post := B) rfl N K.nd ap (List.mem_singleton.mpr rfl) ntab) fun d1 d2 => ?_
  have N2 : News c.h₀ c.L s.heap ((c.xt ++ A) ++ (γ.ρ j, tabObj #[]) :: (B ++ γ.Z)) := fun p hp => N p (by simpa only [List.append_assoc, List.cons_append, List.nil_append] using hp)
  refine kla_eval rfl (kla_nest F N2 hG.T hhd hcc (updF_of d1 d2) trivial rfl hcl fun f c' oc vs t ctv h' tk F' N' hd hv fr1 fr2 => ?_)
  have K1 := upd (.tab false) [(γ.ρ j, tabObj (#[] ++ #[rawInt pos.line, rawInt pos.col, .ref c']))] (.tab fun e => by exact tf e) rfl
  have hlt : ∀ p ∈ c.xt ++ (A ++ ([(γ.ρ j, tabObj (#[] ++ #[rawInt pos.line, rawInt pos.col, .ref c']))] ++ B) ++ γ.Z), p.1 < c' := fun p hp => by
    simp only [List.mem_append, List.mem_cons, List.not_mem_nil, or_false] at hp
    rcases hp with hp | ((hp | hp | hp)) | hp
    · exact fr1 p (by simp [hp])
    · exact fr1 p (by simp [hp])
    · rw [hp]; exact fr1 (γ.ρ j, tabObj #[]) (by simp)
    · exact fr1 p (by simp [hp])
    · exact fr1 p (by simp [hp])
  have ol : OR W.prog W.w W.K γ σ.next σ.doms.length f (.lam body sc.names fm.cells) [(f, kla_obj "<lambda>" (c.env.qual ++ "<lambda>") noArgs body (lamScope sc.names sc.more) (closOf (fun y => (((lkS y fm.cells).map γ.ρ).getD 0)) sc.names []) ((W.mg "__name__").getD .none) c' ctv), (c', oc)] := by
    refine .lam (fun x i e q => ?_) (fun x hx => ⟨fun e => ?_, (lamNames_ok hn _ hx).1⟩) hd hv
    · have hm := lkS_mem q
      have hc : fromCells fm x = true := by
        refine Or.elim ((lamNames_ok hn _ hm).2) (fun q => ?_) fun qq => x02 qq fun _ q => ?_
        · cases q
        · exact q
      exact ⟨closOf_lookup (fun b hb => by exact ns hb) (.inr hm) (by simp [e]), (hF.cells x i e (fromCells_ok hc).1).2⟩
    · rcases (lamNames_ok hn _ hx).2 with q | ⟨q, _⟩ <;> replace q := e ▸ q <;> cases q
  have K2 := K1.new (a := f) (o := .lam body sc.names fm.cells) ol (fun p hp q hq => by
    have lp := hlt p (by simp only [List.mem_append] at hp ⊢; exact .inr (.inl hp))
    rcases List.mem_cons.mp hq with rfl | hq
    · exact Nat.ne_of_lt (Nat.lt_trans lp fr2)
    · rw [List.mem_singleton.mp hq]; exact Nat.ne_of_lt lp) (by
      simp only [List.map_cons, List.map_nil, List.nodup_cons, List.mem_singleton, List.not_mem_nil, not_false_eq_true, List.nodup_nil, and_true]
      exact Nat.ne_of_gt fr2)
  have S2 := K2.sr (h := h') (tk := tk) F' (fun p hp => N' p (by
    rw [scope_eta hsc]
    simp only [List.mem_append, List.mem_cons, List.not_mem_nil, or_false] at hp ⊢
    rcases hp with hp | ((hp | hp) | (hp | hp | hp)) | hp
    · exact .inr (.inr (.inl (.inl hp)))
    · exact .inl hp
    · exact .inr (.inl hp)
    · exact .inr (.inr (.inl (.inr hp)))
    · exact .inr (.inr (.inr (.inl hp)))
    · exact .inr (.inr (.inr (.inr (.inl hp))))
    · exact .inr (.inr (.inr (.inr (.inr hp)))))) (fun q hq r hr => by
    have lq := fr1 q (by simp [hq])
    simp only [List.mem_append, List.mem_cons, List.not_mem_nil, or_false] at hr
    rcases hr with (hr | hr) | hr
    · rcases hr with rfl | rfl
      · exact Nat.ne_of_lt (Nat.lt_trans lq fr2)
      · exact Nat.ne_of_lt lq
    · refine Or.elim hr (fun hr => ?_) fun oo => Or.elim oo (fun hr => ?_) fun hr => ?_
      · exact ap q hq r (by simp [hr])
      · rw [hr]; exact ap q hq (γ.ρ j, tabObj #[]) (by simp)
      · exact ap q hq r (by simp [hr])
    · exact ap q hq r (List.mem_append.mpr (.inr hr)))
  have hsm := hs_of hS
  rw [hsm]
  have v4 : VR W.K (γ.at σ.next f) (σ.next + 1) σ.doms.length (.obj σ.next) (.ref f) := by
    have q : VR W.K (γ.at σ.next f) (σ.next + 1) σ.doms.length (.obj σ.next) (.ref ((γ.at σ.next f).ρ σ.next)) := .obj (Nat.lt_succ_self _)
    have e : (γ.at σ.next f).ρ σ.next = f := if_pos rfl
    replace q := e ▸ q; exact q
  have xx : Ext σ γ (γ.at σ.next f) (St.new { σ with heap := ptN j (.tab false) σ.heap } (.lam body sc.names fm.cells)) :=
    (ext_put (σ := σ) (γ := γ) (hp := ptN j (.tab false) σ.heap)).trans (ext_new (σ := { σ with heap := ptN j (.tab false) σ.heap }) (γ := γ) (a := f) (o := .lam body sc.names fm.cells))
  exact P (.ok (.obj σ.next)) _ (by obtain rfl := ss h9; exact .head _) _ _ xx S2 _ v4
end
end Mine
end
section
open PySem PySem.W PyProof.Rows PySem.Calls
set_option tactic.hygienic false
namespace Mine
noncomputable def TdOK (W : Wk) : Prop := ∀ (n : Nat) (S : Sems) (IH : SemsOK W n S) (c : Cx) (hG : Good W c) (hR : Room n c) (fm : Fm) (σ : St) (γ : G) (s : Shared) (env : Env) (Q E : Value → Shared → Prop) (out : Out SV) (ks : List (Option PySem.Expr)) (kes es : List PySem.Expr) (pos : Pos),
  exprsOf ks = some kes → evDictT S fm kes es σ = some out → FmOK W c fm γ σ.next σ.doms.length env → W.SR c σ γ s → Post W c out σ γ (VRel W) Q E → wpAny (model W.prog W.w) c.A (eval (.Dict ks es pos) env) Q E s
section
variable {W : Wk} {n : Nat} {S : Sems} {C : Cfg} {c c' : Cx} {fm : Fm} {σ τ : St} {γ γ' : G} {s : Shared} {env : Env} {Q : Value → Shared → Prop} {E : Value → Shared → Prop} {out : Out SV}
theorem evSubscript_ok (IH : SemsOK W n S) (hG : Good W c) (hR : Room n c) {o i : PySem.Expr} {pos : Pos} (h : (evSubscript S o i).run fm σ = some out) (hF : FmOK W c fm γ σ.next σ.doms.length env) (hS : W.SR c σ γ s) (P : Post W c out σ γ (VRel W) Q E) :
    wpAny (model W.prog W.w) c.A (eval (.Subscript o i pos) env) Q E s := by
  cases i with
  | Slice => exact evSlice_ok IH hG hR h hF hS P
  | _ => exact evSub_ok IH hG hR rfl h hF hS P
theorem callOf_some {e : PySem.Expr} {p : PySem.Expr × List PySem.Expr} (h : callOf e = some p) : ∃ q, e = .Call p.1 p.2 [] q := by
  cases e <;> try (exact ns h; done)
  refine x02 (bm h) fun b e => ?_
  obtain rfl := ss e
  rw [isNil_eq b]
  exact ⟨_, rfl⟩
theorem rangeArg_some {e : PySem.Expr} {p : Str × PySem.Expr} (h : rangeArg e = some p) : ∃ r q, e = .Call (.Name p.1 r) [p.2] [] q := by
  refine x12 (om h) fun c h1 h2 => ?_
  refine x12 (om h2) fun n h3 h4 => ?_
  refine x12 (om h4) fun a h5 h6 => ?_
  refine x02 (bm h6) fun _ h7 => ?_
  (refine x11 (callOf_some h1) fun q er1 => ?_; subst er1)
  refine x11 (nameOfE_some h3) fun r h8 => ?_
  obtain rfl := ss h7
  exact ⟨r, q, by rw [h8, single_some h5]⟩
theorem compOf_some {gs : List Comprehension} {p : Str × PySem.Expr} (h : compOf gs = some p) : ∃ px, gs = [⟨.Name p.1 px, p.2, [], .ofNat 0⟩] := by
  refine x12 (om h) fun g h1 h2 => ?_
  refine x12 (om h2) fun x h3 h4 => ?_
  refine x02 (bm h4) fun b1 h5 => ?_
  refine x02 (bm h5) fun b2 h6 => ?_
  obtain rfl := ss h6
  rw [single_some h1]
  refine x11 (nameOfE_some h3) fun px e => ?_
  cases g with
  | mk t i f a =>
    subst e
    cases isNil_eq b1
    rw [iB_eq, beq_iff_eq] at b2
    subst b2
    exact ⟨px, rfl⟩
theorem evComp_ok (GO : GlobOK W C) (IH : SemsOK W n S) (hG : Good W c) (hR : Room n c) {elt : PySem.Expr} {gs : List Comprehension} {sc : Scope} {pos : Pos} (h : (evComp C S elt gs sc).run fm σ = some out) (hF : FmOK W c fm γ σ.next σ.doms.length env) (hS : W.SR c σ γ s) (P : Post W c out σ γ (VRel W) Q E) :
    wpAny (model W.prog W.w) c.A (eval (.ListComp elt gs sc pos) env) Q E s := by
  refine x02 (em h) fun hsc h1 => ?_
  refine x12 (oem h1) fun p h2 h3 => ?_
  (refine x11 (compOf_some h2) fun px er1 => ?_; subst er1)
  simp only [evCompX, csrc] at h3
  refine oc (o := rangeArg p.2) (fun hc => ?_) fun r hc => ?_
  · rw [hc] at h3
    refine x02 (em h3) fun hset h4 => ?_
    refine x04 (guardC_some h4) fun q1 q2 _ q4 => ?_
    exact evCompList_ok IH hG hR hsc hset q1 q2 q4 hF hS P
  · rw [hc] at h3
    refine x04 (guardC_some h3) fun q1 q2 _ q4 => ?_
    refine x21 (rangeArg_some hc) fun p1 q e => ?_
    rw [e]
    exact evCompRange_ok GO IH hG hR hsc q1 q2 q4 hF hS P
theorem evCall_ok (MO : MethOK W C) (IH : SemsOK W n S) (hG : Good W c) (hR : Room n c) {f : PySem.Expr} {args : List PySem.Expr} {kws : List Keyword} {pos : Pos} (h : (evCall C S f args kws pos).run fm σ = some out) (hF : FmOK W c fm γ σ.next σ.doms.length env) (hS : W.SR c σ γ s) (P : Post W c out σ γ (VRel W) Q E) :
    wpAny (model W.prog W.w) c.A (eval (.Call f args kws pos) env) Q E s := by
  refine x02 (em h) fun hk h1 => ?_
  refine x02 (em h1) fun hp h2 => ?_
  cases isNil_eq hk
  cases f <;> try (exact ns h2; done)
  · refine x02 (em h2) fun hb h3 => ?_
    refine x02 (em h3) fun hl h4 => ?_
    exact evMeth_ok MO IH hG hR hb hl hp h4 hF hS P
  · exact evCallF_ok IH hG hR hp h2 hF hS P
theorem evStep_ok (GO : GlobOK W C) (MO : MethOK W C) (TD : TdOK W) (IH : SemsOK W n S) (hG : Good W c) (hR : Room n c) {e : PySem.Expr} (h : evStep C S fm e σ = some out) (hF : FmOK W c fm γ σ.next σ.doms.length env) (hS : W.SR c σ γ s) (P : Post W c out σ γ (VRel W) Q E) :
    wpAny (model W.prog W.w) c.A (eval e env) Q E s := by
  cases e with
  | Constant => exact const_ok h hS P
  | Name => exact evName_ok GO hG hF h hS P
  | Tuple => exact evTuple_ok IH hG hR h hF hS P
  | List => exact evList_ok IH hG hR h hF hS P
  | Dict => exact evDict_ok IH hG hR (fun kes hk h => TD n S IH c hG hR fm σ γ s env Q E out _ kes _ _ hk h hF hS P) h hF hS P
  | Attribute o x p =>
    refine x02 (em h) fun hb h1 => ?_
    exact evAttr_ok hb IH hG hR h1 hF hS P
  | Subscript => exact evSubscript_ok IH hG hR h hF hS P
  | BinOp => exact bin_ok IH hG hR h hF hS P fun a b τ o1 e γ s a' b' S' ha hb Q E P => binop_ok hG e S' ha hb P
  | UnaryOp => exact evUn_ok IH hG hR h hF hS P
  | Compare => exact evCmp_ok IH hG hR h hF hS P
  | BoolOp => exact evBool_ok IH hG hR h hF hS P
  | IfExp => exact evIf_ok IH hG hR h hF hS P
  | ListComp => exact evComp_ok GO IH hG hR h hF hS P
  | Lambda => exact evLam_ok hG h hF hS P
  | Call => exact evCall_ok MO IH hG hR h hF hS P
  | _ => exact ns h
end
end Mine
end
section
open PySem PySem.W PyProof.Rows PySem.Calls
set_option tactic.hygienic false
namespace Mine
section
variable {W : Wk} {n : Nat} {S : Sems} {C : Cfg} {c c' : Cx} {fm : Fm} {σ τ : St} {γ γ' : G} {s : Shared} {env : Env} {m : Str → Option Value} {H : List (Addr × Obj)} {E : Value → Shared → Prop} {out : Out SV}
theorem storeC_some {x : Str} {v : SV} (h : storeC fm x v σ = some τ) : ∃ j v0, lkS x fm.cells = some j ∧ lkN j σ.heap = some (.cell v0) ∧ τ = { σ with heap := ptN j (.cell (some v)) σ.heap } := by
  refine x12 (om h) fun j h1 h2 => ?_
  refine x12 (om h2) fun v0 h3 h4 => ?_
  refine x12 (put_some h4) fun o h5 e => ?_
  have := (get_of h5).symm.trans (asCell_some h3)
  obtain rfl := ss this
  exact ⟨j, v0, h1, h5, e⟩
theorem storeV_ok (hF : FmOK W c fm γ σ.next σ.doms.length env) (hmf : c.mf = none) (hS : W.SR c σ γ s) (hG : Good W c) {x : Str} {v : SV} {v' : Value} (h : storeV fm x v σ = some τ) (hv : VR W.K γ σ.next σ.doms.length v v') {Q : Unit → Shared → Prop}
    (k : ∀ s', W.SR c τ γ s' → Ext σ γ γ τ → τ.next = σ.next → τ.doms = σ.doms → (∃ h' tk, s' = { s with heap := h', toks := tk } ∧ ∀ b o, c.h₀.get? b = some o → h'.get? b = some o) → Q () s') : wpAny (model W.prog W.w) c.A (storeName env x v') Q E s := by
  refine x02 (bm h) fun hcv h1 => ?_
  refine x12 (om h1) fun kd hk h2 => ?_
  have henv := hF.fn (noneB_eq hcv)
  subst henv
  refine x12 (hS.fr) fun m F Ev => ?_
  refine x14 (hS.nw) fun H hH N nd ap => ?_
  cases kd <;> try ((first | exact ns h2 | obtain rfl := ss h2); done)
  · obtain rfl := ss h2
    refine storeX_L F N (fun h' F' N' => ?_) hG.k (by rw [hF.names]; exact hk)
    refine k _ (hS.stored Ev hH nd ap hv F' N' hmf) ⟨Nat.le_refl _, Nat.le_refl _, fun _ _ => rfl, fun _ _ => rfl, fun _ h => h, rfl, rfl⟩ rfl rfl ⟨h', _, rfl, F'.keep⟩
  · refine x23 (storeC_some h2) fun j v0 hj hl er4 => ?_; subst er4
    refine x13 (hS.turn hl) fun l ho N2 upd => ?_
    refine x23 ho.form fun v0' o er2 hd hr => ?_; subst er2
    have hc := (hF.cells x j hj (.inl hk)).1
    have hm := N2 _ (.head _)
    refine wpAny_storeName_cell hG.k (by rw [hF.names]; exact hk) hc ⟨o, hm.1, hd⟩ fun h' hv' hs => ?_
    refine x12 hv' fun o' ho' hd' => ?_
    have nt : NT o := nt_of fun vs k => .inl (by rw [hd]; simp)
    have S' := upd [] [] _ o' h' s.toks (.cell (some v)) rfl nt hs ho' (.cell hd' hv)
    refine k _ S' ext_put rfl rfl ⟨h', _, rfl, fun b ob e => (hs.2 b (fun q => ?_)).trans (F.keep b ob e)⟩
    rw [q, hm.2.2] at e; exact ns e
end
end Mine
end
section
open PySem PySem.W PyProof.Rows PySem.Calls
set_option tactic.hygienic false
namespace Mine
section
variable {W : Wk} {n : Nat} {S : Sems} {C : Cfg} {c c' : Cx} {fm : Fm} {σ τ : St} {γ γ' : G} {s : Shared} {env : Env} {m : Str → Option Value} {H : List (Addr × Obj)} {E : Value → Shared → Prop} {out : Out Fl} {Q : Flow → Shared → Prop}
theorem FmOK.same {k d : Nat} (hF : FmOK W c fm γ σ.next σ.doms.length env) (h1 : τ.next = σ.next) (h2 : τ.doms = σ.doms) : FmOK W c fm γ τ.next τ.doms.length env := by rw [h1, h2]; exact hF
theorem assignIn_cons {t : Value → Sem Unit} {ts : List (Value → Sem Unit)} {x : Value} {xs : List Value} {M : Model} {A : Around} {Q : Unit → Shared → Prop} (h : wpAny M A (t x) (fun _ s₁ => wpAny M A (assignInOrder ts xs) Q E s₁) E s) : wpAny M A (assignInOrder (t :: ts) (x :: xs)) Q E s := by
  show wpAny M A (do holding xs (t x); assignInOrder ts xs) Q E s
  exact wpAny_bind (wpAny_holding h)
theorem assignIn_nil {xs : List Value} {M : Model} {A : Around} {Q : Unit → Shared → Prop} (h : Q () s) : wpAny M A (assignInOrder [] xs) Q E s := wpAny_pure h
theorem storeAll_static : ∀ {ts : List PySem.Expr} {vs : List SV} {σ τ : St}, storeAll fm ts vs σ = some τ → (assignEach ts env).length = vs.length ∧ (assignEach ts env).findIdx? (·.1) = none
  | [], [], σ, τ, h => ⟨rfl, rfl⟩
  | [], _ :: _, σ, τ, h => by exact ns h
  | t :: ts, [], σ, τ, h => by exact ns h
  | t :: ts, v :: vs, σ, τ, h => by
    refine x12 (om h) fun x hx h1 => ?_
    refine x11 (nameOfE_some hx) fun p er1 => ?_; subst er1
    obtain ⟨υ, _, h2⟩ := om h1
    refine x02 (storeAll_static h2) fun a b => ?_
    have e : assignEach (.Name x p :: ts) env = (false, assign (.Name x p) env) :: assignEach ts env := rfl
    rw [e]
    exact ⟨by simp [a], by simp [List.findIdx?_cons, b]⟩
theorem storeAll_ok (hmf : c.mf = none) (hG : Good W c) : ∀ {ts : List PySem.Expr} {vs : List SV} {vs' : List Value} {σ τ : St} {s : Shared} {Q : Unit → Shared → Prop}, storeAll fm ts vs σ = some τ → FmOK W c fm γ σ.next σ.doms.length env → W.SR c σ γ s → VRs W.K γ σ.next σ.doms.length vs vs' →
    (∀ s', W.SR c τ γ s' → Ext σ γ γ τ → Q () s') → wpAny (model W.prog W.w) c.A (assignInOrder ((assignEach ts env).map (·.2)) vs') Q E s
  | [], [], vs', σ, τ, s, Q, h, hF, hS, hv, k => by
    obtain rfl := ss h; cases hv
    exact assignIn_nil (k s hS (Ext.refl _ _))
  | [], _ :: _, vs', σ, τ, s, Q, h, hF, hS, hv, k => by exact ns h
  | t :: ts, [], vs', σ, τ, s, Q, h, hF, hS, hv, k => by exact ns h
  | t :: ts, v :: vs, vs', σ, τ, s, Q, h, hF, hS, hv, k => by
    refine x12 (om h) fun x hx h1 => ?_
    refine x11 (nameOfE_some hx) fun p er1 => ?_; subst er1
    obtain ⟨υ, hυ, h2⟩ := om h1
    refine x23 hv.view fun _ _ er2 a b => ?_; subst er2
    exact assignIn_cons (assign_Name (storeV_ok hF hmf hS hG hυ a fun s' S' x1 e1 e2 _ => storeAll_ok hmf hG h2 (hF.same (k := 0) (d := 0) e1 e2) S' (by rw [e1, e2]; exact b) fun s2 S2 x2 => k s2 S2 (x1.trans x2)))
theorem storeNs_ok (hmf : c.mf = none) (hG : Good W c) : ∀ {ts : List Str} {vs : List SV} {vs' : List Value} {σ τ : St} {s : Shared} {Q : Unit → Shared → Prop}, storeNs fm ts vs σ = some τ → FmOK W c fm γ σ.next σ.doms.length env → W.SR c σ γ s → VRs W.K γ σ.next σ.doms.length vs vs' →
    (∀ s', W.SR c τ γ s' → Ext σ γ γ τ → Q () s') → wpAny (model W.prog W.w) c.A (assignInOrder (ts.map fun n => bindName env n) vs') Q E s
  | [], [], vs', σ, τ, s, Q, h, hF, hS, hv, k => by
    obtain rfl := ss h; cases hv
    exact assignIn_nil (k s hS (Ext.refl _ _))
  | [], _ :: _, vs', σ, τ, s, Q, h, hF, hS, hv, k => by exact ns h
  | t :: ts, [], vs', σ, τ, s, Q, h, hF, hS, hv, k => by exact ns h
  | x :: ts, v :: vs, vs', σ, τ, s, Q, h, hF, hS, hv, k => by
    obtain ⟨υ, hυ, h2⟩ := om h
    refine x23 hv.view fun _ _ er2 a b => ?_; subst er2
    exact assignIn_cons (wpAny_bindName (storeV_ok hF hmf hS hG hυ a fun s' S' x1 e1 e2 _ => storeNs_ok hmf hG h2 (hF.same (k := 0) (d := 0) e1 e2) S' (by rw [e1, e2]; exact b) fun s2 S2 x2 => k s2 S2 (x1.trans x2)))
theorem nextR_some {o : Option St} {out : Out Fl} (h : nextR o = some out) : ∃ τ, o = some τ ∧ okR Fl.next τ = some out := om h
theorem notComp_swaps {e : PySem.Expr} (h : notComp e = true) (t : Option PySem.Expr) (l : Nat) : swapsWith e t l env = pure false := by
  cases e <;> first | rfl | exact tf h
theorem swaps_other {e : PySem.Expr} {t : PySem.Expr} (h : ∀ x p, t ≠ .Name x p) (l : Nat) : swapsWith e (some t) l env = pure false := by
  cases e <;> first
    | rfl
    | (cases t <;> first | rfl | exact absurd rfl (h _ _))
theorem blockFn (hF : FmOK W c fm γ σ.next σ.doms.length env) : env.blockKind = .function := by
  unfold Env.blockKind
  rw [hF.kind]; rfl
set_option tactic.hygienic true in
theorem swapL_ok (hF : FmOK W c fm γ σ.next σ.doms.length env) {ts : List PySem.Expr} {k : Nat} {p : Pos} {e : PySem.Expr} {r : Option (List Str)} (h : swapL (fun x => lkS x fm.names) [.Tuple ts k p] e = some r) : swappedStores [.Tuple ts k p] e env = pure r := by
  have hk : (fun x => lkS x fm.names) = env.kindOf := funext fun x => (hF.names x).symm
  rw [hk] at h
  cases e <;> try (obtain rfl := ss h; rfl)
  rename_i vs k2 p2
  dsimp only [swapL] at h
  dsimp only [swappedStores]
  rw [blockFn hF]
  split at h
  · rename_i q
    obtain rfl := ss h
    rw [if_pos (by simpa using q)]
  · rename_i q
    rw [if_neg (by simpa using q)]
    split at h
    · rename_i q1; obtain rfl := ss h; exact if_pos q1
    · rename_i q1
      refine (if_neg q1).trans ?_
      split at h
      · rename_i q2; obtain rfl := ss h; exact if_pos q2
      · rename_i q2
        refine (if_neg q2).trans ?_
        split at h
        · rename_i q3; obtain rfl := ss h; exact if_pos q3
        · rename_i q3
          refine (if_neg q3).trans ?_
          split at h
          · exact ns h
          · rename_i q4
            refine (if_neg q4).trans ?_
            obtain rfl := ss h
            rfl
end
end Mine
end
section
open PySem PySem.W PyProof.Rows PySem.Calls
set_option tactic.hygienic false
namespace Mine
noncomputable def SetOK (W : Wk) (C : Cfg) : Prop := ∀ c x, hasFld C c x = true → FldOK W.K c x ∧ findIn W.K (.ref c) "__setattr__" = some (some (.builtin "object.__setattr__")) ∧ plainOver W.K c = true ∧ takerIn W.K c x = some none
theorem isStr_str {x y : Str} {t : Tok} : (Value.str x t).isStr y = (x == y) := rfl
set_option tactic.hygienic true in
theorem isStr_eq {v : Value} {x : Str} (h : v.isStr x = true) : ∃ t, v = .str x t := by
  cases v <;> first | (exact tf h; done) | skip
  rename_i s t
  have : s = x := by simpa [Value.isStr] using h
  subst this
  exact ⟨t, rfl⟩
theorem find_putL {x y : Str} {hsh : Int} {t : Tok} {v : Value} : ∀ {es : List DictEntry}, ((PySem.W.putL x hsh (.str x t) v es).find? (·.key.isStr y)).map (·.val) = if y = x then some v else (es.find? (·.key.isStr y)).map (·.val)
  | [] => by
    simp only [PySem.W.putL, List.find?_cons, isStr_str]
    by_cases q : y = x
    · subst q; simp
    · rw [if_neg q, show (x == y) = false from beq_eq_false_iff_ne.mpr (Ne.symm q)]
  | e :: r => by
    unfold PySem.W.putL
    by_cases p : e.key.isStr x = true
    · rw [if_pos p]
      refine x11 (isStr_eq p) fun t' ht => ?_
      simp only [List.find?_cons, ht, isStr_str]
      by_cases q : y = x
      · subst q; simp
      · rw [if_neg q, show (x == y) = false from beq_eq_false_iff_ne.mpr (Ne.symm q)]
    · rw [if_neg p]
      simp only [List.find?_cons]
      by_cases q : y = x
      · subst q
        rw [show e.key.isStr y = false by simpa using p]
        have := find_putL (x := y) (y := y) (hsh := hsh) (t := t) (v := v) (es := r)
        skip
        exact this
      · rw [if_neg q]
        cases z : e.key.isStr y with
        | true => rfl
        | false =>
          have := find_putL (x := x) (y := y) (hsh := hsh) (t := t) (v := v) (es := r)
          replace this := (if_neg q) ▸ this
          exact this
theorem nk_putL {x : Str} {hsh : Int} {t : Tok} {v : Value} : ∀ {es : List DictEntry}, es.any (·.refKey) = false → (PySem.W.putL x hsh (.str x t) v es).any (·.refKey) = false
  | [], _ => rfl
  | e :: r, h => by
    simp only [List.any_cons, Bool.or_eq_false_iff] at h
    unfold PySem.W.putL
    split
    · simp only [List.any_cons, Bool.or_eq_false_iff]; exact ⟨h.1, h.2⟩
    · simp only [List.any_cons, Bool.or_eq_false_iff]; exact ⟨h.1, nk_putL h.2⟩
theorem len_putL {x : Str} {hsh : Int} {t : Tok} {v : Value} : ∀ {es : List DictEntry}, (PySem.W.putL x hsh (.str x t) v es).length = if (es.find? (·.key.isStr x)).isSome then es.length else es.length + 1
  | [] => rfl
  | e :: r => by
    unfold PySem.W.putL
    by_cases p : e.key.isStr x = true
    · rw [if_pos p, List.find?_cons, p]; rfl
    · rw [if_neg p, List.find?_cons, show e.key.isStr x = false by simpa using p]
      skip
      rw [List.length_cons, len_putL]
      split <;> rfl
set_option tactic.hygienic true in
theorem len_ptS {α : Type} {x : Str} {v : α} : ∀ {l : List (Str × α)}, (ptS x v l).length = if (lkS x l).isSome then l.length else l.length + 1
  | [] => rfl
  | (y, w) :: r => by
    rw [lkS_cons]
    unfold ptS
    split
    · rename_i q; rw [if_pos (sB_iff.mp q)]; rfl
    · rename_i q
      rw [if_neg (sB_false.mp q), List.length_cons, len_ptS]
      split <;> simp_all
theorem getL_nk {x : Str} {es : List DictEntry} (h : es.any (·.refKey) = false) : getL x es = some ((es.find? (·.key.isStr x)).map (·.val)) := by
  unfold getL
  cases es.find? (·.key.isStr x) with
  | none => rw [h]; rfl
  | some e => rfl
theorem FR.put {K : Frag} {γ : G} {n d : Nat} {fs : List (Str × SV)} {es : List DictEntry} {x : Str} {v : SV} {v' : Value} {hsh : Int} {t : Tok} (F : FR K γ n d fs es) (hv : VR K γ n d v v') : FR K γ n d (ptS x v fs) (PySem.W.putL x hsh (.str x t) v' es) := by
  have nk := nk_putL (x := x) (hsh := hsh) (t := t) (v := v') F.nk
  have gl : ∀ y, getL y (PySem.W.putL x hsh (.str x t) v' es) = if y = x then some (some v') else getL y es := fun y => by
    rw [getL_nk nk, find_putL, getL_nk F.nk]
    split <;> rfl
  refine ⟨fun y u e => ?_, fun y e => ?_, ?_, nk⟩
  · replace e := lkS_pt ▸ e
    rw [gl]
    by_cases q : y = x
    · rw [if_pos q] at e ⊢; obtain rfl := ss e; exact ⟨v', rfl, hv⟩
    · rw [if_neg q] at e ⊢; exact F.has y u e
  · replace e := lkS_pt ▸ e
    rw [gl]
    by_cases q : y = x
    · replace e := (if_pos q) ▸ e; exact sn e
    · rw [if_neg q] at e ⊢; exact F.no y e
  · rw [len_putL, len_ptS]
    have l := F.len
    cases q : lkS x fs with
    | some u =>
      refine x12 (F.has x u q) fun u' e _ => ?_
      replace e := (getL_nk F.nk) ▸ e
      have : (es.find? (·.key.isStr x)).isSome = true := by
        cases z : es.find? (·.key.isStr x) with
        | none => replace e := z ▸ e; cases e
        | some _ => rfl
      rw [this]; exact l
    | none =>
      have e := F.no x q
      replace e := (getL_nk F.nk) ▸ e
      have : (es.find? (·.key.isStr x)).isSome = false := by
        cases z : es.find? (·.key.isStr x) with
        | none => rfl
        | some _ => replace e := z ▸ e; cases e
      rw [this]
      skip
      exact Nat.succ_le_succ (by assumption)
theorem upd_of {d : Addr} {o o' : Obj} : ∀ {pre post : List (Addr × Obj)}, (∀ p ∈ pre, p.1 ≠ d) → (∀ p ∈ post, p.1 ≠ d) → Upd d o o' (pre ++ (d, o) :: post) (pre ++ (d, o') :: post)
  | [], post, _, h => .head h
  | p :: pre, post, h1, h2 => .tail (h1 p (.head _)) (upd_of (fun q hq => h1 q (.tail _ hq)) h2)
theorem nt_dict {es : List DictEntry} {k : Nat} : NT (dictOf es k) := nt_of fun vs k => .inl (by simp [dictOf])
end Mine
end
section
open PySem PySem.W PyProof.Rows PySem.Calls
set_option tactic.hygienic false
namespace Mine
section
variable {W : Wk} {n : Nat} {S : Sems} {C : Cfg} {c c' : Cx} {fm : Fm} {σ τ : St} {γ γ' : G} {s : Shared} {env : Env} {m : Str → Option Value} {H : List (Addr × Obj)} {E : Value → Shared → Prop} {out : Out Fl} {Q : Flow → Shared → Prop}
theorem setField_some {x : Str} {ov v : SV} (h : setField C ov x v σ = some τ) : ∃ j cl fs, ov = .obj j ∧ hasFld C cl x = true ∧ small fs = true ∧ lkN j σ.heap = some (.inst cl fs) ∧ τ = { σ with heap := ptN j (.inst cl (ptS x v fs)) σ.heap } := by
  refine x12 (om h) fun j h1 h2 => ?_
  refine x12 (om h2) fun p h3 h4 => ?_
  refine x02 (bm h4) fun b1 h5 => ?_
  refine x02 (bm h5) fun b2 h6 => ?_
  refine x12 (put_some h6) fun o h7 e => ?_
  have := (get_of h7).symm.trans (asInst_some h3)
  obtain rfl := ss this
  exact ⟨j, p.1, p.2, objOf_some h1, b1, b2, h7, e⟩
theorem setKey_some {ov iv v : SV} (h : setKey ov iv v σ = some τ) : ∃ j x kvs, ov = .obj j ∧ iv = .str x ∧ small kvs = true ∧ lkN j σ.heap = some (.dict kvs) ∧ τ = { σ with heap := ptN j (.dict (ptS x v kvs)) σ.heap } := by
  refine x12 (om h) fun j h1 h2 => ?_
  refine x12 (om h2) fun x h3 h4 => ?_
  refine x12 (om h4) fun kvs h5 h6 => ?_
  refine x02 (bm h6) fun b h7 => ?_
  refine x12 (put_some h7) fun o h8 e => ?_
  have := (get_of h8).symm.trans (asDict_some h5)
  obtain rfl := ss this
  exact ⟨j, x, kvs, objOf_some h1, strOf_some h3, b, h8, e⟩
theorem setField_ok (SO : SetOK W C) (hG : Good W c) (hS : W.SR c σ γ s) {x : Str} {ov v : SV} {ov' v' : Value} (h : setField C ov x v σ = some τ) (ho : VR W.K γ σ.next σ.doms.length ov ov') (hv : VR W.K γ σ.next σ.doms.length v v') {Q : Unit → Shared → Prop}
    (k : ∀ s', W.SR c τ γ s' → Ext σ γ γ τ → Q () s') : wpAny (model W.prog W.w) c.A (setAttr ov' x v') Q E s := by
  (refine x35 (setField_some h) fun j cl fs er3 hf hsm hj er7 => ?_; subst er3; subst er7)
  refine x04 (SO _ _ hf) fun f1 f2 f3 f4 => ?_
  refine x24 hS.core fun m H K F N ap => ?_
  (refine x34 (K.put hj) fun A l B er3 hjn hor upd => ?_; subst er3)
  (refine x02 ho.view fun er0 _ => ?_; subst er0)
  (refine x33 hor.form fun dx es k0 er3 fr fo => ?_; subst er3)
  have I : InstAt s.heap (γ.ρ j) (instObj cl dx) cl (some (dictOf es k0)) := ⟨(N (γ.ρ j, instObj cl dx) (by simp)).1, rfl, rfl, (N (dx, dictOf es k0) (by simp)).1⟩
  have hsz := small_le hsm
  have hl : (getL x es).isSome = true := by rw [getL_nk fr.nk]; rfl
  refine x02 (hS.apart (H := A ++ ([(γ.ρ j, instObj cl dx), (dx, dictOf es k0)] ++ B)) (pre := A ++ [(γ.ρ j, instObj cl dx)]) (l := [(dx, dictOf es k0)]) (post := B) (by simp) N K.nd ap (List.mem_singleton.mpr rfl) nt_dict) fun d1 d2 => ?_
  have N2 : News c.h₀ c.L s.heap ((c.xt ++ (A ++ [(γ.ρ j, instObj cl dx)])) ++ (dx, dictOf es k0) :: (B ++ γ.Z)) := fun p hp => N p (by simpa only [List.append_assoc, List.cons_append, List.nil_append] using hp)
  have frn := fr.put (x := x) (hsh := PyData.keyHash W.w.params x) (t := s.toks + 1) hv
  refine set_dict F hG.X N2 I rfl f2 f3 f4 f1.2.1 hl rfl (upd_of d1 d2) ?_ fun h' F' N' => ?_
  · have := frn.len
    rw [len_ptS] at this
    split at this <;> (first | exact Nat.le_trans (by assumption) (Nat.le_trans (by assumption) (by decide)) | exact Nat.le_trans (by assumption) (Nat.le_trans (Nat.succ_le_succ (by assumption)) (by decide)))
  · have K1 := upd (.inst cl (ptS x v fs)) [(γ.ρ j, instObj cl dx), (dx, dictOf (PySem.W.putL x (PyData.keyHash W.w.params x) (.str x (s.toks + 1)) v' es) (putN x es k0))] (.inst frn fun y u e => by
      rw [lkS_pt] at e
      by_cases q : y = x
      · subst q; exact f1
      · rw [if_neg q] at e; exact fo y u e) rfl
    have S' := K1.sr (h := h') (tk := s.toks + 2) F' (fun p hp => N' p (by simpa only [List.append_assoc, List.cons_append, List.nil_append] using hp)) (fun q hq r hr => by
      simp only [List.mem_append, List.mem_cons, List.not_mem_nil, or_false] at hr
      rcases hr with (hr | (hr | hr) | hr) | hr
      · exact ap q hq r (by simp [hr])
      · rw [hr]; exact ap q hq (γ.ρ j, instObj cl dx) (by simp)
      · rw [hr]; exact ap q hq (dx, dictOf es k0) (by simp)
      · exact ap q hq r (by simp [hr])
      · exact ap q hq r (by simp [hr]))
    have e := hs_of hS h' (s.toks + 2)
    rw [e]
    exact k _ S' ext_put
theorem KV.len {K : Frag} {a d : Nat} {l : List (Str × SV)} {l' : List (Str × Value)} (h : KV K γ a d l l') : l'.length = l.length := by
  induction h with
  | nil => rfl
  | cons _ _ _ ih => exact congrArg Nat.succ ih
theorem stored_none {x : Str} {v : Value} : ∀ {l : List (Str × Value)}, x ∉ l.map (·.1) → l.map (fun kv => if kv.1 = x then (kv.1, v) else kv) = l
  | [], _ => rfl
  | (y, u) :: r, h => by
    simp only [List.map_cons, List.mem_cons, not_or] at h
    rw [List.map_cons, if_neg (Ne.symm h.1), stored_none h.2]
theorem KV.stored {K : Frag} {a d : Nat} {x : Str} {v : SV} {v' : Value} (ok : PyData.strOk x = true) (hv : VR K γ a d v v') {l : List (Str × SV)} {l' : List (Str × Value)} (h : KV K γ a d l l') : (l'.map (·.1)).Nodup → KV K γ a d (ptS x v l) (PySem.stored l' x v') := by
  induction h with
  | nil =>
    intro _
    show KV K γ a d [(x, v)] _
    have : PySem.stored ([] : List (Str × Value)) x v' = [(x, v')] := by rfl
    rw [this]; exact .cons ok hv .nil
  | @cons y u u' l l' ok2 hu hr ih =>
    intro nd
    simp only [List.map_cons, List.nodup_cons] at nd
    unfold ptS
    by_cases q : x = y
    · subst q
      rw [sB_iff.mpr rfl]
      have : PySem.stored ((x, u') :: l') x v' = (x, v') :: l' := by
        unfold PySem.stored
        rw [if_pos (by simp), List.map_cons, if_pos rfl, stored_none nd.1]
      rw [this]
      exact .cons ok hv hr
    · rw [sB_false.mpr q]
      have ih := ih nd.2
      have : PySem.stored ((y, u') :: l') x v' = (y, u') :: PySem.stored l' x v' := by
        unfold PySem.stored
        simp only [List.any_cons, decide_eq_false (Ne.symm q), Bool.false_or]
        split
        · rw [List.map_cons, if_neg (Ne.symm q)]
        · rfl
      rw [this]
      exact .cons ok2 hu ih
theorem setKey_ok (hG : Good W c) (hS : W.SR c σ γ s) {ov iv v : SV} {ov' iv' v' : Value} (h : setKey ov iv v σ = some τ) (ho : VR W.K γ σ.next σ.doms.length ov ov') (hi : VR W.K γ σ.next σ.doms.length iv iv') (hv : VR W.K γ σ.next σ.doms.length v v') {Q : Unit → Shared → Prop}
    (k : ∀ s', W.SR c τ γ s' → Ext σ γ γ τ → Q () s') : wpAny (model W.prog W.w) c.A (setItem ov' iv' v') Q E s := by
  (refine x35 (setKey_some h) fun j x kvs er3 er4 hsm hj er7 => ?_; subst er3; subst er4; subst er7)
  refine x13 (hS.turn hj) fun l hor N upd => ?_
  (refine x02 ho.view fun er0 _ => ?_; subst er0)
  (refine x12 hi.view fun t er1 ok => ?_; subst er1)
  (refine x24 hor.form fun kvs' o er2 kv hd hs => ?_; subst er2)
  have D : s.heap.DictOf (strKind W.prog W.w) (γ.ρ j) kvs' := Heap.dictOf_iff.mpr ⟨_, (N _ (.head _)).1, hd⟩
  have klen := kv.len
  refine wpAny_setItem_pairs (knd := strKind W.prog W.w) (k := x) (hsz := by rw [klen]; have := small_le hsm; skip; exact Nat.le_trans (by assumption) (by decide)) (strKind_is W.prog W.w x t) D fun h' hm' hs' => ?_
  refine x12 (Heap.dictOf_iff.mp hm') fun o' ho' hd' => ?_
  have nt : NT o := by
    refine x22 hd fun es ep he _ => ?_
    exact nt_of fun vs k => .inr (by rw [he.1]; decide)
  have S' := upd [] [] _ o' h' (s.toks + 1) (.dict (ptS x v kvs)) rfl nt hs' ho' (.dict ?_ hd' hs)
  · exact k _ S' ext_put
  · refine x25 hd fun _ _ _ _ _ _ ndk => ?_
    exact kv.stored ok hv ndk
end
end Mine
end
section
open PySem PySem.W PyProof.Rows PySem.Calls
set_option tactic.hygienic false
namespace Mine
section
variable {W : Wk} {n : Nat} {S : Sems} {C : Cfg} {c c' : Cx} {fm : Fm} {σ τ : St} {γ γ' : G} {s : Shared} {env : Env} {m : Str → Option Value} {H : List (Addr × Obj)} {E : Value → Shared → Prop} {out : Out Fl} {Q : Flow → Shared → Prop}
theorem storeNs_len : ∀ {xs : List Str} {vs : List SV} {σ τ : St}, storeNs fm xs vs σ = some τ → xs.length = vs.length
  | [], [], _, _, _ => rfl
  | [], _ :: _, _, _, h => by exact ns h
  | _ :: _, [], _, _, h => by exact ns h
  | x :: xs, v :: vs, σ, τ, h => by
    obtain ⟨υ, _, h1⟩ := om h
    exact congrArg Nat.succ (storeNs_len h1)
theorem VRs.rev {K : Frag} {a d : Nat} {l : List SV} {vs : List Value} (h : VRs K γ a d l vs) : VRs K γ a d l.reverse vs.reverse :=
  VRs.ind K (P := fun l vs => VRs K γ a d l.reverse vs.reverse) .nil (fun x _ ih => by simp only [List.reverse_cons]; exact ih.append (.cons x .nil)) h
theorem exName_ok (IH : SemsOK W n S) (hG : Good W c) (hR : Room n c) (hmf : c.mf = none) {x : Str} {e : PySem.Expr} {xp pos : Pos} (hc : notComp e = true) (h : exName S fm x e σ = some out) (hF : FmOK W c fm γ σ.next σ.doms.length env) (hS : W.SR c σ γ s) (P : Post W c out σ γ (FRel W) Q E) :
    wpAny (model W.prog W.w) c.A (exec (.Assign [.Name x xp] e pos) env) Q E s := by
  refine x12 (bind_spec h) fun l1 e1 h1 => ?_
  refine wpAny_Assign_Name (IH.ev _ _ _ _ e1 c γ s env hG hF hS hR _ _ (post_bind h1 P fun v τ o1 e2 γ' s' x S' P' v' hv => ?_)) (notComp_swaps hc _ _)
  obtain ⟨υ, e3, e4⟩ := nextR_some e2
  exact storeV_ok (hF.later x.later) hmf S' hG e3 hv fun s2 S2 x2 _ _ _ => post_ok' e4 P' x2 S2 .next
theorem storeT_ok (hmf : c.mf = none) (hG : Good W c) {ts : List PySem.Expr} {k0 : Nat} {tp : Pos} {v : SV} {v' : Value} (h : storeT fm ts v σ = some τ) (hF : FmOK W c fm γ σ.next σ.doms.length env) (hS : W.SR c σ γ s) (hv : VR W.K γ σ.next σ.doms.length v v') {Q : Unit → Shared → Prop}
    (k : ∀ s', W.SR c τ γ s' → Ext σ γ γ τ → Q () s') : wpAny (model W.prog W.w) c.A (assign (.Tuple ts k0 tp) env v') Q E s := by
  refine x12 (om h) fun vs hvs h1 => ?_
  obtain rfl := tupOf_some hvs
  (refine x33 hv.view fun _ _ _ er3 ht hr => ?_; subst er3)
  refine x12 (hS.fr) fun m F Ev => ?_
  refine x14 (hS.nw) fun H hH N nd ap => ?_
  have I : IsTup s.heap _ _ := ⟨_, hS.tups hG.X ht, rfl, _, rfl⟩
  refine x02 (storeAll_static (env := env) h1) fun q1 q2 => ?_
  refine unpackN_ F N I rfl (by rw [q1, List.size_toArray, hr.len]) q2 fun h' F' N' => ?_
  have S2 := hS.grown (tk := s.toks) Ev hH nd ap F' N'
  exact storeAll_ok hmf hG h1 hF S2 hr k
theorem exTup_ok (IH : SemsOK W n S) (hG : Good W c) (hR : Room n c) (hmf : c.mf = none) {ts : List PySem.Expr} {k : Nat} {e : PySem.Expr} {tp pos : Pos} (h : exTup S fm (.Tuple ts k tp) ts e σ = some out) (hF : FmOK W c fm γ σ.next σ.doms.length env) (hS : W.SR c σ γ s) (P : Post W c out σ γ (FRel W) Q E) :
    wpAny (model W.prog W.w) c.A (exec (.Assign [.Tuple ts k tp] e pos) env) Q E s := by
  have hs1 : swapsWithSole [.Tuple ts k tp] e pos.line env = pure false := by
    show swapsWith e (some (.Tuple ts k tp)) pos.line env = pure false
    exact swaps_other (fun _ _ h => by cases h) _
  refine x12 (om h) fun r hsw h9 => ?_
  cases r with
  | none =>
    refine x12 (bind_spec (show bindR (S.ev fm e σ) _ = some out from h9)) fun l1 e1 h1 => ?_
    refine Assign_Tuple (IH.ev _ _ _ _ e1 c γ s env hG hF hS hR _ _ (post_bind h1 P fun v τ o1 e2 γ' s' x S' P' v' hv => ?_)) hs1 (swapL_ok hF hsw)
    obtain ⟨υ, e3, e4⟩ := nextR_some e2
    exact storeT_ok hmf hG e3 (hF.later x.later) S' hv fun s2 S3 x2 => post_ok' e4 P' x2 S3 .next
  | some xs =>
    refine x12 (bind_spec (show bindR (S.ev fm e σ) _ = some out from h9)) fun l1 e1 h1 => ?_
    refine Assign_Tuple_swapped (IH.ev _ _ _ _ e1 c γ s env hG hF hS hR _ _ (post_bind h1 P fun v τ o1 e2 γ' s' x S' P' v' hv => ?_)) hs1 (swapL_ok hF hsw)
    obtain ⟨υ, e3, e4⟩ := nextR_some e2
    refine x12 (om e3) fun vs hvs e5 => ?_
    obtain rfl := tupOf_some hvs
    refine x33 hv.view fun _ _ _ er3 ht hr => ?_; subst er3
    refine x12 (S'.fr) fun m F Ev => ?_
    refine x14 (S'.nw) fun H hH N nd ap => ?_
    have I : IsTup s'.heap _ _ := ⟨_, S'.tups hG.X ht, rfl, _, rfl⟩
    refine unpackItemsN_ F N I rfl ?_ fun h' F' N' => ?_
    · have := storeNs_len e5
      rw [List.size_toArray, hr.len]
      simpa using this
    have S2 := S'.grown (tk := s'.toks) Ev hH nd ap F' N'
    exact storeNs_ok hmf hG e5 (hF.later x.later) S2 (by exact hr.rev) fun s2 S3 x2 => post_ok' e4 P' x2 S3 .next
theorem exSetA_ok (SO : SetOK W C) (IH : SemsOK W n S) (hG : Good W c) (hR : Room n c) {o e : PySem.Expr} {x : Str} {xp pos : Pos} (h : exSetA C S fm o x e σ = some out) (hF : FmOK W c fm γ σ.next σ.doms.length env) (hS : W.SR c σ γ s) (P : Post W c out σ γ (FRel W) Q E) :
    wpAny (model W.prog W.w) c.A (exec (.Assign [.Attribute o x xp] e pos) env) Q E s := by
  refine x12 (bind_spec h) fun l1 e1 h1 => ?_
  refine plainObj_wpAny_Assign_Attribute (IH.ev _ _ _ _ e1 c γ s env hG hF hS hR _ _ (post_bind h1 P fun v τ o1 e2 γ' s' x S' P' v' hv => ?_)) (swaps_other (fun _ _ h => by cases h) _)
  refine x12 (bind_spec e2) fun l2 e3 h3 => ?_
  refine IH.ev _ _ _ _ e3 c γ' s' env hG (hF.later x.later) S' hR _ _ (post_bind h3 P' fun ov τ' o2 e4 γ'' s'' y S'' P'' o' ho => ?_)
  obtain ⟨υ, e5, e6⟩ := nextR_some e4
  exact setField_ok SO hG S'' e5 ho (hv.later y.later) fun s2 S2 x2 => post_ok' e6 P'' x2 S2 .next
theorem exSetS_ok (IH : SemsOK W n S) (hG : Good W c) (hR : Room n c) {o i e : PySem.Expr} {xp pos : Pos} (h : exSetS S fm o i e σ = some out) (hF : FmOK W c fm γ σ.next σ.doms.length env) (hS : W.SR c σ γ s) (P : Post W c out σ γ (FRel W) Q E) :
    wpAny (model W.prog W.w) c.A (exec (.Assign [.Subscript o i xp] e pos) env) Q E s := by
  refine x12 (bind_spec h) fun l1 e1 h1 => ?_
  refine wpAny_Assign_Subscript (IH.ev _ _ _ _ e1 c γ s env hG hF hS hR _ _ (post_bind h1 P fun v τ o1 e2 γ' s' x S' P' v' hv => ?_)) (swaps_other (fun _ _ h => by cases h) _)
  refine x12 (bind_spec e2) fun l2 e3 h3 => ?_
  refine IH.ev _ _ _ _ e3 c γ' s' env hG (hF.later x.later) S' hR _ _ (post_bind h3 P' fun ov τ' o2 e4 γ'' s'' y S'' P'' o' ho => ?_)
  refine x12 (bind_spec e4) fun l3 e5 h5 => ?_
  refine IH.ev _ _ _ _ e5 c γ'' s'' env hG ((hF.later x.later).later y.later) S'' hR _ _ (post_bind h5 P'' fun iv τ'' o3 e6 γ3 s3 z S3 P3 i' hi => ?_)
  obtain ⟨υ, e7, e8⟩ := nextR_some e6
  exact setKey_ok hG S3 e7 (ho.later z.later) hi ((hv.later y.later).later z.later) fun s2 S2 x2 => post_ok' e8 P3 x2 S2 .next
theorem exIf_ok (hE : PassesOwn (model W.prog W.w) c.A env E) (IH : SemsOK W n S) (hG : Good W c) (hR : Room n c) (hmf : c.mf = none) (hcv : fm.cv = none) {t : PySem.Expr} {a b : List Stmt} {pos : Pos} (h : exIf S fm t a b σ = some out) (hF : FmOK W c fm γ σ.next σ.doms.length env) (hS : W.SR c σ γ s) (P : Post W c out σ γ (FRel W) Q E) :
    wpAny (model W.prog W.w) c.A (exec (.If t a b pos) env) Q E s := by
  refine x12 (bind_spec h) fun l1 e1 h1 => ?_
  refine wpAny_If (IH.ts _ _ _ _ e1 c γ s env hG hF hS hR _ _ (post_bind h1 P fun v τ o1 e2 γ' s' x S' P' v' hv => ?_))
  subst hv
  cases v' with
  | true => exact IH.xs _ _ _ _ e2 hcv c γ' s' env hmf hG (hF.later x.later) S' hR _ _ hE P'
  | false => exact IH.xs _ _ _ _ e2 hcv c γ' s' env hmf hG (hF.later x.later) S' hR _ _ hE P'
theorem exReturn_ok (IH : SemsOK W n S) (hG : Good W c) (hR : Room n c) {e : Option PySem.Expr} {pos : Pos} (h : exReturn S fm e σ = some out) (hF : FmOK W c fm γ σ.next σ.doms.length env) (hS : W.SR c σ γ s) (P : Post W c out σ γ (FRel W) Q E) :
    wpAny (model W.prog W.w) c.A (exec (.Return e pos) env) Q E s := by
  cases e with
  | none => exact wpAny_Return_none (post_ok h P hS (.ret .none))
  | some e =>
    refine x12 (bind_spec (show bindR (S.ev fm e σ) _ = some out from h)) fun l1 e1 h1 => ?_
    exact wpAny_Return_some (IH.ev _ _ _ _ e1 c γ s env hG hF hS hR _ _ (post_bind h1 P fun v τ o1 e2 γ' s' x S' P' v' hv => post_ok e2 P' S' (.ret hv)))
theorem exExpr_ok (IH : SemsOK W n S) (hG : Good W c) (hR : Room n c) {e : PySem.Expr} {pos : Pos} (hc : notComp e = true) (h : bindR (S.ev fm e σ) (fun _ τ => okR Fl.next τ) = some out) (hF : FmOK W c fm γ σ.next σ.doms.length env) (hS : W.SR c σ γ s) (P : Post W c out σ γ (FRel W) Q E) :
    wpAny (model W.prog W.w) c.A (exec (.Expr e pos) env) Q E s := by
  refine x12 (bind_spec h) fun l1 e1 h1 => ?_
  refine wpAny_Expr_any (IH.ev _ _ _ _ e1 c γ s env hG hF hS hR _ _ (post_bind h1 P fun v τ o1 e2 γ' s' x S' P' v' hv => post_ok e2 P' S' .next)) ?_ (notComp_swaps hc _ _)
  unfold interactive
  rw [hF.kind]; rfl
end
end Mine
end
section
open PySem PySem.W PyProof.Rows PySem.Calls
set_option tactic.hygienic false
namespace Mine
section
variable {W : Wk} {n : Nat} {S : Sems} {C : Cfg} {c c' : Cx} {fm : Fm} {σ τ : St} {γ γ' : G} {s : Shared} {env : Env} {m : Str → Option Value} {H : List (Addr × Obj)} {E : Value → Shared → Prop} {out o1 : Out Fl} {Q : Flow → Shared → Prop}
theorem Later.refl (γ : G) (n d : Nat) : Later γ γ n d n d := ⟨Nat.le_refl _, Nat.le_refl _, fun _ _ => rfl, fun _ _ => rfl, fun _ h => h⟩
theorem Later.trans {γ γ' γ'' : G} {n d n' d' n'' d'' : Nat} (x : Later γ γ' n d n' d') (y : Later γ' γ'' n' d' n'' d'') : Later γ γ'' n d n'' d'' :=
  ⟨Nat.le_trans x.ln y.ln, Nat.le_trans x.ld y.ld, fun i h => (y.lδ i (Nat.lt_of_lt_of_le h x.ld)).trans (x.lδ i h), fun j h => (y.lρ j (Nat.lt_of_lt_of_le h x.ln)).trans (x.lρ j h), fun q h => y.lZ q (x.lZ q h)⟩
theorem turn_post {l : Out Fl} {k : St → R Fl} {Q1 : Flow → Shared → Prop} (h1 : ∀ r τ, (r, τ) ∈ l → (∀ a, r = .ok a → ∃ o1, turn k a τ = some o1 ∧ ∀ q ∈ o1, q ∈ out) ∧ (∀ c v, r = .ex c v → (.ex c v, τ) ∈ out)) (P : Post W c out σ γ (FRel W) Q E)
    (next : ∀ τ o1, k τ = some o1 → ∀ γ' s', Ext σ γ γ' τ → W.SR c τ γ' s' → Post W c o1 τ γ' (FRel W) Q E → Q1 .next s' ∧ Q1 .cont s')
    (brk : ∀ s', Q .next s' → Q1 .brk s') (ret : ∀ v s', Q (.ret v) s' → Q1 (.ret v) s') : Post W c l σ γ (FRel W) Q1 E :=
  post_bind h1 P fun f τ o1 e2 γ' s' x S' P' b hb => by
    cases hb with
    | next => exact (next τ o1 e2 γ' s' x S' P').1
    | cont => exact (next τ o1 e2 γ' s' x S' P').2
    | brk => exact brk _ (post_ok e2 P' S' .next)
    | ret hv => exact ret _ _ (post_ok e2 P' S' (.ret hv))
theorem exWhile_ok (hE : PassesOwn (model W.prog W.w) c.A env E) (IH : SemsOK W n S) (hG : Good W c) (hR : Room n c) (hmf : c.mf = none) (hcv : fm.cv = none) {t : PySem.Expr} {body orelse : List Stmt} {pos : Pos} (h : exWhile S fm t body orelse σ = some out) (hF : FmOK W c fm γ σ.next σ.doms.length env) (hS : W.SR c σ γ s) (P : Post W c out σ γ (FRel W) Q E) :
    wpAny (model W.prog W.w) c.A (exec (.While t body orelse pos) env) Q E s := by
  refine x02 (bm h) fun q h9 => ?_
  obtain rfl := isNil_eq q
  refine wpAny_While (codeAny_whileLoop (fun k s' => ∃ τ γ' o1, loopW S fm t body k τ = some o1 ∧ Later γ γ' σ.next σ.doms.length τ.next τ.doms.length ∧ W.SR c τ γ' s' ∧ Post W c o1 τ γ' (FRel W) Q E) ?_ 64 ⟨σ, γ, out, h9, .refl _ _ _, hS, P⟩)
  rintro k s' ⟨τ, γ', o1, e0, x, S', P'⟩
  cases k with
  | zero => exact ns e0
  | succ k =>
    refine x12 (bind_spec e0) fun l1 e1 h1 => ?_
    refine wpAny_mono (IH.ts _ _ _ _ e1 c γ' s' env hG (hF.later x) S' hR _ _ (post_bind (Q1 := fun b s₂ => if b = true then wpAny (model W.prog W.w) c.A (execs body env) (fun f s₃ => match f with
          | .next | .cont => ∃ m, m < k + 1 ∧ ∃ τ γ' o1, loopW S fm t body m τ = some o1 ∧ Later γ γ' σ.next σ.doms.length τ.next τ.doms.length ∧ W.SR c τ γ' s₃ ∧ Post W c o1 τ γ' (FRel W) Q E
          | .brk => Q .next s₃
          | .ret v => Q (.ret v) s₃) E s₂ else Q .next s₂) h1 P' fun b τ2 o2 e2 γ2 s2 x2 S2 P2 b' hb => ?_)) (fun b s₂ h₂ => ?_) hE
    · subst hb
      cases b' with
      | false => rw [if_neg Bool.false_ne_true]; exact post_ok e2 P2 S2 .next
      | true =>
        rw [if_pos rfl]
        refine x12 (bind_spec (show bindR _ _ = some o2 from e2)) fun l2 e3 h3 => ?_
        refine IH.xs _ _ _ _ e3 hcv c γ2 s2 env hmf hG (hF.later (x.trans x2.later)) S2 hR _ _ hE (turn_post h3 P2 (fun τ3 o3 e4 γ3 s3 x3 S3 P3 => ?_) (fun _ h => h) fun _ _ h => h)
        exact ⟨⟨k, by exact Nat.lt_succ_self _, τ3, γ3, o3, e4, (x.trans x2.later).trans x3.later, S3, P3⟩, ⟨k, by exact Nat.lt_succ_self _, τ3, γ3, o3, e4, (x.trans x2.later).trans x3.later, S3, P3⟩⟩
    · cases b with
      | false =>
        skip
        exact wpAny_execs_nil h₂
      | true =>
        skip
        exact wpAny_mono h₂ (fun f s₃ h₃ => h₃) hE
end
end Mine
end
section
open PySem PySem.W PyProof.Rows PySem.Calls
set_option tactic.hygienic false
namespace Mine
section
variable {W : Wk} {n : Nat} {S : Sems} {C : Cfg} {c c' : Cx} {fm : Fm} {σ τ : St} {γ γ' : G} {s : Shared} {env : Env} {m : Str → Option Value} {H its its' : List (Addr × Obj)} {E : Value → Shared → Prop}
theorem Good.more (hG : Good W c) : Good W (c.more its) := ⟨hG.X, hG.T, hG.k, hG.tb, hG.ex⟩
theorem FmOK.more {k d : Nat} (hF : FmOK W c fm γ k d env) : FmOK W (c.more its) fm γ k d env :=
  ⟨hF.kind, hF.glob, hF.blt, hF.names, hF.cells, hF.tab, hF.fn, fun q e => x34 (hF.comp q e) fun a b c' h1 h2 h3 h4 => ⟨a, b, c', List.mem_append.mpr (.inr h1), h2, h3, h4⟩, hF.dbg⟩
theorem Room.more (hR : Room n c) : Room n (c.more its) := ⟨hR.d, hR.u⟩
theorem SR.less (S : W.SR (c.more its) σ γ s) : W.SR c σ γ s :=
  ⟨S.sm, x12 S.fr fun m F Ev => ⟨m, F, ⟨Ev.r, Ev.f⟩⟩, x14 S.nw fun H h1 h2 h3 h4 => ⟨H, h1, fun p hp => h2 p (by
    rcases List.mem_append.mp hp with hp | hp
    · exact List.mem_append.mpr (.inl (List.mem_append.mpr (.inr hp)))
    · exact List.mem_append.mpr (.inr hp)), h3, fun q hq => h4 q (List.mem_append.mpr (.inr hq))⟩, S.tz, S.dm, S.ou⟩
theorem SR.itGet (S : W.SR (c.more its) σ γ s) {p : Addr × Obj} (hp : p ∈ its) : s.heap.get? p.1 = some p.2 ∧ @Ne Nat p.1 c.L ∧ c.h₀.get? p.1 = none := by
  refine x14 (S.nw) fun H h1 h2 h3 h4 => ?_
  exact h2 p (List.mem_append.mpr (.inl (List.mem_append.mpr (.inl hp))))
theorem SR.turnIt {h' : Heap} {tk : Nat} (S : W.SR (c.more its) σ γ s) (apx : ∀ p ∈ its, ∀ q ∈ c.xt, @Ne Nat q.1 p.1) (keep : ∀ (b : Addr) o, (∀ p ∈ its, @Ne Nat b p.1) → s.heap.get? b = some o → h'.get? b = some o)
    (new : ∀ p ∈ its', h'.get? p.1 = some p.2 ∧ ∃ q ∈ its, q.1 = p.1) : W.SR (c.more its') σ γ { s with heap := h', toks := tk } := by
  refine x12 (S.fr) fun m F Ev => ?_
  refine x14 (S.nw) fun H hH N nd ap => ?_
  have hL : ∀ p ∈ its, @Ne Nat c.L p.1 := fun p hp => Ne.symm (S.itGet hp).2.1
  refine ⟨SR.same S, ⟨m, ⟨?_, fun b o e => keep b o (fun p hp => ?_) (F.keep b o e), F.above⟩, ⟨Ev.r, Ev.f⟩⟩, ⟨H, hH, fun p hp => ?_, nd, fun q hq r hr => ?_⟩, S.tz, S.dm, S.ou⟩
  · exact F.ns.at fun o e => keep _ o hL e
  · intro e
    have := (S.itGet hp).2.2
    rw [← e] at this
    have e2 : c.h₀.get? b = some o := by assumption
    rw [this] at e2; exact ns e2
  · refine Or.elim (List.mem_append.mp hp) (fun hp => ?_) fun hp => ?_
    · rcases List.mem_append.mp hp with hp | hp
      · obtain ⟨g, q, hq, e⟩ := new p hp
        have := S.itGet hq
        rw [e] at this
        exact ⟨g, this.2⟩
      · have := N p (List.mem_append.mpr (.inl (List.mem_append.mpr (.inr hp))))
        exact ⟨keep _ _ (fun q hq => apx q hq p hp) this.1, this.2⟩
    · have := N p (List.mem_append.mpr (.inr hp))
      exact ⟨keep _ _ (fun q hq => Ne.symm (ap q (List.mem_append.mpr (.inl hq)) p hp)) this.1, this.2⟩
  · rcases List.mem_append.mp hq with hq | hq
    · obtain ⟨_, q', hq', e⟩ := new q hq
      rw [← e]
      exact ap q' (List.mem_append.mpr (.inl hq')) r hr
    · exact ap q (List.mem_append.mpr (.inr hq)) r hr
theorem SR.xtSub {l' : List (Addr × Obj)} (S : W.SR c σ γ s) (h : ∀ q ∈ l', q ∈ c.xt) : W.SR { c with xt := l' } σ γ s :=
  ⟨S.sm, x12 S.fr fun m F Ev => ⟨m, F, ⟨Ev.r, Ev.f⟩⟩, x14 S.nw fun H h1 h2 h3 h4 => ⟨H, h1, fun p hp => h2 p (by
    rcases List.mem_append.mp hp with hp | hp
    · exact List.mem_append.mpr (.inl (h _ hp))
    · exact List.mem_append.mpr (.inr hp)), h3, fun q hq => h4 q (h _ hq)⟩, S.tz, S.dm, S.ou⟩
theorem Thrown.less {cc : Nat} {v : SV} {e : Value} (h : Thrown W (c.more its) cc v γ σ e s) : Thrown W c cc v γ σ e s :=
  x13 h fun l f S ap =>
  ⟨l, f, SR.xtSub (c := (c.more its).more l) S (l' := l ++ c.xt) (fun q hq => by
    rcases List.mem_append.mp hq with hq | hq
    · exact List.mem_append.mpr (.inl hq)
    · exact List.mem_append.mpr (.inr (List.mem_append.mpr (.inr hq)))), fun p hp q hq => ap p hp q (List.mem_append.mpr (.inr hq))⟩
theorem SR.gain {h' : Heap} {tk : Nat} (S : W.SR c σ γ s) (keep : ∀ (b : Addr) o, s.heap.get? b = some o → h'.get? b = some o)
    (new : ∀ p ∈ its, h'.get? p.1 = some p.2 ∧ @LE.le Nat _ s.heap.objs.size p.1) : W.SR (c.more its) σ γ { s with heap := h', toks := tk } ∧ ∀ p ∈ its, ∀ q ∈ c.xt, @Ne Nat q.1 p.1 := by
  refine x12 (S.fr) fun m F Ev => ?_
  refine x14 (S.nw) fun H hH N nd ap => ?_
  have lt : ∀ (b : Addr) o, s.heap.get? b = some o → ∀ p ∈ its, @Ne Nat b p.1 := fun b o e p hp => Nat.ne_of_lt (Nat.lt_of_lt_of_le (Heap.lt_size e) (new p hp).2)
  have ap2 : ∀ p ∈ its, ∀ q ∈ c.xt, @Ne Nat q.1 p.1 := fun p hp q hq => lt _ _ (N q (List.mem_append.mpr (.inl hq))).1 p hp
  refine ⟨⟨SR.same S, ⟨m, F.keeps keep, ⟨Ev.r, Ev.f⟩⟩, ⟨H, hH, fun p hp => ?_, nd, fun q hq r hr => ?_⟩, S.tz, S.dm, S.ou⟩, ap2⟩
  · refine Or.elim (List.mem_append.mp hp) (fun hp => ?_) fun hp => ?_
    · rcases List.mem_append.mp hp with hp | hp
      · refine ⟨(new p hp).1, ?_, ?_⟩
        · exact Ne.symm (Nat.ne_of_lt (Nat.lt_of_lt_of_le F.ns.lt (new p hp).2))
        · cases e : c.h₀.get? p.1 with
          | none => rfl
          | some o => exact absurd rfl (lt _ _ (F.keep _ _ e) p hp)
      · have := N p (List.mem_append.mpr (.inl hp))
        exact ⟨keep _ _ this.1, this.2⟩
    · have := N p (List.mem_append.mpr (.inr hp))
      exact ⟨keep _ _ this.1, this.2⟩
  · rcases List.mem_append.mp hq with hq | hq
    · exact Ne.symm (lt _ _ (N r (List.mem_append.mpr (.inr hr))).1 q hq)
    · exact ap q hq r hr
end
structure ItOK (W : Wk) (c : Cx) (γ₀ : G) (n₀ d₀ : Nat) (t : PySem.Expr) (src : Src) (it : Value) (I : Nat → List (Addr × Obj) → Prop) : Prop where
  apx : ∀ k its, I k its → ∀ p ∈ its, ∀ q ∈ c.xt, @Ne Nat q.1 p.1
  item : ∀ k v σ γ s its E (Q : Value → Shared → Prop), itemAt src k σ = some (some v) → I k its → Later γ₀ γ n₀ d₀ σ.next σ.doms.length → Good W c → W.SR (c.more its) σ γ s →
    (∀ its' γ' s' v', I (k + 1) its' → Ext σ γ γ' σ → W.SR (c.more its') σ γ' s' → VR W.K γ' σ.next σ.doms.length v v' → Q v' s') →
    wpAny (model W.prog W.w) c.A (pyNext it) (fun r s₁ => ∃ v', r = some v' ∧ wpAny (model W.prog W.w) c.A (letOwnedTupleGo t it v') (fun _ s₂ => Q v' s₂) E s₁) E s
  fin : ∀ k σ γ s its E (Q : Option Value → Shared → Prop), itemAt src k σ = some none → I k its → Later γ₀ γ n₀ d₀ σ.next σ.doms.length → Good W c → W.SR (c.more its) σ γ s → (∀ s', W.SR c σ γ s' → Q none s') → wpAny (model W.prog W.w) c.A (pyNext it) Q E s
section
variable {prog : Program} {w : World} {A : Around} {E : Value → Shared → Prop} {s : Shared}
theorem letGo_other {t : PySem.Expr} {r : Addr} {v : Value} {o : Obj} {T : String} {Q : Unit → Shared → Prop} (ho : s.heap.get? r = some o) (hc : o.cls = .type T) (hT : (["enumerate", "zip", "dict_itemiterator", "dict_reverseitemiterator", "odict_iterator", "itertools.zip_longest", "itertools.pairwise"].contains T) = false) (hQ : Q () s) :
    wpAny (model prog w) A (letOwnedTupleGo t (.ref r) v) Q E s := by
  have step : wpAny (model prog w) A (do
    let (.ref r, .ref a) := (Value.ref r, v) | return
    let o ← load r
    match o.cls, o.data with
    | .type n, .fields vs =>
      if ["enumerate", "zip", "dict_itemiterator", "dict_reverseitemiterator", "odict_iterator", "itertools.zip_longest", "itertools.pairwise"].contains n && vs[0]? == some (rawInt a) then
        rule "for.unpacks-the-owned-tuple"
        updateField r 0 .none
    | _, _ => pure ()) Q E s := by
    cases v with
    | ref a =>
      refine wpAny_bind (wpAny_load ho ?_)
      rw [hc]
      cases o.data with
      | fields vs =>
        show wpAny _ A (if (_ && _) = true then _ else _) Q E s
        rw [hT]
        exact wpAny_pure hQ
      | _ => exact wpAny_pure hQ
    | _ => exact wpAny_pure hQ
  skip
  cases t with
  | Tuple => exact step
  | List => exact step
  | _ => exact wpAny_pure hQ
end
end Mine
end
section
open PySem PySem.W PyProof.Rows PySem.Calls
set_option tactic.hygienic false
namespace Mine
section
variable {W : Wk} {n : Nat} {S : Sems} {C : Cfg} {c c' : Cx} {fm : Fm} {σ τ : St} {γ γ' : G} {s : Shared} {env : Env} {m : Str → Option Value} {H its its' : List (Addr × Obj)} {E : Value → Shared → Prop}
theorem VRs.none {K : Frag} {m d : Nat} {l : List SV} {vs : List Value} (h : VRs K γ m d l vs) {k : Nat} (e : getAt k l = none) : vs[k]? = Option.none := by
  rw [getAt_eq] at e
  rw [List.getElem?_eq_none_iff] at e ⊢
  rw [h.len]; exact e
theorem itemAt_lst {j k : Nat} {r : Option SV} (h : itemAt (.lst j) k σ = some r) : ∃ l, listOfObj σ (.obj j) = some l ∧ getAt k l = r := by
  refine x12 (om h) fun l hl h1 => ?_
  exact ⟨l, hl, Option.some.inj h1⟩
theorem itemAt_enum {j k : Nat} {r : Option SV} (h : itemAt (.enum j) k σ = some r) : ∃ l, listOfObj σ (.obj j) = some l ∧ numbered k (getAt k l) = r := by
  refine x12 (om h) fun l hl h1 => ?_
  exact ⟨l, hl, Option.some.inj h1⟩
theorem itemAt_fix {l : List SV} {k : Nat} {r : Option SV} (h : itemAt (.fix l) k σ = some r) : getAt k l = r := Option.some.inj h
theorem listAt_obj {j : Nat} {l : List SV} (h : σ.get j = some (.list l)) : listOfObj σ (.obj j) = some l := by
  show asList (σ.get j) = some l
  rw [h]; rfl
theorem SR.turn1 {h' : Heap} {tk : Nat} {a : Addr} {o o' : Obj} (S : W.SR (c.more [(a, o)]) σ γ s) (apx : ∀ q ∈ c.xt, @Ne Nat q.1 a) (hs : Heap.SameBut a s.heap h') (e : h'.get? a = some o') : W.SR (c.more [(a, o')]) σ γ { s with heap := h', toks := tk } :=
  S.turnIt (fun p hp => by rw [List.mem_singleton.mp hp]; exact apx) (fun b o q g => (hs.2 b (q _ (.head _))).trans g) (fun p hp => by rw [List.mem_singleton.mp hp]; exact ⟨e, _, .head _, rfl⟩)
theorem SR.end1 {h' : Heap} {tk : Nat} {a : Addr} {o : Obj} (S : W.SR (c.more [(a, o)]) σ γ s) (apx : ∀ q ∈ c.xt, @Ne Nat q.1 a) (hs : Heap.ExtBut a s.heap h') : W.SR c σ γ { s with heap := h', toks := tk } :=
  (S.turnIt (its' := []) (fun p hp => by rw [List.mem_singleton.mp hp]; exact apx) (fun b o q g => hs b o (q _ (.head _)) g) (fun p hp => nomatch hp)).less
theorem SR.gain1 {tk : Nat} {o : Obj} (S : W.SR c σ γ s) (hf : o.isFreed = false) : W.SR (c.more [(s.heap.objs.size, o)]) σ γ { s with heap := s.heap.push o, toks := tk } ∧ ∀ q ∈ c.xt, @Ne Nat q.1 s.heap.objs.size := by
  obtain ⟨h1, h2⟩ := S.gain (its := [(s.heap.objs.size, o)]) (h' := s.heap.push o) (tk := tk) (fun b o e => Heap.get?_push_of_some _ e) (fun p hp => by rw [List.mem_singleton.mp hp]; exact ⟨Heap.get?_push_size _ hf, Nat.le_refl _⟩)
  exact ⟨h1, h2 _ (.head _)⟩
theorem iter_list (hG : Good W c) (S : W.SR c σ γ s) {t : PySem.Expr} {j : Nat} {l : List SV} (hj : σ.get j = some (.list l)) {Q : Value → Shared → Prop}
    (k : ∀ it I its s2, ItOK W c γ σ.next σ.doms.length t (.lst j) it I → I 0 its → W.SR (c.more its) σ γ s2 → Q it s2) : wpAny (model W.prog W.w) c.A (pyIter (.ref (γ.ρ j))) Q E s := by
  refine x02 (S.thing hj) fun hn _ => ?_
  have hv0 : VR W.K γ σ.next σ.doms.length (.obj j) (.ref (γ.ρ j)) := .obj hn
  refine x23 (S.listAt (listAt_obj hj) hv0) fun a0 vs0 e0 hl0 _ => ?_
  cases e0
  refine wpAny_pyIter_list hl0 ?_
  refine x02 (S.gain1 (o := { cls := .type "list_iterator", data := .fields #[.ref (γ.ρ j), .int 0 0] }) (tk := s.toks) rfl) fun S1 ap1 => ?_
  refine k _ (fun k its => ∃ o, its = [(s.heap.objs.size, o)] ∧ o.cls = .type "list_iterator" ∧ o.data = .fields #[.ref (γ.ρ j), .int k 0]) _ _ ?_ ⟨_, rfl, rfl, rfl⟩ S1
  refine ⟨?_, ?_, ?_⟩
  · rintro k _ ⟨o, rfl, _⟩ p hp
    rw [List.mem_singleton.mp hp]; exact ap1
  · rintro k v σ1 γ1 s1 _ E Q hi ⟨o, rfl, hc, hd⟩ lt hG1 S1 kk
    refine x12 (itemAt_lst hi) fun l1 hl1 hi => ?_
    have hv1 : VR W.K γ1 σ1.next σ1.doms.length (.obj j) (.ref (γ1.ρ j)) := .obj (Nat.lt_of_lt_of_le hn lt.ln)
    refine x24 (S1.listAt hl1 hv1) fun a1 vs e1 hl hvs _ => ?_
    cases e1
    rw [lt.lρ j hn] at hl
    refine x12 (hvs.at hi) fun v' g1 g2 => ?_
    refine wpAny_pyNext_list_item ⟨o, (S1.itGet (.head _)).1, hc, hd⟩ hl (by simpa using g1) fun h' hit hs => ?_
    refine x13 hit fun o' q1 q2 q3 => ?_
    exact ⟨v', rfl, letGo_other q1 q2 (by decide) (kk _ γ1 _ v' ⟨o', rfl, q2, q3⟩ (Ext.refl _ _) (S1.turn1 (tk := s1.toks) ap1 hs q1) g2)⟩
  · rintro k σ1 γ1 s1 _ E Q hi ⟨o, rfl, hc, hd⟩ lt hG1 S1 kk
    refine x12 (itemAt_lst hi) fun l1 hl1 hi => ?_
    have hv1 : VR W.K γ1 σ1.next σ1.doms.length (.obj j) (.ref (γ1.ρ j)) := .obj (Nat.lt_of_lt_of_le hn lt.ln)
    refine x24 (S1.listAt hl1 hv1) fun a1 vs e1 hl hvs _ => ?_
    cases e1
    rw [lt.lρ j hn] at hl
    refine wpAny_pyNext_list_end rfl ⟨o, (S1.itGet (.head _)).1, hc, hd⟩ hl (by simpa using hvs.none hi) fun h' hx => kk _ (S1.end1 (tk := s1.toks) ap1 hx)
theorem iter_tuple (hG : Good W c) (S : W.SR c σ γ s) {t : PySem.Expr} {l : List SV} {v' : Value} (hv : VR W.K γ σ.next σ.doms.length (.tup l) v') {Q : Value → Shared → Prop}
    (k : ∀ it I its s2, ItOK W c γ σ.next σ.doms.length t (.fix l) it I → I 0 its → W.SR (c.more its) σ γ s2 → Q it s2) : wpAny (model W.prog W.w) c.A (pyIter v') Q E s := by
  (refine x33 hv.view fun a vs kk er3 ht hr => ?_; subst er3)
  refine wpAny_pyIter_tuple (⟨_, S.tups hG.X ht, rfl, _, rfl⟩ : s.heap.IsTuple a vs.toArray) ?_
  refine x02 (S.gain1 (o := { cls := .type "tuple_iterator", data := .fields #[.ref a, .int 0 0] }) (tk := s.toks) rfl) fun S1 ap1 => ?_
  refine k _ (fun k its => ∃ o, its = [(s.heap.objs.size, o)] ∧ o.cls = .type "tuple_iterator" ∧ o.data = .fields #[.ref a, .int k 0]) _ _ ?_ ⟨_, rfl, rfl, rfl⟩ S1
  refine ⟨?_, ?_, ?_⟩
  · rintro k _ ⟨o, rfl, _⟩ p hp
    rw [List.mem_singleton.mp hp]; exact ap1
  · rintro k v σ1 γ1 s1 _ E Q hi ⟨o, rfl, hc, hd⟩ lt hG1 S1 kk
    refine x12 ((hr.later lt).at (itemAt_fix hi)) fun v' g1 g2 => ?_
    have I : s1.heap.IsTuple a vs.toArray := ⟨_, S1.tups hG1.X (ht.imp (lt.lZ _) id), rfl, _, rfl⟩
    refine wpAny_pyNext_tuple_item ⟨o, (S1.itGet (.head _)).1, hc, hd⟩ I (by simpa using g1) fun h' hit hs => ?_
    refine x13 hit fun o' q1 q2 q3 => ?_
    exact ⟨v', rfl, letGo_other q1 q2 (by decide) (kk _ γ1 _ v' ⟨o', rfl, q2, q3⟩ (Ext.refl _ _) (S1.turn1 (tk := s1.toks) ap1 hs q1) g2)⟩
  · rintro k σ1 γ1 s1 _ E Q hi ⟨o, rfl, hc, hd⟩ lt hG1 S1 kk
    have I : s1.heap.IsTuple a vs.toArray := ⟨_, S1.tups hG1.X (ht.imp (lt.lZ _) id), rfl, _, rfl⟩
    exact wpAny_pyNext_tuple_end rfl ⟨o, (S1.itGet (.head _)).1, hc, hd⟩ I (by simpa using hr.none (itemAt_fix hi)) fun h' hx => kk _ (S1.end1 (tk := s1.toks) ap1 hx)
theorem iter_range (hG : Good W c) (S : W.SR c σ γ s) {t : PySem.Expr} {l : List SV} {r : Addr} {a b st : Int} {t1 t2 t3 : Tok} (hr : IsRange s.heap r a b st t1 t2 t3) (hsm : Builtin.Range.small a b st = true) (hsz : Builtin.Range.rangeSize a b st = (l.length : Int))
    (hl : ∀ i, i < l.length → getAt i l = some (.int (a + i * st))) {Q : Value → Shared → Prop}
    (k : ∀ it I its s2, ItOK W c γ σ.next σ.doms.length t (.fix l) it I → I 0 its → W.SR (c.more its) σ γ s2 → Q it s2) : wpAny (model W.prog W.w) c.A (pyIter (.ref r)) Q E s := by
  refine wpAny_pyIter_range hr hsm ?_
  refine x02 (S.gain1 (o := { cls := .type "range_iterator", data := .fields #[rawInt a, rawInt (Builtin.Range.rangeSize a b st), rawInt st] }) (tk := s.toks) rfl) fun S1 ap1 => ?_
  refine k _ (fun k its => its = [(s.heap.objs.size, { cls := .type "range_iterator", dict := none, data := .fields #[rawInt (a + k * st), rawInt ((l.length : Int) - k), rawInt st], slots := #[] })]) _ _ ?_ (by rw [hsz]; simp) S1
  refine ⟨?_, ?_, ?_⟩
  · rintro k _ rfl p hp
    rw [List.mem_singleton.mp hp]; exact ap1
  · rintro k v σ1 γ1 s1 _ E Q hi rfl lt hG1 S1 kk
    have hi := itemAt_fix hi
    have hk : k < l.length := by
      rw [getAt_eq] at hi
      refine x11 (List.getElem?_eq_some_iff.mp hi) fun h _ => ?_
      exact h
    have := hl k hk
    rw [this] at hi; obtain rfl := ss hi
    refine wpAny_pyNext_range_item (S1.itGet (.head _)).1 (by omega) fun h' hit hs => ?_
    refine ⟨_, rfl, letGo_other hit rfl (by decide) (kk _ γ1 _ _ ?_ (Ext.refl _ _) (S1.turn1 ap1 hs hit) (.int _ _))⟩
    have e1 : a + (k : Int) * st + st = a + ((k + 1 : Nat) : Int) * st := by push_cast; rw [Int.add_mul]; omega
    have e2 : (l.length : Int) - k - 1 = (l.length : Int) - ((k + 1 : Nat) : Int) := by push_cast; omega
    rw [e1, e2]
  · rintro k σ1 γ1 s1 _ E Q hi rfl lt hG1 S1 kk
    have hi := itemAt_fix hi
    have hk : l.length ≤ k := by
      rw [getAt_eq] at hi
      exact List.getElem?_eq_none_iff.mp hi
    exact wpAny_pyNext_range_end rfl (S1.itGet (.head _)).1 (by omega) fun h' hx => kk _ (S1.end1 (tk := s1.toks) ap1 hx)
end
end Mine
end
section
open PySem PySem.W PyProof.Rows PySem.Calls
set_option tactic.hygienic false
namespace Mine
section
variable {W : Wk} {n : Nat} {S : Sems} {C : Cfg} {c c' : Cx} {fm : Fm} {σ τ : St} {γ γ' : G} {s : Shared} {env : Env} {m : Str → Option Value} {H its its' : List (Addr × Obj)} {E : Value → Shared → Prop}
theorem SR.xtGet (S : W.SR c σ γ s) {p : Addr × Obj} (hp : p ∈ c.xt) : s.heap.get? p.1 = some p.2 := by
  refine x14 (S.nw) fun H h1 h2 h3 h4 => ?_
  exact (h2 p (List.mem_append.mpr (.inl hp))).1
theorem SR.turnTup {h' : Heap} {tk : Nat} {a : Addr} {vs : List Value} {k : Nat} (S : W.SR (c.more its) σ γ s) (apx : ∀ p ∈ its, ∀ q ∈ c.xt, @Ne Nat q.1 p.1) (keep : ∀ (b : Addr) o, (∀ p ∈ its, @Ne Nat b p.1) → s.heap.get? b = some o → h'.get? b = some o)
    (new : ∀ p ∈ its', h'.get? p.1 = some p.2 ∧ ∃ q ∈ its, q.1 = p.1) (ha : h'.get? a = some (tupO vs k)) (fr : @LE.le Nat _ s.heap.objs.size a) : W.SR (c.more its') σ (γ.tup a (tupO vs k)) { s with heap := h', toks := tk } := by
  have S2 := S.turnIt (tk := tk) apx keep new
  refine x12 (S.fr) fun m F Ev => ?_
  refine x14 (S.nw) fun H hH N nd ap => ?_
  have hL : ∀ p ∈ its, @Ne Nat c.L p.1 := fun p hp => Ne.symm (S.itGet hp).2.1
  have hh0 : c.h₀.get? a = none := by
    cases e : c.h₀.get? a with
    | none => rfl
    | some o => exact absurd (Heap.lt_size (F.keep _ _ e)) (Nat.not_lt.mpr fr)
  have lt : ∀ (b : Addr) o, s.heap.get? b = some o → @Ne Nat b a := fun b o e => Nat.ne_of_lt (Nat.lt_of_lt_of_le (Heap.lt_size e) fr)
  refine ⟨SR.same S, ⟨m, ⟨?_, fun b o e => keep b o (fun p hp => ?_) (F.keep b o e), F.above⟩, (⟨Ev.r, Ev.f⟩ : EnvM W.K (c.more its') γ σ.next σ.doms.length σ.env m).later later_tup⟩, ⟨H, hH.later later_tup, fun p hp => ?_, nd, fun q hq r hr => ?_⟩, fun q hq => ?_, S.dm, S.ou.later (d := 0) (d' := 0) later_tup⟩
  · exact F.ns.at fun o e => keep _ o hL e
  · intro e
    have := (S.itGet hp).2.2
    rw [← e] at this
    have e2 : c.h₀.get? b = some o := by assumption
    rw [this] at e2; exact ns e2
  · refine Or.elim (List.mem_append.mp hp) (fun hp => ?_) fun hp => ?_
    · refine Or.elim (List.mem_append.mp hp) (fun hp => ?_) fun hp => ?_
      · obtain ⟨g, q, hq, e⟩ := new p hp
        have := S.itGet hq
        rw [e] at this
        exact ⟨g, this.2⟩
      · have := N p (List.mem_append.mpr (.inl (List.mem_append.mpr (.inr hp))))
        exact ⟨keep _ _ (fun q hq => apx q hq p hp) this.1, this.2⟩
    · have old : ∀ p ∈ H ++ γ.Z, h'.get? p.1 = some p.2 ∧ p.1 ≠ c.L ∧ c.h₀.get? p.1 = none := fun p hp => by
        have := N p (List.mem_append.mpr (.inr hp))
        exact ⟨keep _ _ (fun q hq => Ne.symm (ap q (List.mem_append.mpr (.inl hq)) p hp)) this.1, this.2⟩
      rcases List.mem_append.mp hp with hp | hp
      · exact old p (List.mem_append.mpr (.inl hp))
      · rcases List.mem_cons.mp hp with rfl | hp
        · exact ⟨ha, fun e => absurd F.ns.lt (Nat.not_lt.mpr (e ▸ fr)), hh0⟩
        · exact old p (List.mem_append.mpr (.inr hp))
  · have hqa : @Ne Nat q.1 a := by
      refine Or.elim (List.mem_append.mp hq) (fun hq => ?_) fun hq => ?_
      · obtain ⟨_, q', hq', e⟩ := new q hq
        rw [← e]
        exact lt _ _ (S.itGet hq').1
      · exact lt _ _ (S.less.xtGet hq)
    have old : ∀ r ∈ H ++ γ.Z, @Ne Nat q.1 r.1 := fun r hr => by
      refine Or.elim (List.mem_append.mp hq) (fun hq => ?_) fun hq => ?_
      · obtain ⟨_, q', hq', e⟩ := new q hq
        rw [← e]
        exact ap q' (List.mem_append.mpr (.inl hq')) r hr
      · exact ap q (List.mem_append.mpr (.inr hq)) r hr
    rcases List.mem_append.mp hr with hr | hr
    · exact old r (List.mem_append.mpr (.inl hr))
    · rcases List.mem_cons.mp hr with rfl | hr
      · exact hqa
      · exact old r (List.mem_append.mpr (.inr hr))
  · rcases List.mem_cons.mp hq with rfl | hq
    · exact ⟨vs, k, rfl⟩
    · exact S.tz q hq
noncomputable abbrev enumO (it : Addr) (k : Nat) (old : Value) : Obj := { cls := .type "enumerate", dict := none, data := .fields #[.none, .bool false, .ref it, rawInt k, .none, old], slots := #[] }
theorem iter_enum (hG : Good W c) (S : W.SR c σ γ s) {ts : List PySem.Expr} {x1 : Nat} {tp : Pos} {j : Nat} {l : List SV} (hj : σ.get j = some (.list l)) {Q : Value → Shared → Prop}
    (k : ∀ it I its s2, ItOK W c γ σ.next σ.doms.length (.Tuple ts x1 tp) (.enum j) it I → I 0 its → W.SR (c.more its) σ γ s2 → Q it s2) :
    wpAny (model W.prog W.w) c.A (call (.type "enumerate") [.ref (γ.ρ j)]) (fun x s₁ => wpAny (model W.prog W.w) c.A (pyIter x) Q E s₁) E s := by
  refine x02 (S.thing hj) fun hn _ => ?_
  have hv0 : VR W.K γ σ.next σ.doms.length (.obj j) (.ref (γ.ρ j)) := .obj hn
  obtain ⟨a0, vs0, e0, hl0, _, kk0, hg0⟩ := S.listAt (listAt_obj hj) hv0
  cases e0
  refine call_enumerate_1 hg0 fun h' he hit hsz keep => ?_
  refine wpAny_pyIter_enum (s := { s with heap := h' }) he ?_
  refine x13 hit fun o0 q1 q2 q3 => ?_
  have hne : @Ne Nat (s.heap.objs.size + 1) s.heap.objs.size := Nat.succ_ne_self _
  obtain ⟨S1, ap1⟩ := S.gain (its := [(s.heap.objs.size + 1, enumO s.heap.objs.size 0 .none), (s.heap.objs.size, o0)]) (tk := s.toks) keep (fun p hp => by
    rcases List.mem_cons.mp hp with rfl | hp
    · exact ⟨he, Nat.le_succ _⟩
    · rw [List.mem_singleton.mp hp]; exact ⟨q1, Nat.le_refl _⟩)
  refine k _ (fun k its => ∃ o old, its = [(s.heap.objs.size + 1, enumO s.heap.objs.size k old), (s.heap.objs.size, o)] ∧ o.cls = .type "list_iterator" ∧ o.data = .fields #[.ref (γ.ρ j), .int k 0]) _ _ ?_ ⟨_, _, rfl, q2, q3⟩ S1
  generalize hea : s.heap.objs.size + 1 = e at *
  generalize s.heap.objs.size = it at *
  have apx : ∀ k its, (∃ o old, its = [(e, enumO it k old), (it, o)] ∧ o.cls = .type "list_iterator" ∧ o.data = .fields #[.ref (γ.ρ j), .int k 0]) → ∀ p ∈ its, ∀ q ∈ c.xt, @Ne Nat q.1 p.1 := by
    rintro k _ ⟨o, old, rfl, _⟩ p hp q hq
    rcases List.mem_cons.mp hp with rfl | hp
    · exact ap1 _ (.head _) q hq
    · rw [List.mem_singleton.mp hp]; exact ap1 _ (.tail _ (.head _)) q hq
  refine ⟨apx, ?_, ?_⟩
  · rintro k v σ1 γ1 s1 _ E Q hi ⟨o, old, rfl, hc, hd⟩ lt hG1 S1 kk
    refine x12 (itemAt_enum hi) fun l1 hl1 hi => ?_
    have hv1 : VR W.K γ1 σ1.next σ1.doms.length (.obj j) (.ref (γ1.ρ j)) := .obj (Nat.lt_of_lt_of_le hn lt.ln)
    refine x24 (S1.listAt hl1 hv1) fun a1 vs e1 hl hvs _ => ?_
    cases e1
    rw [lt.lρ j hn] at hl
    cases hi2 : getAt k l1 with
    | none => rw [hi2] at hi; exact ns hi
    | some u =>
    rw [hi2] at hi
    obtain rfl := ss hi
    refine x12 (hvs.at hi2) fun v' g1 g2 => ?_
    refine wpAny_pyNext_enum_item (S1.itGet (.head _)).1 ⟨o, (S1.itGet (.tail _ (.head _))).1, hc, hd⟩ hl (by simpa using g1) hne fun h' heo hit ht hz keep' => ?_
    refine ⟨_, rfl, wpAny_letOwnedTupleGo_enum heo fun h'' he'' hs'' => ?_⟩
    replace hs'' : Heap.SameBut e h' h'' := hs''
    refine x13 hit fun o' w1 w2 w3 => ?_
    have hlt : e < s1.heap.objs.size := Heap.lt_size (S1.itGet (.head _)).1
    have w1' : h''.get? it = some o' := (hs''.2 it (Ne.symm hne)).trans w1
    have ht' : h''.get? s1.heap.objs.size = some (tupO [.int k s1.toks, v'] 0) := (hs''.2 _ (Nat.ne_of_gt hlt)).trans ht
    have he2 : h''.get? e = some (enumO it (k + 1) v') := he''
    refine kk [(e, enumO it (k + 1) v'), (it, o')] (γ1.tup s1.heap.objs.size (tupO [.int k s1.toks, v'] 0)) _ _ ⟨o', v', rfl, w2, w3⟩ ext_tup (S1.turnTup (apx _ _ ⟨o, old, rfl, hc, hd⟩) (fun b ob q g => ?_) (fun p hp => ?_) ht' (Nat.le_refl _)) ?_
    · have q1 := q _ (.head _)
      exact (hs''.2 b q1).trans (keep' b ob q1 (q _ (.tail _ (.head _))) g)
    · rcases List.mem_cons.mp hp with rfl | hp
      · exact ⟨he2, _, .head _, rfl⟩
      · rw [List.mem_singleton.mp hp]; exact ⟨w1', _, .tail _ (.head _), rfl⟩
    · exact .tup (.inl (.head _)) (.cons (.int _ _) (.cons (g2.later later_tup) .nil))
  · rintro k σ1 γ1 s1 _ E Q hi ⟨o, old, rfl, hc, hd⟩ lt hG1 S1 kk
    refine x12 (itemAt_enum hi) fun l1 hl1 hi => ?_
    have hv1 : VR W.K γ1 σ1.next σ1.doms.length (.obj j) (.ref (γ1.ρ j)) := .obj (Nat.lt_of_lt_of_le hn lt.ln)
    refine x24 (S1.listAt hl1 hv1) fun a1 vs e1 hl hvs _ => ?_
    cases e1
    rw [lt.lρ j hn] at hl
    cases hi2 : getAt k l1 with
    | some u => rw [hi2] at hi; exact sn hi
    | none =>
    refine wpAny_pyNext_enum_end rfl (S1.itGet (.head _)).1 ⟨o, (S1.itGet (.tail _ (.head _))).1, hc, hd⟩ hl (by simpa using hvs.none hi2) fun h' hx => kk _ (S1.turnIt (its' := []) (tk := s1.toks) (apx _ _ ⟨o, old, rfl, hc, hd⟩) (fun b ob q g => hx b ob (q _ (.tail _ (.head _))) g) (fun p hp => nomatch hp)).less
end
end Mine
end
section
open PySem PySem.W PyProof.Rows PySem.Calls
set_option tactic.hygienic false
namespace Mine
section
variable {W : Wk} {n : Nat} {S : Sems} {C : Cfg} {c c' : Cx} {fm : Fm} {σ τ : St} {γ γ' : G} {s : Shared} {env : Env} {m : Str → Option Value} {H its its' : List (Addr × Obj)} {E : Value → Shared → Prop}
theorem nt_exact {o : Obj} (h : o.ExactDict) : NT o := nt_of fun vs k => .inr fun e => by rw [h.1] at e; exact absurd (Value.type.inj e) (by decide)
theorem SR.aside (S : W.SR c σ γ s) {j : Nat} {kvs : List (Str × SV)} (hj : lkN j σ.heap = some (.dict kvs)) :
    ∃ od kvs', KV W.K γ σ.next σ.doms.length kvs kvs' ∧ od.IsDictOf (strKind W.prog W.w) kvs' ∧ (γ.ρ j == sysModules) = false ∧ j < σ.next ∧ (∀ q ∈ c.xt, @Ne Nat q.1 (γ.ρ j)) ∧ W.SR (c.more [(γ.ρ j, od)]) { σ with heap := ptN j .hole σ.heap } γ s := by
  refine x24 S.core fun m H K F N ap => ?_
  (refine x23 K.hH.append fun H₁ H₂ er2 hh hf => ?_; subst er2)
  obtain ⟨hn, pre, l0, post, rfl, ho, upd⟩ := hh.split hj
  (refine x24 ho.form fun kvs' od er2 hkv hi hsys => ?_; subst er2)
  have h1 := upd .hole [] .hole
  have nd := K.nd
  have hmem : (γ.ρ j, od) ∈ (pre ++ ([(γ.ρ j, od)] ++ post)) ++ H₂ ++ γ.Z := by simp
  have apx : ∀ q ∈ c.xt, @Ne Nat q.1 (γ.ρ j) := fun q hq => ap q hq _ hmem
  have nt : NT od := by refine x22 hi fun es ep hx _ => ?_; exact nt_exact hx
  have hsub : ∀ p, p ∈ (pre ++ ([] ++ post)) ++ H₂ → p ∈ (pre ++ ([(γ.ρ j, od)] ++ post)) ++ H₂ := fun p hp => by
    simp only [List.nil_append, List.mem_append] at hp
    simp only [List.mem_append, List.mem_cons, List.not_mem_nil, or_false]
    rcases hp with (hp | hp) | hp
    · exact .inl (.inl hp)
    · exact .inl (.inr (.inr hp))
    · exact .inr hp
  have hap : ∀ r ∈ ((pre ++ ([] ++ post)) ++ H₂) ++ γ.Z, @Ne Nat (γ.ρ j) r.1 := fun r hr' => by
    refine Or.elim (List.mem_append.mp hr') (fun hr' => ?_) fun hr' => ?_
    · simp only [List.map_append, List.map_cons, List.map_nil, List.nodup_append, List.nodup_cons, List.append_assoc, List.nil_append, List.cons_append, List.mem_append, List.mem_cons, List.mem_map] at nd
      simp only [List.nil_append, List.mem_append] at hr'
      rcases hr' with (hr' | hr') | hr'
      · exact Ne.symm (nd.2.2 _ ⟨r, hr', rfl⟩ _ (.inl rfl))
      · intro e; exact nd.2.1.1 (.inl ⟨r, hr', e.symm⟩)
      · intro e; exact nd.2.1.1 (.inr ⟨r, hr', e.symm⟩)
    · intro e
      refine x21 (K.tz r hr') fun ws k' ht => ?_
      have a := (N r (by simp only [List.mem_append]; exact .inr (.inr hr'))).1
      have b := (N (γ.ρ j, od) (List.mem_append.mpr (.inr hmem))).1
      rw [← e] at a
      have a' : s.heap.get? (γ.ρ j) = some r.2 := a
      rw [b] at a'
      exact nt ws k' ((Option.some.inj a').trans ht)
  refine ⟨od, kvs', hkv, hi, hsys, hn, apx, ⟨S.sm, ⟨m, F, ⟨K.Ev.r, K.Ev.f⟩⟩, ⟨(pre ++ ([] ++ post)) ++ H₂, h1.both hf, fun p hp => ?_, ?_, fun q hq r hr => ?_⟩, K.tz, K.dm, K.ou⟩⟩
  · rcases List.mem_append.mp hp with hp | hp
    · rcases List.mem_cons.mp hp with rfl | hp
      · exact N _ (List.mem_append.mpr (.inr hmem))
      · exact N _ (List.mem_append.mpr (.inl hp))
    · refine N p (List.mem_append.mpr (.inr ?_))
      rcases List.mem_append.mp hp with hp | hp
      · exact List.mem_append.mpr (.inl (hsub p hp))
      · exact List.mem_append.mpr (.inr hp)
  · have := nd
    simp only [List.map_append, List.map_cons, List.map_nil, List.nodup_append, List.nodup_cons, List.append_assoc, List.nil_append, List.cons_append, List.mem_append, List.mem_cons] at this ⊢
    refine ⟨this.1, this.2.1.2, fun a ha b hb => this.2.2 a ha b (.inr hb)⟩
  · rcases List.mem_cons.mp hq with rfl | hq
    · exact hap r hr
    · refine ap q hq r ?_
      rcases List.mem_append.mp hr with hr | hr
      · exact List.mem_append.mpr (.inl (hsub r hr))
      · exact List.mem_append.mpr (.inr hr)
theorem SR.back {a : Addr} {od : Obj} (S : W.SR (c.more [(a, od)]) σ γ s) {j : Nat} {mo : MO} (hj : lkN j σ.heap = some .hole) (ea : γ.ρ j = a) (apx : ∀ q ∈ c.xt, @Ne Nat q.1 a) (ho : OR W.prog W.w W.K γ σ.next σ.doms.length a mo [(a, od)]) :
    W.SR c { σ with heap := ptN j mo σ.heap } γ s := by
  subst ea
  refine x24 S.core fun m H K F N ap => ?_
  (refine x23 K.hH.append fun H₁ H₂ er2 hh hf => ?_; subst er2)
  obtain ⟨hn, pre, l0, post, rfl, ho', upd⟩ := hh.split hj
  cases ho'
  have ne : ∀ r ∈ ((pre ++ ([] ++ post)) ++ H₂) ++ γ.Z, @Ne Nat (γ.ρ j) r.1 := ap _ (.head _)
  have h1 := upd mo [(γ.ρ j, od)] ho
  have sub : ∀ p, p ∈ (pre ++ ([(γ.ρ j, od)] ++ post)) ++ H₂ → p = (γ.ρ j, od) ∨ p ∈ (pre ++ ([] ++ post)) ++ H₂ := fun p hp => by
    simp only [List.mem_append, List.mem_cons, List.not_mem_nil, or_false] at hp
    simp only [List.nil_append, List.mem_append]
    rcases hp with (hp | hp | hp) | hp
    · exact .inr (.inl (.inl hp))
    · exact .inl hp
    · exact .inr (.inl (.inr hp))
    · exact .inr (.inr hp)
  refine ⟨S.sm, ⟨m, F, ⟨K.Ev.r, K.Ev.f⟩⟩, ⟨_, h1.both hf, fun p hp => ?_, ?_, fun q hq r hr => ?_⟩, K.tz, K.dm, K.ou⟩
  · rcases List.mem_append.mp hp with hp | hp
    · exact N p (List.mem_append.mpr (.inl (.tail _ hp)))
    · refine Or.elim (List.mem_append.mp hp) (fun hp => ?_) fun hp => ?_
      · rcases sub p hp with rfl | hp
        · exact N _ (List.mem_append.mpr (.inl (.head _)))
        · exact N p (List.mem_append.mpr (.inr (List.mem_append.mpr (.inl hp))))
      · exact N p (List.mem_append.mpr (.inr (List.mem_append.mpr (.inr hp))))
  · have := K.nd
    simp only [List.map_append, List.map_cons, List.map_nil, List.nodup_append, List.nodup_cons, List.append_assoc, List.nil_append, List.cons_append, List.mem_append, List.mem_cons, List.mem_map] at this ⊢
    refine ⟨this.1, ⟨?_, this.2.1⟩, fun a ha b hb => ?_⟩
    · rintro (⟨r, hr, e⟩ | ⟨r, hr, e⟩)
      · exact ne r (by simp [hr]) e.symm
      · exact ne r (by simp [hr]) e.symm
    · rcases hb with rfl | hb
      · refine x12 ha fun r hr er2 => ?_; subst er2
        exact Ne.symm (ne r (by simp [hr]))
      · exact this.2.2 a ha b hb
  · rcases List.mem_append.mp hr with hr | hr
    · rcases sub r hr with rfl | hr
      · exact apx q hq
      · exact ap q (.tail _ hq) r (List.mem_append.mpr (.inl hr))
    · exact ap q (.tail _ hq) r (List.mem_append.mpr (.inr hr))
theorem keysIn_at {K : Frag} {k d : Nat} {kvs : List (Str × SV)} {kvs' : List (Str × Value)} (h : KV K γ k d kvs kvs') : ∀ {i : Nat} {v : SV}, getAt i (keysIn kvs) = some v → ∃ x u, v = .str x ∧ kvs'[i]? = some (x, u) ∧ PyData.strOk x = true := by
  induction h with
  | nil => intro i v h; cases i <;> exact ns h
  | cons ok a _ ih =>
    intro i v h
    cases i with
    | zero => obtain rfl := ss h; exact ⟨_, _, rfl, rfl, ok⟩
    | succ i => exact ih (i := i) h
theorem keysIn_none {K : Frag} {k d : Nat} {kvs : List (Str × SV)} {kvs' : List (Str × Value)} (h : KV K γ k d kvs kvs') : ∀ {i : Nat}, getAt i (keysIn kvs) = none → kvs'[i]? = none := by
  induction h with
  | nil => intro i h; rfl
  | cons ok a _ ih =>
    intro i h
    cases i with
    | zero => exact sn h
    | succ i => exact ih (i := i) h
theorem iter_keys (hG : Good W c) {d : Addr} {od : Obj} (hd : (d, od) ∈ c.xt) (S : W.SR c σ γ s) {t : PySem.Expr} {kvs : List (Str × SV)} {kvs' : List (Str × Value)} (hkv : KV W.K γ σ.next σ.doms.length kvs kvs') (hi : od.IsDictOf (strKind W.prog W.w) kvs') (hsys : (d == sysModules) = false) {Q : Value → Shared → Prop}
    (k : ∀ it I its s2, ItOK W c γ σ.next σ.doms.length t (.fix (keysIn kvs)) it I → I 0 its → W.SR (c.more its) σ γ s2 → Q it s2) : wpAny (model W.prog W.w) c.A (pyIter (.ref d)) Q E s := by
  refine x21 hi fun es ep hx => ?_
  refine wpAny_pyIter_dict (knd := strKind W.prog W.w) (kvs := kvs') (ep := ep) hsys ⟨od, es, S.xtGet hd, hx⟩ ?_
  refine x02 (S.gain1 (o := { cls := .type "dict_keyiterator", data := .fields #[.ref d, .int 0 0, .int kvs'.length 0, .int ep 0] }) (tk := s.toks) rfl) fun S1 ap1 => ?_
  refine k _ (fun k its => ∃ o, its = [(s.heap.objs.size, o)] ∧ o.cls = .type "dict_keyiterator" ∧ o.data = .fields #[.ref d, .int k 0, .int kvs'.length 0, .int ep 0]) _ _ ?_ ⟨_, rfl, rfl, rfl⟩ S1
  refine ⟨?_, ?_, ?_⟩
  · rintro k _ ⟨o, rfl, _⟩ p hp
    rw [List.mem_singleton.mp hp]; exact ap1
  · rintro k v σ1 γ1 s1 _ E Q hi ⟨o, rfl, hc, hdt⟩ lt hG1 S1 kk
    refine x23 (keysIn_at hkv (itemAt_fix hi)) fun x u er2 g ok => ?_; subst er2
    refine wpAny_pyNext_dict_item (knd := strKind W.prog W.w) (kvs := kvs') (ep := ep) ⟨o, (S1.itGet (.head _)).1, hc, hdt⟩ ⟨od, es, S1.less.xtGet hd, hx⟩ g fun key h' hk hit hs => ?_
    refine x13 hit fun o' q1 q2 q3 => ?_
    refine x11 (Value.isStrOf_shape hk) fun t' er1 => ?_; subst er1
    exact ⟨_, rfl, letGo_other q1 q2 (by decide) (kk _ γ1 _ _ ⟨o', rfl, q2, q3⟩ (Ext.refl _ _) (S1.turn1 (tk := s1.toks) ap1 hs q1) (.str _ ok))⟩
  · rintro k σ1 γ1 s1 _ E Q hi ⟨o, rfl, hc, hdt⟩ lt hG1 S1 kk
    exact wpAny_pyNext_dict_end (knd := strKind W.prog W.w) (kvs := kvs') (ep := ep) rfl ⟨o, (S1.itGet (.head _)).1, hc, hdt⟩ ⟨od, es, S1.less.xtGet hd, hx⟩ (keysIn_none hkv (itemAt_fix hi)) fun h' hx => kk _ (S1.end1 (tk := s1.toks) ap1 hx)
end
end Mine
end
section
open PySem PySem.W PyProof.Rows PySem.Calls
set_option tactic.hygienic false
namespace Mine
section
variable {W : Wk} {n : Nat} {S : Sems} {C : Cfg} {c c' : Cx} {fm : Fm} {σ τ : St} {γ γ' : G} {s : Shared} {env : Env} {m : Str → Option Value} {H its its' : List (Addr × Obj)} {E : Value → Shared → Prop} {out o1 : Out Fl} {Q : Flow → Shared → Prop}
theorem turn_postx {l : Out Fl} {k : St → R Fl} {Q1 : Flow → Shared → Prop} (h1 : ∀ r τ, (r, τ) ∈ l → (∀ a, r = .ok a → ∃ o1, turn k a τ = some o1 ∧ ∀ q ∈ o1, q ∈ out) ∧ (∀ c v, r = .ex c v → (.ex c v, τ) ∈ out)) (P : Post W c out σ γ (FRel W) Q E)
    (next : ∀ τ o1, k τ = some o1 → ∀ γ' s', Ext σ γ γ' τ → W.SR (c.more its) τ γ' s' → Post W c o1 τ γ' (FRel W) Q E → Q1 .next s' ∧ Q1 .cont s')
    (brk : ∀ s', Q .next s' → Q1 .brk s') (ret : ∀ v s', Q (.ret v) s' → Q1 (.ret v) s') : Post W (c.more its) l σ γ (FRel W) Q1 E := by
  intro r τ hm γ' s' x S'
  refine x02 (h1 r τ hm) fun ha hb => ?_
  cases r with
  | ex cc v => exact fun e h => P (.ex cc v) τ (hb cc v rfl) γ' s' x S'.less e h.less
  | ok a =>
    refine x12 (ha a rfl) fun o1 e2 sub => ?_
    have P' := P.back sub x
    intro b hb
    cases hb with
    | next => exact (next τ o1 e2 γ' s' x S' P').1
    | cont => exact (next τ o1 e2 γ' s' x S' P').2
    | brk => exact brk _ (post_ok e2 P' S'.less .next)
    | ret hv => exact ret _ _ (post_ok e2 P' S'.less (.ret hv))
theorem target_ok (hmf : c.mf = none) (hG : Good W c) {t : PySem.Expr} {v : SV} {v' : Value} (h : (target t).run fm v σ = some τ) (hF : FmOK W c fm γ σ.next σ.doms.length env) (hS : W.SR c σ γ s) (hv : VR W.K γ σ.next σ.doms.length v v') {Q : Unit → Shared → Prop}
    (k : ∀ s', W.SR c τ γ s' → Ext σ γ γ τ → Q () s') : wpAny (model W.prog W.w) c.A (assign t env v') Q E s := by
  cases t <;> try (exact ns h; done)
  · exact wpAny_assign_Name (storeV_ok hF hmf hS hG h hv fun s' S' x _ _ _ => k s' S' x)
  · exact storeT_ok hmf hG h hF hS hv k
theorem loop_ok (hE : PassesOwn (model W.prog W.w) c.A env E) (IH : SemsOK W n S) (hG : Good W c) (hR : Room n c) (hmf : c.mf = none) (hcv : fm.cv = none) {t : PySem.Expr} {body : List Stmt} {src : Src} {it : Value} {I : Nat → List (Addr × Obj) → Prop} {γ₀ : G} {n₀ d₀ : Nat}
    (hF : FmOK W c fm γ₀ n₀ d₀ env) (hI : ItOK W c γ₀ n₀ d₀ t src it I) {fuel k : Nat} (h : loopS S fm t body src fuel k σ = some out) (lt : Later γ₀ γ n₀ d₀ σ.next σ.doms.length) (hk : I k its) (hS : W.SR (c.more its) σ γ s) (P : Post W c out σ γ (FRel W) Q E) :
    codeAny (model W.prog W.w) c.A (.forLoop t it body [] env) (fun r s' => match r with | .ok f => Q f s' | .error e => cameBackBy (model W.prog W.w) c.A env E e s') s := by
  refine codeAny_forLoop_any (fun k' s' => ∃ k τ γ' its o1, loopS S fm t body src k' k τ = some o1 ∧ I k its ∧ Later γ₀ γ' n₀ d₀ τ.next τ.doms.length ∧ W.SR (c.more its) τ γ' s' ∧ Post W c o1 τ γ' (FRel W) Q E) ?_ fuel ⟨k, σ, γ, its, out, h, hk, lt, hS, P⟩
  rintro k' s' ⟨k, τ, γ', its, o1, e0, hk, x, S', P'⟩
  cases k' with
  | zero => exact ns e0
  | succ k' =>
    refine x12 (om e0) fun r hi e0 => ?_
    cases r with
    | none => exact hI.fin k τ γ' s' its _ _ hi hk x hG S' fun s2 S2 => wpAny_execs_nil (post_ok e0 P' S2 .next)
    | some v =>
      · refine x12 (om e0) fun τ1 ht e0 => ?_
        refine x12 (bind_spec e0) fun l2 e3 h3 => ?_
        refine wpAny_mono (hI.item k v τ γ' s' its (notedBy (model W.prog W.w) c.A env (cameBackBy (model W.prog W.w) c.A env E)) (fun v' s₂ => wpAny (model W.prog W.w) c.A (assign t env v') (fun _ s₂ => wpAny (model W.prog W.w) c.A (execs body env) (fun f s₃ => match f with
            | .next | .cont => ∃ m, m < k' + 1 ∧ ∃ k τ γ' its o1, loopS S fm t body src m k τ = some o1 ∧ I k its ∧ Later γ₀ γ' n₀ d₀ τ.next τ.doms.length ∧ W.SR (c.more its) τ γ' s₃ ∧ Post W c o1 τ γ' (FRel W) Q E
            | .brk => Q .next s₃
            | .ret v => Q (.ret v) s₃) (notedBy (model W.prog W.w) c.A env (cameBackBy (model W.prog W.w) c.A env E)) s₂) (notedBy (model W.prog W.w) c.A env (cameBackBy (model W.prog W.w) c.A env E)) s₂) hi hk x hG S' fun its2 γ2 s2 v' hk2 x2 S2 hv => ?_) (fun r s₁ hr => ?_) fun _ _ h => h
        · refine target_ok (c := c.more its2) hmf hG.more ht ((hF.later (x.trans x2.later)).more) S2 hv fun s3 S3 x3 => ?_
          refine wpAny_passesOwn hE (IH.xs _ _ _ _ e3 hcv (c.more its2) γ2 s3 env hmf hG.more ((hF.later ((x.trans x2.later).trans x3.later)).more) S3 hR.more _ _ hE (turn_postx h3 (P'.back (fun _ h => h) (x2.trans x3)) (fun τ4 o4 e4 γ4 s4 x4 S4 P4 => ?_) (fun _ h => h) fun _ _ h => h))
          have lt4 := ((x.trans x2.later).trans x3.later).trans x4.later
          exact ⟨⟨k', by exact Nat.lt_succ_self _, k + 1, τ4, γ4, its2, o4, e4, hk2, lt4, S4, P4⟩, ⟨k', by exact Nat.lt_succ_self _, k + 1, τ4, γ4, its2, o4, e4, hk2, lt4, S4, P4⟩⟩
        · obtain ⟨v', rfl, hw⟩ := hr
          exact hw
end
end Mine
end
section
open PySem PySem.W PyProof.Rows PySem.Calls
set_option tactic.hygienic false
namespace Mine
noncomputable def Begun (W : Wk) (c : Cx) (t : PySem.Expr) (src : Src) (τ : St) (γ : G) (it : Value) (s : Shared) : Prop := ∃ I its, ItOK W c γ τ.next τ.doms.length t src it I ∧ I 0 its ∧ W.SR (c.more its) τ γ s
noncomputable def Starts (W : Wk) (c : Cx) (t : PySem.Expr) (src : Src) (τ : St) (γ : G) (it : Value) (s : Shared) : Prop := match src with
  | .keys j kvs => ∃ od kvs', KV W.K γ τ.next τ.doms.length kvs kvs' ∧ od.IsDictOf (strKind W.prog W.w) kvs' ∧ (γ.ρ j == sysModules) = false ∧ j < τ.next ∧ (∀ q ∈ c.xt, @Ne Nat q.1 (γ.ρ j)) ∧ Begun W (c.more [(γ.ρ j, od)]) t (.fix (keysIn kvs)) { τ with heap := ptN j .hole τ.heap } γ it s
  | .enum j => isTupT t = true → Begun W c t (.enum j) τ γ it s
  | .lst j => Begun W c t (.lst j) τ γ it s
  | .fix l => Begun W c t (.fix l) τ γ it s
section
variable {W : Wk} {n : Nat} {S : Sems} {C : Cfg} {c c' : Cx} {fm : Fm} {σ τ : St} {γ γ' : G} {s : Shared} {env : Env} {m : Str → Option Value} {H its its' : List (Addr × Obj)} {E : Value → Shared → Prop} {out o1 : Out Fl} {Q : Flow → Shared → Prop}
theorem backKs_ok {α : Type} {j : Nat} {kvs : List (Str × SV)} : ∀ {o o' : Out α}, backKs j kvs o = some o' → ∀ r τ, (r, τ) ∈ o → lkN j τ.heap = some .hole ∧ (r, { τ with heap := ptN j (.dict kvs) τ.heap }) ∈ o'
  | [], _, _, _, _, h => nomatch h
  | (r0, τ0) :: l, o', h, r, τ, hm => by
    refine x02 (bm h) fun hh h1 => ?_
    refine x12 (om h1) fun o2 ho h2 => ?_
    obtain rfl := ss h2
    rcases List.mem_cons.mp hm with e | hm
    · cases e; exact ⟨isHole_some hh, .head _⟩
    · refine x02 (backKs_ok ho r τ hm) fun a b => ?_
      exact ⟨a, .tail _ b⟩
theorem exLoop_ok (hE : PassesOwn (model W.prog W.w) c.A env E) (IH : SemsOK W n S) (hG : Good W c) (hR : Room n c) (hmf : c.mf = none) (hcv : fm.cv = none) {t : PySem.Expr} {body : List Stmt} {src : Src} {it : Value}
    (hF : FmOK W c fm γ σ.next σ.doms.length env) (h : exLoop S fm t body src σ = some out) (st : Starts W c t src σ γ it s) (P : Post W c out σ γ (FRel W) Q E) :
    codeAny (model W.prog W.w) c.A (.forLoop t it body [] env) (fun r s' => match r with | .ok f => Q f s' | .error e => cameBackBy (model W.prog W.w) c.A env E e s') s := by
  cases src with
  | lst j =>
    refine x23 st fun I its hI hk hS => ?_
    exact loop_ok hE IH hG hR hmf hcv hF hI h (.refl _ _ _) hk hS P
  | fix l =>
    refine x23 st fun I its hI hk hS => ?_
    exact loop_ok hE IH hG hR hmf hcv hF hI h (.refl _ _ _) hk hS P
  | enum j =>
    refine x02 (bm h) fun q h1 => ?_
    refine x23 (st q) fun I its hI hk hS => ?_
    exact loop_ok hE IH hG hR hmf hcv hF hI h1 (.refl _ _ _) hk hS P
  | keys j kvs =>
    obtain ⟨od, kvs', hkv, hi, hsys, hn, apx, I, its, hI, hk, hS⟩ := st
    refine x12 (om h) fun o2 h2 h1 => ?_
    have hb := backKs_ok h1
    refine loop_ok (c := c.more [(γ.ρ j, od)]) (σ := { σ with heap := ptN j .hole σ.heap }) hE IH hG.more hR.more hmf hcv hF.more hI h2 (.refl _ _ _) hk hS fun r υ hm γ' s' x S' => ?_
    refine x02 (hb r υ hm) fun h3 h4 => ?_
    have ea : γ'.ρ j = γ.ρ j := x.ρ j hn
    have x' : Ext σ γ γ' υ := ⟨x.n, x.d, x.δ, x.ρ, x.Z, x.fz, x.fm⟩
    have ho := OR.dict (prog := W.prog) (w := W.w) (K := W.K) (γ := γ') (n := υ.next) (d := υ.doms.length) (a := γ.ρ j) (hkv.later x'.later) hi hsys
    have S2 : W.SR c { υ with heap := ptN j (.dict kvs) υ.heap } γ' s' := SR.back S' h3 ea apx ho
    have := P r _ h4 γ' s' ⟨x.n, x.d, x.δ, x.ρ, x.Z, x.fz, x.fm⟩ S2
    cases r with
    | ok a => exact this
    | ex cc v =>
      intro e he
      refine x13 he fun l f S3 ap => ?_
      refine this e ⟨l, f, SR.back (c := c.more l) (SR.xtSub (c := (c.more [(γ.ρ j, od)]).more l) S3 (l' := (γ.ρ j, od) :: (l ++ c.xt)) fun q hq => ?_) h3 ea (fun q hq => ?_) ho, fun p hp q hq => ap p hp q (.tail _ hq)⟩
      · rcases List.mem_cons.mp hq with rfl | hq
        · exact List.mem_append.mpr (.inr (.head _))
        · refine Or.elim (List.mem_append.mp hq) (fun hq => ?_) fun hq => ?_
          · exact List.mem_append.mpr (.inl hq)
          · exact List.mem_append.mpr (.inr (.tail _ hq))
      · refine Or.elim (List.mem_append.mp hq) (fun hq => ?_) fun hq => ?_
        · exact Ne.symm (ap q hq (γ.ρ j, od) (.head _))
        · exact apx q hq
set_option tactic.hygienic true in
theorem srcV_ok (hG : Good W c) (hS : W.SR c τ γ s) {t : PySem.Expr} {v : SV} {v' : Value} {o : Out Src} (h : srcV v τ = some o) (hv : VR W.K γ τ.next τ.doms.length v v') {QQ : Value → Shared → Prop}
    (k : ∀ src, (.ok src, τ) ∈ o → ∀ it s', Starts W c t src τ γ it s' → QQ it s') : wpAny (model W.prog W.w) c.A (pyIter v') QQ E s := by
  cases v with
  | tup l =>
    obtain rfl := ss h
    exact iter_tuple hG hS (t := t) hv fun it I its s2 a b d => k _ (.head _) it s2 ⟨I, its, a, b, d⟩
  | obj j =>
    refine x12 (om h) fun mo hj h1 => ?_
    cases mo <;> try ((first | exact ns h1 | obtain rfl := ss h1); done)
    · obtain rfl := ss h1
      cases hv
      exact iter_list hG hS (t := t) (get_of hj) fun it I its s2 a b d => k _ (.head _) it s2 ⟨I, its, a, b, d⟩
    · rename_i kvs
      obtain rfl := ss h1
      cases hv
      refine x26 (hS.aside hj) fun od kvs' hkv hi hsys hn apx S2 => ?_
      exact iter_keys (c := c.more [(γ.ρ j, od)]) (σ := { τ with heap := ptN j .hole τ.heap }) hG.more (.head _) S2 (t := t) hkv hi hsys fun it I its s2 a b d => k _ (.head _) it s2 ⟨od, kvs', hkv, hi, hsys, hn, apx, I, its, a, b, d⟩
  | _ => exact ns h
theorem downFrom_spec : ∀ (n : Nat), (downFrom n).length = n + 1 ∧ ∀ i, i < n + 1 → getAt i (downFrom n) = some (.int ((n : Int) - i))
  | 0 => ⟨rfl, fun i hi => by obtain rfl : i = 0 := by omega
                              rfl⟩
  | n + 1 => by
    refine x02 (downFrom_spec n) fun h1 h2 => ?_
    refine ⟨by simp [downFrom, h1], fun i hi => ?_⟩
    cases i with
    | zero => rfl
    | succ i =>
      have := h2 i (by omega)
      show getAt i (downFrom n) = _
      rw [this]
      congr 2
      push_cast; omega
theorem SR.keep {h' : Heap} {tk : Nat} (S : W.SR c σ γ s) (keep : ∀ (b : Addr) o, s.heap.get? b = some o → h'.get? b = some o) : W.SR c σ γ { s with heap := h', toks := tk } := by
  refine x12 (S.fr) fun m F Ev => ?_
  refine x14 (S.nw) fun H hH N nd ap => ?_
  exact S.grown Ev hH nd ap (F.keeps keep) (N.grown keep)
theorem fixR_some {l : List SV} {o : Out Src} (h : fixR l τ = some o) : l.length ≤ 900 ∧ (.ok (.fix l), τ) ∈ o := by
  refine x02 (bm h) fun q e => ?_
  obtain rfl := ss e
  exact ⟨small_le q, .head _⟩
set_option tactic.hygienic true in
theorem isM1_some {v : SV} (h : isM1 v = true) : v = .int (.negSucc 0) := by
  cases v <;> try (exact tf h; done)
  rename_i i
  rw [show isM1 (.int i) = iB i (.negSucc 0) from rfl, iB_eq, beq_iff_eq] at h
  rw [h]
theorem rangeV_some {vs : List SV} {o : Out Src} (h : rangeV vs τ = some o) : (∃ n, vs = [.int (.ofNat n)] ∧ fixR (upTo n []) τ = some o) ∨ ∃ a, vs = [.int a, .int (.negSucc 0), .int (.negSucc 0)] ∧ downI a τ = some o := by
  cases vs with
  | nil => exact ns h
  | cons v r =>
    cases r with
    | nil =>
      refine x12 (om h) fun n hn h1 => ?_
      exact .inl ⟨n, by rw [natOf_some hn], h1⟩
    | cons w r =>
      refine x12 (om h) fun p hp h1 => ?_
      refine x02 (bm h1) fun q1 h2 => ?_
      refine x02 (bm h2) fun q2 h3 => ?_
      refine x12 (om h3) fun a ha h4 => ?_
      exact .inr ⟨a, by rw [pair_some hp, intOf_some ha, isM1_some q1, isM1_some q2], h4⟩
theorem range_ok (hG : Good W c) (hS : W.SR c τ γ s) {t : PySem.Expr} {vs : List SV} {vs' : List Value} {o : Out Src} (h : rangeV vs τ = some o) (hv : VRs W.K γ τ.next τ.doms.length vs vs') {QQ : Value → Shared → Prop}
    (k : ∀ src, (.ok src, τ) ∈ o → ∀ it s', Starts W c t src τ γ it s' → QQ it s') : wpAny (model W.prog W.w) c.A (call (.type "range") vs') (fun x s₁ => wpAny (model W.prog W.w) c.A (pyIter x) QQ E s₁) E s := by
  have up : ∀ (ob : Obj) (b : Addr) (o : Obj), s.heap.get? b = some o → (s.heap.push ob).get? b = some o := fun ob b o e => Heap.get?_push_of_some _ e
  rcases rangeV_some h with ⟨n, rfl, h1⟩ | ⟨a, rfl, h1⟩
  · refine x02 (fixR_some h1) fun hle hmem => ?_
    refine x23 hv.view fun _ _ er2 h1' r => ?_; subst er2
    cases r
    obtain ⟨t0, rfl⟩ := h1'.view
    refine x03 (upTo_spec n []) fun u1 u2 _ => ?_
    have hlen : (upTo n []).length = n := by rw [u1]; rfl
    replace hle := hlen ▸ hle
    refine call_range_1 ?_
    have S2 := hS.keep (tk := s.toks + 1 + 1) (up { cls := .type "range", data := .fields #[.int 0 s.toks, .int (Int.ofNat n) t0, .int 1 (s.toks + 1)] })
    refine iter_range hG S2 (t := t) (l := upTo n []) (a := 0) (b := Int.ofNat n) (st := 1) (Heap.get?_push_size _ rfl) (small_one (by omega) (by omega) (by simp only [Int.ofNat_eq_natCast]; omega) (by simp only [Int.ofNat_eq_natCast]; omega)) ?_ (fun i hi => ?_) fun it I its s2 a b d => k _ hmem it s2 ⟨I, its, a, b, d⟩
    · rw [rangeSize_one, hlen]; simp only [Int.ofNat_eq_natCast]; split <;> omega
    · rw [u2 i (by rw [← hlen]; exact hi)]; simp
  · refine x23 hv.view fun _ _ er2 h1' r => ?_; subst er2
    obtain ⟨_, _, rfl, h2, r⟩ := r.view
    obtain ⟨_, _, rfl, h3, r⟩ := r.view
    cases r
    obtain ⟨t1, rfl⟩ := h2.view
    obtain ⟨t2, rfl⟩ := h3.view
    cases a with
    | ofNat n =>
      refine x02 (fixR_some h1) fun hle hmem => ?_
      refine x11 h1'.view fun t0 er1 => ?_; subst er1
      refine x02 (downFrom_spec n) fun u1 u2 => ?_
      replace hle := u1 ▸ hle
      refine call_range_3 (by decide) ?_ (.inl (PyProof.noPylong_small (by decide)))
      have S2 := hS.keep (tk := s.toks) (up { cls := .type "range", data := .fields #[.int (Int.ofNat n) t0, .int (Int.negSucc 0) t1, .int (Int.negSucc 0) t2] })
      refine iter_range hG S2 (t := t) (l := downFrom n) (a := Int.ofNat n) (b := Int.negSucc 0) (st := Int.negSucc 0) (Heap.get?_push_size _ rfl) ?_ ?_ (fun i hi => ?_) fun it I its s2 a b d => k _ hmem it s2 ⟨I, its, a, b, d⟩
      · rw [show Int.negSucc 0 = (-1 : Int) from rfl]
        exact small_down (a := Int.ofNat n) (b := -1) (by simp only [Int.ofNat_eq_natCast]; omega) (by simp only [Int.ofNat_eq_natCast]; omega) (by omega) (by omega)
      · have := rangeSize_down (Int.ofNat n) (-1)
        rw [u1]
        show Builtin.Range.rangeSize (Int.ofNat n) (-1) (-1) = _
        rw [this]; simp only [Int.ofNat_eq_natCast]; split <;> omega
      · rw [u2 i (by rw [← u1]; exact hi)]
        congr 2
        show (n : Int) - i = (n : Int) + i * (-1)
        omega
    | negSucc m =>
      refine x02 (bm h1) fun q h2 => ?_
      obtain rfl := Nat.eq_of_beq_eq_true q
      refine x02 (fixR_some h2) fun hle hmem => ?_
      refine x11 h1'.view fun t0 er1 => ?_; subst er1
      refine call_range_3 (by decide) ?_ (.inl (PyProof.noPylong_small (by decide)))
      have S2 := hS.keep (tk := s.toks) (up { cls := .type "range", data := .fields #[.int (Int.negSucc 0) t0, .int (Int.negSucc 0) t1, .int (Int.negSucc 0) t2] })
      refine iter_range hG S2 (t := t) (l := []) (a := Int.negSucc 0) (b := Int.negSucc 0) (st := Int.negSucc 0) (Heap.get?_push_size _ rfl) (by decide) (by decide) (fun i hi => nomatch hi) fun it I its s2 a b d => k _ hmem it s2 ⟨I, its, a, b, d⟩
theorem enum_ok (hG : Good W c) (hS : W.SR c τ γ s) {t : PySem.Expr} {vs : List SV} {vs' : List Value} {o : Out Src} (h : enumV vs τ = some o) (hv : VRs W.K γ τ.next τ.doms.length vs vs') {QQ : Value → Shared → Prop} (ht : isTupT t = true)
    (k : ∀ src, (.ok src, τ) ∈ o → ∀ it s', Starts W c t src τ γ it s' → QQ it s') : wpAny (model W.prog W.w) c.A (call (.type "enumerate") vs') (fun x s₁ => wpAny (model W.prog W.w) c.A (pyIter x) QQ E s₁) E s := by
  refine x12 (om h) fun v hv1 h1 => ?_
  refine x12 (om h1) fun j hj1 h2 => ?_
  refine x12 (om h2) fun l hj h3 => ?_
  obtain rfl := ss h3
  replace hv := (objOf_some hj1) ▸ (single_some hv1) ▸ hv
  (refine x23 hv.view fun _ _ er2 h1 r => ?_; subst er2)
  cases r
  cases h1
  cases t <;> try (first | exact tf ht | cases ht)
  exact iter_enum hG hS (asList_some hj) fun it I its s2 a b d => k _ (.head _) it s2 fun _ => ⟨I, its, a, b, d⟩
end
end Mine
end
section
open PySem PySem.W PyProof.Rows PySem.Calls
set_option tactic.hygienic false
namespace Mine
section
variable {W : Wk} {n : Nat} {S : Sems} {C : Cfg} {c c' : Cx} {fm : Fm} {σ τ : St} {γ γ' : G} {s : Shared} {env : Env} {m : Str → Option Value} {H its its' : List (Addr × Obj)} {E : Value → Shared → Prop} {out o1 : Out Fl} {Q : Flow → Shared → Prop}
theorem srcPlain_ok (IH : SemsOK W n S) (hG : Good W c) (hR : Room n c) {t iter : PySem.Expr} {l1 : Out Src} (h : bindR (S.ev fm iter σ) srcV = some l1) (hF : FmOK W c fm γ σ.next σ.doms.length env) (hS : W.SR c σ γ s) {QQ : Value → Shared → Prop}
    (key : ∀ src τ, (.ok src, τ) ∈ l1 → ∀ γ' it s', Ext σ γ γ' τ → Starts W c t src τ γ' it s' → QQ it s')
    (keyE : ∀ cc v τ, (.ex cc v, τ) ∈ l1 → ∀ γ' s', Ext σ γ γ' τ → W.SR c τ γ' s' → ∀ e, Thrown W c cc v γ' τ e s' → E e s') :
    wpAny (model W.prog W.w) c.A (eval iter env) (fun x s₁ => wpAny (model W.prog W.w) c.A (pyIter x) QQ E s₁) E s := by
  refine x12 (bind_spec h) fun l2 e1 h1 => ?_
  refine IH.ev _ _ _ _ e1 c γ s env hG hF hS hR _ _ ?_
  intro r τ hm γ' s' x S'
  cases r with
  | ex cc v => exact keyE cc v τ ((h1 _ _ hm).2 cc v rfl) γ' s' x S'
  | ok v =>
    intro v' hv
    refine x12 ((h1 _ _ hm).1 v rfl) fun o1 e2 sub => ?_
    exact srcV_ok hG S' e2 hv fun src hm it s2 st => key src τ (sub _ hm) γ' it s2 x st
theorem callN_some {e : PySem.Expr} {x : Str} {args : List PySem.Expr} (h : callN e = some (x, args)) : ∃ xp pos, e = .Call (.Name x xp) args [] pos ∧ plainArgs 4 args = true := by
  refine x12 (om h) fun p h1 h2 => ?_
  refine x12 (om h2) fun y h3 h4 => ?_
  refine x02 (bm h4) fun b h5 => ?_
  (refine x11 (callOf_some h1) fun q er1 => ?_; subst er1)
  refine x11 (nameOfE_some h3) fun r h6 => ?_
  (refine x02 (sp h5) fun er0 er1 => ?_; subst er0; subst er1)
  exact ⟨r, q, by rw [h6], b⟩
theorem enumV_out {vs : List SV} {o : Out Src} (h : enumV vs τ = some o) : ∃ j, o = [(.ok (.enum j), τ)] := by
  refine x12 (om h) fun v _ h1 => ?_
  refine x12 (om h1) fun j _ h2 => ?_
  refine x12 (om h2) fun l _ h3 => ?_
  obtain rfl := ss h3
  exact ⟨j, rfl⟩
theorem srcFn_ok (GO : GlobOK W C) (IH : SemsOK W n S) (hG : Good W c) (hR : Room n c) {t : PySem.Expr} {x : Str} {xp pos : Pos} {args : List PySem.Expr} {b : Bf} {kk : List SV → St → R Src} {l1 : Out Src} (hb : nameV C fm x σ = some (.fn b)) (hp : plainArgs 4 args = true) (h : bindR (evs S fm args σ) kk = some l1) (hF : FmOK W c fm γ σ.next σ.doms.length env) (hS : W.SR c σ γ s) {QQ : Value → Shared → Prop}
    (run : ∀ vs vs' τ γ' s' o, kk vs τ = some o → (∀ q, q ∈ o → q ∈ l1) → W.SR c τ γ' s' → VRs W.K γ' τ.next τ.doms.length vs vs' → (∀ src, (.ok src, τ) ∈ o → ∀ it s2, Starts W c t src τ γ' it s2 → QQ it s2) → wpAny (model W.prog W.w) c.A (call (bfV b) vs') (fun x s₁ => wpAny (model W.prog W.w) c.A (pyIter x) QQ E s₁) E s')
    (key : ∀ src τ, (.ok src, τ) ∈ l1 → ∀ γ' it s', Ext σ γ γ' τ → Starts W c t src τ γ' it s' → QQ it s')
    (keyE : ∀ cc v τ, (.ex cc v, τ) ∈ l1 → ∀ γ' s', Ext σ γ γ' τ → W.SR c τ γ' s' → ∀ e, Thrown W c cc v γ' τ e s' → E e s') :
    wpAny (model W.prog W.w) c.A (eval (.Call (.Name x xp) args [] pos) env) (fun x s₁ => wpAny (model W.prog W.w) c.A (pyIter x) QQ E s₁) E s := by
  refine x12 (bind_spec h) fun l2 e1 h1 => ?_
  refine Call_ (name_ok GO hG hF hS hb fun v' hv => ?_)
  cases hv
  refine callWith_any (Pr := fun _ => True) hp (fun h _ => kept_fn (M := model W.prog W.w) (h := h) b) ?_
  refine evs_ok IH hG hR e1 hF hS ?_
  intro r τ hm γ' s' x S'
  cases r with
  | ex cc v => exact keyE cc v τ ((h1 _ _ hm).2 cc v rfl) γ' s' x S'
  | ok vs =>
    intro vs' hvs
    refine x12 ((h1 _ _ hm).1 vs rfl) fun o1 e2 sub => ?_
    exact ⟨trivial, run vs vs' τ γ' s' o1 e2 sub S' hvs fun src hm it s2 st => key src τ (sub _ hm) γ' it s2 x st⟩
theorem source_ok (GO : GlobOK W C) (IH : SemsOK W n S) (hG : Good W c) (hR : Room n c) {t iter : PySem.Expr} {l1 : Out Src} (h : (source S C iter).run fm σ = some l1) (hF : FmOK W c fm γ σ.next σ.doms.length env) (hS : W.SR c σ γ s) {QQ : Value → Shared → Prop}
    (hen : ∀ j τ, (.ok (.enum j), τ) ∈ l1 → isTupT t = true)
    (key : ∀ src τ, (.ok src, τ) ∈ l1 → ∀ γ' it s', Ext σ γ γ' τ → Starts W c t src τ γ' it s' → QQ it s')
    (keyE : ∀ cc v τ, (.ex cc v, τ) ∈ l1 → ∀ γ' s', Ext σ γ γ' τ → W.SR c τ γ' s' → ∀ e, Thrown W c cc v γ' τ e s' → E e s') :
    wpAny (model W.prog W.w) c.A (eval iter env) (fun x s₁ => wpAny (model W.prog W.w) c.A (pyIter x) QQ E s₁) E s := by
  simp only [source] at h
  refine oc (o := callN iter) (fun hc => ?_) fun p hc => ?_
  · rw [hc] at h; exact srcPlain_ok IH hG hR h hF hS key keyE
  · rw [hc] at h
    obtain ⟨x, args⟩ := p
    refine x22 (callN_some hc) fun xp pos er2 hp => ?_; subst er2
    have h : srcNamed S (nameV C fm x σ) fm args (.Call (.Name x xp) args [] pos) σ = some l1 := h
    unfold srcNamed at h
    have pl := fun h => srcPlain_ok (t := t) (iter := .Call (.Name x xp) args [] pos) (l1 := l1) IH hG hR h hF hS key keyE
    refine oc (o := fnOf (nameV C fm x σ)) (fun hb => ?_) fun b hb => ?_
    · rw [hb] at h; exact pl h
    · rw [hb] at h
      have hb := fnOf_some hb
      cases b <;> try exact pl h
      · exact srcFn_ok GO IH hG hR hb hp h hF hS (fun vs vs' τ γ' s' o e sub S' hv k => range_ok hG S' (t := t) e hv k) key keyE
      · exact srcFn_ok GO IH hG hR hb hp h hF hS (fun vs vs' τ γ' s' o e sub S' hv k => enum_ok hG S' (t := t) e hv (by
          refine x11 (enumV_out e) fun j e1 => ?_
          exact hen _ _ (sub _ (by rw [e1]; exact .head _))) k) key keyE
theorem exFor_ok (GO : GlobOK W C) (hE : PassesOwn (model W.prog W.w) c.A env E) (IH : SemsOK W n S) (hG : Good W c) (hR : Room n c) (hmf : c.mf = none) (hcv : fm.cv = none) {t iter : PySem.Expr} {body orelse : List Stmt} {pos : Pos} (h : exFor C S fm t iter body orelse σ = some out) (hF : FmOK W c fm γ σ.next σ.doms.length env) (hS : W.SR c σ γ s) (P : Post W c out σ γ (FRel W) Q E) :
    wpAny (model W.prog W.w) c.A (exec (.For t iter body orelse pos) env) Q E s := by
  refine x02 (bm h) fun q h8 => ?_
  obtain rfl := isNil_eq q
  refine x02 (bm h8) fun hset h9 => ?_
  refine x12 (bind_spec h9) fun l1 e1 h1 => ?_
  refine wpAny_For (source_ok GO IH hG hR (t := t) e1 hF hS (fun j τ hm => ?_) (fun src τ hm γ' it s' x st => ?_) fun cc v τ hm => P (.ex cc v) τ ((h1 _ _ hm).2 cc v rfl)) (fun x => by cases iter <;> first | rfl | exact tf hset)
  · refine x12 ((h1 _ _ hm).1 _ rfl) fun o1 e2 sub => ?_
    exact (bm e2).1
  · refine x12 ((h1 _ _ hm).1 _ rfl) fun o1 e2 sub => ?_
    exact exLoop_ok hE IH hG hR hmf hcv (hF.later x.later) e2 st (P.back sub x)
end
end Mine
end
section
open PySem PySem.W PyProof.Rows PySem.Calls
set_option tactic.hygienic false
namespace Mine
theorem ptN_same {j : Nat} {o : MO} : ∀ {hp : List (Nat × MO)}, lkN j hp = some o → ptN j o hp = hp
  | [], h => by exact ns h
  | (i, q) :: r, h => by
    rw [lkN_cons] at h
    show (match Nat.beq j i with | true => (i, o) :: r | false => (i, q) :: ptN j o r) = _
    by_cases e : j = i
    · subst e
      rw [if_pos rfl] at h
      rw [Nat.beq_refl]; obtain rfl := ss h; rfl
    · rw [if_neg e] at h
      rw [show Nat.beq j i = false from Bool.eq_false_iff.mpr fun q => e (Nat.eq_of_beq_eq_true q), ptN_same h]
section
variable {prog : Program} {w : World} {K : Frag} {γ : G} {n d : Nat}
theorem HR.one {fz : List (Nat × MO)} {H : List (Addr × Obj)} (hf : HR prog w K γ n d fz H) (nd : (H.map (·.1)).Nodup) {j : Nat} (hj : lkN j fz = some .frame) :
    ∃ o, (γ.ρ j, o) ∈ H ∧ LCg.NsObj o (γ.fm (γ.ρ j)) ∧ ∀ o', LCg.NsObj o' (γ.fm (γ.ρ j)) → ∃ H', HR prog w K γ n d fz H' ∧ H'.map (·.1) = H.map (·.1) ∧ (γ.ρ j, o') ∈ H' ∧ ∀ p ∈ H', p = (γ.ρ j, o') ∨ (p ∈ H ∧ p.1 ≠ γ.ρ j) := by
  obtain ⟨hn, pre, l, post, rfl, ho, upd⟩ := hf.split hj
  (refine x12 ho.form fun o er1 hns => ?_; subst er1)
  refine ⟨o, by simp, hns, fun o' ho' => ?_⟩
  have h1 := upd .frame [(γ.ρ j, o')] (.frame ho')
  rw [ptN_same hj] at h1
  simp only [List.map_append, List.map_cons, List.map_nil, List.nodup_append, List.nodup_cons, List.nil_append, List.cons_append, List.mem_append, List.mem_cons, List.mem_map] at nd
  refine ⟨_, h1, by simp, by simp, fun p hp => ?_⟩
  simp only [List.mem_append, List.mem_cons, List.not_mem_nil, or_false, List.cons_append, List.nil_append] at hp ⊢
  refine Or.elim hp (fun hp => ?_) fun oo => Or.elim oo (fun hp => ?_) fun hp => ?_
  · exact .inr ⟨.inl hp, fun e => nd.2.2 p.1 ⟨p, hp, rfl⟩ _ (.inl rfl) e⟩
  · exact .inl hp
  · exact .inr ⟨.inr (.inr hp), fun e => nd.2.1.1 ⟨p, hp, e⟩⟩
theorem HR.turned {fz : List (Nat × MO)} {H : List (Addr × Obj)} (hf : HR prog w K γ n d fz H) (nd : (H.map (·.1)).Nodup) {h₁ : Heap} : ∀ fs : List Addr, (∀ a ∈ fs, ∃ j, lkN j fz = some .frame ∧ γ.ρ j = a) →
    (∀ a ∈ fs, ∀ o, (a, o) ∈ H → LCg.NsObj o (γ.fm a) → ∃ o', h₁.get? a = some o' ∧ LCg.NsObj o' (γ.fm a)) →
    ∃ H', HR prog w K γ n d fz H' ∧ H'.map (·.1) = H.map (·.1) ∧ ∀ p ∈ H', (p.1 ∈ fs ∧ h₁.get? p.1 = some p.2) ∨ (p.1 ∉ fs ∧ p ∈ H)
  | [], _, _ => ⟨H, hf, rfl, fun p hp => .inr ⟨List.not_mem_nil, hp⟩⟩
  | a :: fs, h1, h2 => by
    refine x13 (HR.turned hf nd (h₁ := h₁) fs (fun b hb => h1 b (.tail _ hb)) (fun b hb => h2 b (.tail _ hb))) fun H' hf' hm hp' => ?_
    by_cases ha : a ∈ fs
    · refine ⟨H', hf', hm, fun p hp => ?_⟩
      refine Or.elim (hp' p hp) (fun qq => x02 qq fun q r => ?_) fun qq => x02 qq fun q r => ?_
      · exact .inl ⟨.tail _ q, r⟩
      · exact .inr ⟨fun e => by rcases List.mem_cons.mp e with e | e; exact q (e ▸ ha); exact q e, r⟩
    · refine x12 (h1 a (.head _)) fun j hj ea => ?_
      subst ea
      refine x13 (hf'.one (by rw [hm]; exact nd) hj) fun o ho hns upd => ?_
      refine Or.elim (hp' _ ho) (fun qq => x02 qq fun q _ => ?_) fun qq => x02 qq fun _ hoH => ?_
      · exact absurd q ha
      refine x12 (h2 _ (.head _) o hoH hns) fun o' g hns' => ?_
      refine x14 (upd o' hns') fun H'' a1 a2 a3 a4 => ?_
      refine ⟨H'', a1, a2.trans hm, fun p hp => ?_⟩
      rcases a4 p hp with rfl | ⟨hp, hne⟩
      · exact .inl ⟨.head _, g⟩
      · refine Or.elim (hp' p hp) (fun qq => x02 qq fun q r => ?_) fun qq => x02 qq fun q r => ?_
        · exact .inl ⟨.tail _ q, r⟩
        · exact .inr ⟨fun e => by rcases List.mem_cons.mp e with e | e; exact hne e; exact q e, r⟩
end
section
variable {W : Wk} {n : Nat} {S : Sems} {C : Cfg} {c c' : Cx} {fm : Fm} {σ τ : St} {γ γ' : G} {s : Shared} {env : Env} {m : Str → Option Value} {H its its' : List (Addr × Obj)} {E : Value → Shared → Prop}
theorem frames_ok (S : W.SR c σ γ s) (hk : c.cs.kind = .function) : s.heap.FunFrames c.h₀ (c.env :: c.outer) := by
  refine x12 (S.fr) fun m F Ev => ?_
  refine x14 (S.nw) fun H hH N nd ap => ?_
  refine x33 F.ns fun oL es ep hL hLd _ => ?_
  have h0 : c.h₀.get? c.L = none := by
    cases q : c.h₀.get? c.L with
    | none => rfl
    | some o => exact absurd (Heap.lt_size q) (Nat.not_lt.mpr F.above)
  refine ⟨by show c.cs.kind ≠ _; rw [hk]; decide, ⟨c.L, oL, rfl, h0, hL, fun vs e => by rw [hLd] at e; cases e⟩, ?_⟩
  have ou := S.ou.1
  (refine x23 hH.append fun H₁ H₂ er2 hh hf => ?_; subst er2)
  generalize c.outer = out at ou
  induction out with
  | nil => trivial
  | cons e out ih =>
    obtain ⟨k1, j, hjn, hj, hfr⟩ := ou e (.head _)
    obtain ⟨_, pre, l, post, rfl, ho, _⟩ := hf.split hj
    refine x12 ho.form fun o er1 hns => ?_; subst er1
    refine x22 hns fun es ep hd _ => ?_
    have hN := N (γ.ρ j, o) (by simp)
    exact ⟨by rw [k1]; decide, ⟨γ.ρ j, o, hfr, hN.2.2, hN.1, fun vs e => by rw [hd] at e; cases e⟩, ih fun e he => ou e (.tail _ he)⟩
theorem nsObj_slots {o : Obj} {m : Str → Option Value} {sl : Array (Option Value)} (h : LCg.NsObj o m) : LCg.NsObj { o with slots := sl } m := h
theorem SR.slots {h₁ : Heap} {tk : Nat} (S : W.SR c σ γ s) (hs : Heap.SlotsOnly ((c.env :: c.outer).filterMap (·.frame)) s.heap h₁) : W.SR c σ γ { s with heap := h₁, toks := tk } := by
  refine x12 (S.fr) fun m F Ev => ?_
  refine x14 (S.nw) fun H hH N nd ap => ?_
  (refine x23 hH.append fun H₁ H₂ er2 hh hf => ?_; subst er2)
  have nd2 := nd
  rw [List.map_append, List.nodup_append] at nd2
  refine x03 nd2 fun ndH nd₂ nd12 => ?_
  have ofs : ∀ a ∈ c.outer.filterMap (·.frame), ∃ j, lkN j σ.froz = some .frame ∧ γ.ρ j = a := fun a ha => by
    refine x12 (List.mem_filterMap.mp ha) fun e he hfr => ?_
    obtain ⟨_, j, _, hj, hfj⟩ := S.ou.1 e he
    exact ⟨j, hj, Option.some.inj (hfj.symm.trans hfr)⟩
  have inH : ∀ a ∈ c.outer.filterMap (·.frame), ∃ o, (a, o) ∈ H₂ ∧ LCg.NsObj o (γ.fm a) := fun a ha => by
    refine x12 (ofs a ha) fun j hj er2 => ?_; subst er2
    refine x13 (hf.one nd₂ hj) fun o ho hns _ => ?_
    exact ⟨o, ho, hns⟩
  have mem_fs : ∀ a, a ∈ (c.env :: c.outer).filterMap (·.frame) → a = c.L ∨ a ∈ c.outer.filterMap (·.frame) := fun a ha => by
    refine Or.elim (List.mem_cons.mp (show a ∈ c.L :: c.outer.filterMap (·.frame) from ha)) (fun h => ?_) fun h => ?_
    · exact .inl h
    · exact .inr h
  have inN : ∀ a ∈ c.outer.filterMap (·.frame), ∃ o, (a, o) ∈ H₂ ∧ s.heap.get? a = some o ∧ @Ne Nat a c.L ∧ c.h₀.get? a = none := fun a ha => by
    refine x12 (inH a ha) fun o ho _ => ?_
    exact ⟨o, ho, N (a, o) (List.mem_append.mpr (.inr (List.mem_append.mpr (.inl (List.mem_append.mpr (.inr ho))))))⟩
  obtain ⟨H', hf', hm, hp'⟩ := hf.turned nd₂ (h₁ := h₁) _ ofs fun a ha o ho hns => by
    have hN := N (a, o) (List.mem_append.mpr (.inr (List.mem_append.mpr (.inl (List.mem_append.mpr (.inr ho))))))
    refine x11 (hs.2.2 a o hN.1) fun sl g => ?_
    exact ⟨_, g, hns⟩
  have h0L : ∀ b o, c.h₀.get? b = some o → b ∉ (c.env :: c.outer).filterMap (·.frame) := fun b o e q => by
    rcases mem_fs b q with rfl | q
    · exact absurd (Heap.lt_size e) (Nat.not_lt.mpr F.above)
    · refine x14 (inN b q) fun _ _ _ _ g => ?_
      rw [g] at e; exact ns e
  have out : ∀ p : Addr × Obj, @Ne Nat p.1 c.L → p.1 ∉ c.outer.filterMap (·.frame) → s.heap.get? p.1 = some p.2 → h₁.get? p.1 = some p.2 := fun p h1 h2 e => by
    rw [hs.2.1 p.1 fun q => ?_]
    · exact e
    · refine Or.elim (mem_fs _ q) (fun q => ?_) fun q => ?_
      · exact h1 q
      · exact h2 q
  refine ⟨SR.same S, ⟨m, ⟨?_, fun b o e => (hs.2.1 b (h0L b o e)).trans (F.keep b o e), F.above⟩, Ev⟩, ⟨H₁ ++ H', hh.both hf', fun p hp => ?_, ?_, fun q hq r hr => ?_⟩, S.tz, S.dm, S.ou⟩
  · refine x32 F.ns fun oL es ep hL r => ?_
    refine x11 (hs.2.2 c.L oL hL) fun sl g => ?_
    exact ⟨_, es, ep, g, r⟩
  · rcases List.mem_append.mp hp with hp | hp
    · have g := N p (List.mem_append.mpr (.inl hp))
      refine ⟨out p g.2.1 (fun q => ?_) g.1, g.2⟩
      refine x12 (inN _ q) fun o ho _ => ?_
      exact ap p hp (p.1, o) (List.mem_append.mpr (.inl (List.mem_append.mpr (.inr ho)))) rfl
    · refine Or.elim (List.mem_append.mp hp) (fun hp => ?_) fun hp => ?_
      · refine Or.elim (List.mem_append.mp hp) (fun hp => ?_) fun hp => ?_
        · have g := N p (List.mem_append.mpr (.inr (List.mem_append.mpr (.inl (List.mem_append.mpr (.inl hp))))))
          refine ⟨out p g.2.1 (fun q => ?_) g.1, g.2⟩
          refine x12 (inN _ q) fun o ho _ => ?_
          exact nd12 p.1 (List.mem_map_of_mem hp) p.1 (List.mem_map.mpr ⟨(p.1, o), ho, rfl⟩) rfl
        · refine Or.elim (hp' p hp) (fun qq => x02 qq fun q g => ?_) fun qq => x02 qq fun q hp => ?_
          · refine x13 (inN _ q) fun o ho g1 g2 => ?_
            exact ⟨g, g2⟩
          · have g := N p (List.mem_append.mpr (.inr (List.mem_append.mpr (.inl (List.mem_append.mpr (.inr hp))))))
            exact ⟨out p g.2.1 q g.1, g.2⟩
      · have g := N p (List.mem_append.mpr (.inr (List.mem_append.mpr (.inr hp))))
        refine ⟨out p g.2.1 (fun q => ?_) g.1, g.2⟩
        refine x12 (inH _ q) fun o ho hns => ?_
        have g2 := N (p.1, o) (List.mem_append.mpr (.inr (List.mem_append.mpr (.inl (List.mem_append.mpr (.inr ho))))))
        refine x21 (S.tz p hp) fun vs k ht => ?_
        refine x22 hns fun es ep hd _ => ?_
        have e : o = p.2 := Option.some.inj (g2.1.symm.trans g.1)
        rw [e, ht] at hd; cases hd
  · rw [List.map_append, hm, ← List.map_append]; exact nd
  · have key : ∀ r ∈ H', ∃ o, (r.1, o) ∈ H₂ := fun r hr => by
      have : r.1 ∈ H₂.map (·.1) := by rw [← hm]; exact List.mem_map_of_mem hr
      refine x12 (List.mem_map.mp this) fun x hx e => ?_
      exact ⟨x.2, by rw [← e]; exact hx⟩
    rcases List.mem_append.mp hr with hr | hr
    · rcases List.mem_append.mp hr with hr | hr
      · exact ap q hq r (List.mem_append.mpr (.inl (List.mem_append.mpr (.inl hr))))
      · refine x11 (key r hr) fun o ho => ?_
        exact ap q hq (r.1, o) (List.mem_append.mpr (.inl (List.mem_append.mpr (.inr ho))))
    · exact ap q hq r (List.mem_append.mpr (.inr hr))
end
end Mine
end
section
open PySem PySem.W PyProof.Rows PySem.Calls
set_option tactic.hygienic false
namespace Mine
section
variable {W : Wk} {n : Nat} {S : Sems} {C : Cfg} {c c' : Cx} {fm : Fm} {σ τ : St} {γ γ' : G} {s : Shared} {env : Env} {m : Str → Option Value} {H rest its its' : List (Addr × Obj)} {E : Value → Shared → Prop}
theorem SR.field1 {tk : Nat} {a : Addr} {o : Obj} {vs : Array Value} {i : Nat} {x : Value} (S : W.SR (c.more ((a, o) :: rest)) σ γ s) (hd : o.data = .fields vs) (apx : ∀ p ∈ (a, o) :: rest, ∀ q ∈ c.xt, @Ne Nat q.1 p.1) (ne : ∀ p ∈ rest, @Ne Nat p.1 a) :
    W.SR (c.more ((a, Obj.mapFields (·.setIfInBounds i x) o) :: rest)) σ γ { s with heap := s.heap.update a (Obj.mapFields (·.setIfInBounds i x)), toks := tk } := by
  refine S.turnIt apx (fun b ob hb g => ?_) fun p hp => ?_
  · exact (Heap.get?_update_other _ _ (Ne.symm (hb _ (.head _)))).trans g
  · rcases List.mem_cons.mp hp with rfl | hp
    · exact ⟨Heap.get?_update_self _ (S.itGet (.head _)).1 (Obj.isFreed_of_fields (Obj.data_mapFields hd _)), _, .head _, rfl⟩
    · exact ⟨(Heap.get?_update_other _ _ (Ne.symm (ne p hp))).trans (S.itGet (.tail _ hp)).1, _, .tail _ hp, rfl⟩
theorem SR.itSub (S : W.SR (c.more its) σ γ s) (h : ∀ q ∈ its', q ∈ its) : W.SR (c.more its') σ γ s :=
  SR.xtSub (c := c.more its) S (l' := its' ++ c.xt) fun q hq => by
    rcases List.mem_append.mp hq with hq | hq
    · exact List.mem_append.mpr (.inl (h q hq))
    · exact List.mem_append.mpr (.inr hq)
theorem cls_map {o : Obj} (f : Array Value → Array Value) : (Obj.mapFields f o).cls = o.cls ∧ (Obj.mapFields f o).dict = o.dict := by
  obtain ⟨a, b, d, e⟩ := o
  cases d <;> exact ⟨rfl, rfl⟩
theorem entry_ok (hk : c.cs.kind = .function) {ea : Addr} {oe : Obj} {vs : Array Value} {head : Value} {hadNext : Bool} (S : W.SR (c.more ((ea, oe) :: rest)) σ γ s) (hd : oe.data = .fields vs) (hsz : 1 < vs.size) (apx : ∀ p ∈ (ea, oe) :: rest, ∀ q ∈ c.xt, @Ne Nat q.1 p.1) (ne : ∀ p ∈ rest, @Ne Nat p.1 ea) {Q : Unit → Shared → Prop}
    (k : ∀ s' T oT ts oe' vs', W.SR (c.more ((ea, oe') :: (T, oT) :: rest)) σ γ s' → oe'.cls = oe.cls → oe'.dict = oe.dict → oe'.data = .fields vs' → vs'[1]? = some (.ref T) → oT.data = .fields ts → 3 < ts.size → ts[3]? = some (rawInt c.L) → (∀ p ∈ (ea, oe) :: rest, @Ne Nat p.1 T) → (∀ q ∈ c.xt, @Ne Nat q.1 T) → Q () s') :
    wpAny (model W.prog W.w) c.A (do let a ← frameOf c.env; let pl ← entryPlaceOf c.L hadNext; let b ← EntryCells.newEntry head a .none (rawInt c.L) .none pl; PySem.setField (.ref ea) 1 b) Q E s := by
  refine wpAny_bind (wpAny_frameOf_fun (outer := c.outer) rfl (frames_ok S (c := c.more _) hk) rfl fun h₁ hs₁ => ?_)
  have S1 : W.SR (c.more ((ea, oe) :: rest)) σ γ { s with heap := h₁ } := SR.slots (c := c.more _) (tk := s.toks) S hs₁
  refine wpAny_bind (wpAny_entryPlaceOf fun pl hpl => ?_)
  skip
  refine wpAny_bind (wpAny_newObj_type ?_ (hpl.sizeOk5 _ _ _ _ _))
  refine x02 (SR.gain1 (c := c.more ((ea, oe) :: rest)) S1 (tk := s.toks) (o := { cls := .type "traceback", dict := none, data := .fields ([head, .ref c.L, .none, rawInt c.L, .none] ++ (if pl.isEmpty then List.replicate 6 Value.none else pl)).toArray }) rfl) fun S2 apT => ?_
  generalize hT : ({ cls := .type "traceback", dict := none, data := .fields ([head, .ref c.L, .none, rawInt c.L, .none] ++ (if pl.isEmpty then List.replicate 6 Value.none else pl)).toArray } : Obj) = oT at *
  have hdT : oT.data = .fields ([head, .ref c.L, .none, rawInt c.L, .none] ++ (if pl.isEmpty then List.replicate 6 Value.none else pl)).toArray := by rw [← hT]
  have S3 : W.SR (c.more ((ea, oe) :: (h₁.objs.size, oT) :: rest)) σ γ { s with heap := h₁.push oT } := by
    refine SR.itSub (its := (h₁.objs.size, oT) :: (ea, oe) :: rest) S2 fun q hq => ?_
    simp only [List.mem_cons] at hq ⊢
    rcases hq with rfl | rfl | hq
    · exact .inr (.inl rfl)
    · exact .inl rfl
    · exact .inr (.inr hq)
  have hTe : @Ne Nat ea h₁.objs.size := apT (ea, oe) (.head _)
  refine wpAny_setField (S3.itGet (.head _)).1 hd hsz ?_
  have S4 := S3.field1 (tk := s.toks) (i := 1) (x := .ref h₁.objs.size) hd (fun p hp q hq => ?_) (fun p hp => ?_)
  · have hdm := Obj.data_mapFields hd (·.setIfInBounds 1 (Value.ref h₁.objs.size))
    refine k _ _ _ _ _ _ S4 (cls_map _).1 (cls_map _).2 hdm (by simp [hsz]) hdT (by simp) (by first | (rfl; done) | (rcases hpl with rfl | ⟨_, _, _, _, _, _, _, rfl⟩ <;> rfl)) (fun p hp => apT p (List.mem_append.mpr (.inl hp))) fun q hq => apT q (List.mem_append.mpr (.inr hq))
  · rcases List.mem_cons.mp hp with rfl | hp
    · exact apx _ (.head _) q hq
    · rcases List.mem_cons.mp hp with rfl | hp
      · exact apT q (List.mem_append.mpr (.inr hq))
      · exact apx _ (.tail _ hp) q hq
  · rcases List.mem_cons.mp hp with rfl | hp
    · exact Ne.symm hTe
    · exact ne p hp
end
end Mine
end
section
open PySem PySem.W PyProof.Rows PySem.Calls
set_option tactic.hygienic false
namespace Mine
section
variable {W : Wk} {n : Nat} {S : Sems} {C : Cfg} {c c' : Cx} {fm : Fm} {σ τ : St} {γ γ' : G} {s : Shared} {env : Env} {m : Str → Option Value} {H rest its its' : List (Addr × Obj)} {E : Value → Shared → Prop}
theorem all2 {α : Type} {P : α → Prop} {a b : α} (x : P a) (y : P b) : ∀ p ∈ [a, b], P p := List.forall_mem_cons.mpr ⟨x, List.forall_mem_cons.mpr ⟨y, List.forall_mem_nil _⟩⟩
theorem all3 {α : Type} {P : α → Prop} {a b d : α} (x : P a) (y : P b) (z : P d) : ∀ p ∈ [a, b, d], P p := List.forall_mem_cons.mpr ⟨x, all2 y z⟩
theorem landed_ok {cc : Nat} {v : SV} {v' : Value} {ea T dx : Addr} {oe oT : Obj} {vs ts : Array Value} {es : List DictEntry} {k : Nat} {more : List (Addr × Obj)} (S : W.SR (c.more ((ea, oe) :: (T, oT) :: (dx, dictOf es k) :: more)) σ γ s)
    (hc : oe.cls = .ref cc) (hdct : oe.dict = some dx) (hd : oe.data = .fields vs) (h1 : vs[1]? = some (.ref T)) (hdT : oT.data = .fields ts) (hsz : 3 < ts.size) (hg : getL (Str.ofString "spot") es = some (some v')) (hv : VR W.K γ σ.next σ.doms.length v v') (hne : @Ne Nat ea dx)
    (apx : ∀ p ∈ (ea, oe) :: (T, oT) :: (dx, dictOf es k) :: more, ∀ q ∈ c.xt, @Ne Nat q.1 p.1) (hTe : @Ne Nat ea T) (hTd : @Ne Nat dx T) {A : Around} {Q : Unit → Shared → Prop} (kk : ∀ s', Thrown W c cc v γ σ (.ref ea) s' → Q () s') :
    wpAny (model W.prog W.w) A (setFlight (.ref ea) none) Q E s := by
  skip
  refine wpAny_bind (wpAny_field (S.itGet (.head _)).1 hd h1 ?_)
  rw [if_pos (show (Value.ref T != Value.none) = true from by rfl)]
  refine wpAny_setField (S.itGet (.tail _ (.head _))).1 hdT hsz ?_
  have S2 : W.SR (c.more ((T, oT) :: (ea, oe) :: [(dx, dictOf es k)])) σ γ s := SR.itSub S (all3 (.tail _ (.head _)) (.head _) (.tail _ (.tail _ (.head _))))
  have S3 := S2.field1 (tk := s.toks) (i := 3) (x := (none : Option Addr).elim Value.none fun f => rawInt f) hdT (all3 (apx _ (.tail _ (.head _))) (apx _ (.head _)) (apx (dx, dictOf es k) (.tail _ (.tail _ (.head _))))) (all2 hTe hTd)
  refine kk _ ⟨[(ea, oe), (dx, dictOf es k), (T, _)], ⟨ea, oe, vs, dx, es, k, v', rfl, hc, hdct, hd, hg, hv, hne, .inr ⟨T, _, _, h1, Obj.data_mapFields hdT (·.setIfInBounds 3 ((none : Option Addr).elim Value.none fun f => rawInt f)), by rw [Array.getElem?_setIfInBounds_self_of_lt hsz]; rfl, Ne.symm hTe, Ne.symm hTd, rfl⟩⟩, SR.itSub S3 (all3 (.tail _ (.head _)) (.tail _ (.tail _ (.head _))) (.head _)), all3 (apx _ (.head _)) (apx (dx, dictOf es k) (.tail _ (.tail _ (.head _)))) (apx (T, oT) (.tail _ (.head _)))⟩
theorem Thrown.opened {cc : Nat} {v : SV} {e : Value} {P : Prop} (h : Thrown W c cc v γ σ e s) (kk : ∀ its ea oe vs dx es k v', e = .ref ea → oe.cls = .ref cc → oe.dict = some dx → oe.data = .fields vs → getL (Str.ofString "spot") es = some (some v') → VR W.K γ σ.next σ.doms.length v v' → @Ne Nat ea dx →
    ((vs[1]? = some .none ∧ its = [(ea, oe), (dx, dictOf es k)]) ∨ ∃ T oT ts, vs[1]? = some (.ref T) ∧ oT.data = .fields ts ∧ ts[3]? = some .none ∧ @Ne Nat T ea ∧ @Ne Nat T dx ∧ its = [(ea, oe), (dx, dictOf es k), (T, oT)]) →
    (ea, oe) ∈ its → (dx, dictOf es k) ∈ its → W.SR (c.more its) σ γ s → (∀ p ∈ its, ∀ q ∈ c.xt, @Ne Nat q.1 p.1) → P) : P := by
  refine x13 h fun its h S ap => ?_
  refine y7_8 h fun ea oe vs dx es k v' h1 h2 h3 h4 h5 h6 h7 h8 => ?_
  have hin : (ea, oe) ∈ its ∧ (dx, dictOf es k) ∈ its := by rcases h8 with ⟨_, rfl⟩ | ⟨_, _, _, _, _, _, _, _, rfl⟩ <;> exact ⟨.head _, .tail _ (.head _)⟩
  exact kk its ea oe vs dx es k v' h1 h2 h3 h4 h5 h6 h7 h8 hin.1 hin.2 S ap
theorem note_ok (hk : c.cs.kind = .function) {cc : Nat} {v : SV} {e : Value} (h : Thrown W c cc v γ σ e s) {Q : Unit → Shared → Prop} (kk : ∀ s', Thrown W c cc v γ σ e s' → Q () s') :
    wpAny (model W.prog W.w) c.A (noteFrame e c.env) (fun _ s₂ => wpAny (model W.prog W.w) c.A (setFlight e none) Q E s₂) E s := by
  refine h.opened fun its ea oe vs dx es k v' er hc hdct hd hg hv hne hcase i1 i2 S ap => ?_; subst er
  skip
  show wpAny _ _ (do
    let head ← PySem.field (.ref ea) 1
    if head != .none then
      if (← PySem.field head 3) == rawInt c.L then return
      PySem.setField head 3 .none
    PySem.setField (.ref ea) 1 (← EntryCells.newEntry head (← frameOf c.env) .none (rawInt c.L) .none (← entryPlaceOf c.L (head != .none)))) _ _ _
  rcases hcase with ⟨h1, rfl⟩ | ⟨T, oT, ts, h1, hdT, h3, hTe, hTd, rfl⟩
  · refine wpAny_bind (wpAny_field (S.itGet (.head _)).1 hd h1 ?_)
    rw [if_neg (by decide)]
    refine entry_ok hk S hd (Array.getElem?_eq_some_iff.mp h1).1 ap (fun p hp => by rw [List.mem_singleton.mp hp]; exact Ne.symm hne) fun s' T oT ts oe' vs' S' c1 c2 c3 c4 c5 c6 c7 c8 c9 => ?_
    refine landed_ok (more := []) S' (c1.trans hc) (c2.trans hdct) c3 c4 c5 c6 hg hv hne (all3 (ap (ea, oe) (.head _)) c9 (ap (dx, dictOf es k) (.tail _ (.head _)))) (c8 _ (.head _)) (c8 (dx, dictOf es k) (.tail _ (.head _))) kk
  · refine wpAny_bind (wpAny_field (S.itGet (.head _)).1 hd h1 ?_)
    rw [if_pos (show (Value.ref T != Value.none) = true from by rfl)]
    refine wpAny_bind (wpAny_field (S.itGet (.tail _ (.tail _ (.head _)))).1 hdT h3 ?_)
    rw [if_neg (show ¬ ((Value.none == rawInt c.L) = true) from by simp [rawInt])]
    refine wpAny_bind (wpAny_setField (S.itGet (.tail _ (.tail _ (.head _)))).1 hdT (Array.getElem?_eq_some_iff.mp h3).1 ?_)
    have S2 : W.SR (c.more ((T, oT) :: (ea, oe) :: [(dx, dictOf es k)])) σ γ s := SR.itSub S (all3 (.tail _ (.tail _ (.head _))) (.head _) (.tail _ (.head _)))
    have apE : ∀ q ∈ c.xt, @Ne Nat q.1 ea := ap _ (.head _)
    have apD : ∀ q ∈ c.xt, @Ne Nat q.1 dx := ap (dx, dictOf es k) (.tail _ (.head _))
    have apT : ∀ q ∈ c.xt, @Ne Nat q.1 T := ap (T, oT) (.tail _ (.tail _ (.head _)))
    have S3 := S2.field1 (tk := s.toks) (i := 3) (x := .none) hdT (all3 apT apE apD) (all2 (Ne.symm hTe) (Ne.symm hTd))
    have S4 : W.SR (c.more ((ea, oe) :: [(dx, dictOf es k)])) σ γ _ := SR.itSub S3 (all2 (.tail _ (.head _)) (.tail _ (.tail _ (.head _))))
    refine entry_ok hk S4 hd (Array.getElem?_eq_some_iff.mp h1).1 (all2 apE apD) (fun p hp => by rw [List.mem_singleton.mp hp]; exact Ne.symm hne) fun s' T oT ts oe' vs' S' c1 c2 c3 c4 c5 c6 c7 c8 c9 => ?_
    exact landed_ok (more := []) S' (c1.trans hc) (c2.trans hdct) c3 c4 c5 c6 hg hv hne (all3 apE c9 apD) (c8 _ (.head _)) (c8 (dx, dictOf es k) (.tail _ (.head _))) kk
theorem leave_ok (hk : c.cs.kind = .function) {cc : Nat} {v : SV} {e : Value} (h : Thrown W c cc v γ σ e s) {Q : Unit → Shared → Prop} (kk : ∀ s', Thrown W c cc v γ σ e s' → Q () s') :
    wpAny (model W.prog W.w) c.A (leaving c.env e) Q E s := by
  skip
  exact wpAny_bind (note_ok hk h kk)
theorem flight_ok {A : Around} {cc : Nat} {v : SV} {e : Value} (h : Thrown W c cc v γ σ e s) {Q : Unit → Shared → Prop} (kk : ∀ s', Thrown W c cc v γ σ e s' → Q () s') :
    wpAny (model W.prog W.w) A (setFlight e none) Q E s := by
  refine h.opened fun its ea oe vs dx es k v' er hc hdct hd hg hv hne hcase i1 i2 S ap => ?_; subst er
  rcases hcase with ⟨h1, rfl⟩ | ⟨T, oT, ts, h1, hdT, h3, hTe, hTd, rfl⟩
  · skip
    refine wpAny_bind (wpAny_field (S.itGet (.head _)).1 hd h1 ?_)
    rw [if_neg (by decide)]
    exact wpAny_pure (kk s ⟨_, ⟨ea, oe, vs, dx, es, k, v', rfl, hc, hdct, hd, hg, hv, hne, .inl ⟨h1, rfl⟩⟩, S, ap⟩)
  · exact landed_ok (k := k) (more := []) (SR.itSub S (all3 (.head _) (.tail _ (.tail _ (.head _))) (.tail _ (.head _)))) hc hdct hd h1 hdT (Array.getElem?_eq_some_iff.mp h3).1 hg hv hne (all3 (ap _ (.head _)) (ap (T, oT) (.tail _ (.tail _ (.head _)))) (ap (dx, dictOf es k) (.tail _ (.head _)))) (Ne.symm hTe) (Ne.symm hTd) kk
end
end Mine
end
section
open PySem PySem.W PyProof.Rows PySem.Calls
set_option tactic.hygienic false
namespace Mine
noncomputable abbrev Cx.callee (c : Cx) (cn : Str) (cs : Scope) (L a : Addr) (ccd : Value) (cl : List (Str × Addr)) : Cx :=
  { c with dp := c.dp + 1, un := c.un + 3, cn := cn, cs := cs, L := L, a := a, ccd := ccd, cl := cl, outer := c.env :: c.outer, mf := none }
section
variable {prog : Program} {w : World} {K : Frag} {γ : G} {n d : Nat}
set_option tactic.hygienic true in
theorem OR.fm {a : Addr} {o : MO} {l : List (Addr × Obj)} (h : OR prog w K γ n d a o l) {f : Nat → Str → Option Value} (e : (∃ q, (a, q) ∈ l) → f a = γ.fm a) : OR prog w K { γ with fm := f } n d a o l := by
  have x : Later γ { γ with fm := f } n d n d := ⟨Nat.le_refl _, Nat.le_refl _, fun _ _ => rfl, fun _ _ => rfl, fun _ h => h⟩
  cases h with
  | list h => exact .list (h.later x)
  | dict h i s => exact .dict (h.later x) i s
  | tdict h i s => exact .tdict (h.later x) i s
  | inst h g => exact .inst ⟨fun y v e => x12 (h.has y v e) fun v' e' r => ⟨v', e', r.later x⟩, h.no, h.len, h.nk⟩ g
  | tab q => exact .tab q
  | hole => exact .hole
  | frame h => exact .frame (by show LCg.NsObj _ (f a); rw [e ⟨_, .head _⟩]; exact h)
  | view h => exact .view h
  | lam h q e1 e2 => exact .lam h q e1 e2
  | cell h r =>
    refine .cell h ?_
    rename_i v v' o
    cases v <;> cases v' <;> first | exact r.elim | exact trivial | exact VR.later x r
  | reel a b c => exact .reel a b c
theorem HR.fm {hp : List (Nat × MO)} {H : List (Addr × Obj)} (h : HR prog w K γ n d hp H) {f : Nat → Str → Option Value} (e : ∀ p ∈ H, f p.1 = γ.fm p.1) : HR prog w K { γ with fm := f } n d hp H := by
  induction h with
  | nil => exact .nil
  | @cons j o r l H' hj ho hr ih => exact .cons hj (ho.fm fun qq => x11 qq fun q hq => e (_, q) (List.mem_append.mpr (.inl hq))) (ih fun p hp => e p (List.mem_append.mpr (.inr hp)))
theorem HR.drop {k : Nat} {hp : List (Nat × MO)} {H : List (Addr × Obj)} (h : HR prog w K γ n d hp H) : ∃ H₁ H₂, H = H₁ ++ H₂ ∧ HR prog w K γ n d (dropNew k hp) H₂ := by
  induction h with
  | nil => exact ⟨[], [], rfl, .nil⟩
  | @cons j o r l H hj ho hr ih =>
    unfold dropNew
    cases Nat.blt j k with
    | true => exact ⟨[], l ++ H, rfl, .cons hj ho hr⟩
    | false =>
      refine x22 ih fun H₁ H₂ er2 h2 => ?_; subst er2
      exact ⟨l ++ H₁, H₂, (List.append_assoc _ _ _).symm, h2⟩
end
section
variable {W : Wk} {n : Nat} {S : Sems} {C : Cfg} {c c' : Cx} {fm : Fm} {σ τ : St} {γ γ' : G} {s : Shared} {env : Env} {m : Str → Option Value} {H rest its its' : List (Addr × Obj)} {E : Value → Shared → Prop}
theorem SR.drop {k : Nat} (S : W.SR c σ γ s) : W.SR c { σ with heap := dropNew k σ.heap } γ s := by
  refine x14 (S.nw) fun H hH N nd ap => ?_
  (refine x23 hH.append fun H₁ H₂ er2 hh hf => ?_; subst er2)
  (refine x22 (hh.drop (k := k)) fun A B er2 hd => ?_; subst er2)
  refine ⟨S.sm, S.fr, ⟨B ++ H₂, hd.both hf, fun p hp => N p ?_, ?_, fun q hq r hr => ap q hq r ?_⟩, S.tz, S.dm, S.ou⟩
  · simp only [List.mem_append] at hp ⊢
    rcases hp with hp | (hp | hp) | hp
    · exact .inl hp
    · exact .inr (.inl (.inl (.inr hp)))
    · exact .inr (.inl (.inr hp))
    · exact .inr (.inr hp)
  · rw [List.append_assoc, List.map_append, List.nodup_append] at nd
    exact nd.2.1
  · simp only [List.mem_append] at hr ⊢
    rcases hr with (hr | hr) | hr
    · exact .inl (.inl (.inr hr))
    · exact .inl (.inr hr)
    · exact .inr hr
theorem Thrown.drop {k : Nat} {cc : Nat} {v : SV} {e : Value} (h : Thrown W c cc v γ σ e s) : Thrown W c cc v γ { σ with heap := dropNew k σ.heap } e s :=
  x13 h fun its f S ap => ⟨its, f, S.drop, ap⟩
theorem SR.leave {cn : Str} {cs : Scope} {L a : Addr} {ccd : Value} {cl : List (Str × Addr)} {k : Nat} {fz : List (Nat × MO)} {f₀ : Nat → Str → Option Value} {ev : List (Str × SV)} (S : W.SR (c.callee cn cs L a ccd cl) τ γ' s) (hfz : τ.froz = (k, .frame) :: fz) (hρ : γ'.ρ k = c.L) (hfm : γ'.fm c.L = m) (hf0 : ∀ a, @Ne Nat a c.L → γ'.fm a = f₀ a)
    (Ev : EnvM W.K c γ' τ.next τ.doms.length ev m) (ab : c.h₀.objs.size ≤ c.L) (ou : Ou c.outer c.tabs τ.next fz γ') : W.SR c { τ with env := ev, froz := fz } { γ' with fm := f₀ } s := by
  refine x12 (S.fr) fun m' F' _ => ?_
  refine x14 (S.nw) fun H hH N nd ap => ?_
  rw [hfz] at hH
  (refine x23 hH.append fun H₁ H₂ er2 hh hf => ?_; subst er2)
  cases hf with
  | @cons _ _ _ l H₃ hk ho hr =>
  (refine x12 ho.form fun o er1 hns => ?_; subst er1)
  rw [hρ] at hns nd N ap
  rw [hfm] at hns
  have hoN := N (c.L, o) (by simp)
  have x : Later γ' { γ' with fm := f₀ } τ.next τ.doms.length τ.next τ.doms.length := ⟨Nat.le_refl _, Nat.le_refl _, fun _ _ => rfl, fun _ _ => rfl, fun _ h => h⟩
  have nd2 := nd
  simp only [List.map_append, List.map_cons, List.map_nil, List.nodup_append, List.nodup_cons, List.nil_append, List.cons_append, List.mem_append, List.mem_cons, List.mem_map] at nd2
  have ne1 : ∀ p ∈ H₁, @Ne Nat p.1 c.L := fun p hp => nd2.2.2 p.1 ⟨p, hp, rfl⟩ _ (.inl rfl)
  have ne3 : ∀ p ∈ H₃, @Ne Nat p.1 c.L := fun p hp e => nd2.2.1.1 ⟨p, hp, e⟩
  have neX : ∀ p ∈ c.xt, @Ne Nat p.1 c.L := fun p hp => ap p hp (c.L, o) (by simp)
  have neZ : ∀ p ∈ γ'.Z, @Ne Nat p.1 c.L := fun p hp e => by
    refine x21 (S.tz p hp) fun vs kk ht => ?_
    have g := (N p (by simp only [List.mem_append]; exact .inr (.inr hp))).1
    rw [e, hoN.1] at g
    refine x22 hns fun es ep hd _ => ?_
    have e2 : o = p.2 := Option.some.inj g
    rw [e2, ht] at hd; cases hd
  refine ⟨S.sm, ⟨m, ⟨hns.ns hoN.1, F'.keep, ab⟩, Ev.later x⟩, ⟨H₁ ++ H₃, ?_, fun p hp => ?_, ?_, fun q hq r hr => ?_⟩, S.tz, S.dm, ou.later x⟩
  · exact HR.both ((hh.fm (f := f₀) fun p hp => (hf0 p.1 (ne1 p hp)).symm).later (γ' := { γ' with fm := f₀ }) ⟨Nat.le_refl _, Nat.le_refl _, fun _ _ => rfl, fun _ _ => rfl, fun _ h => h⟩) (hr.fm (f := f₀) fun p hp => (hf0 p.1 (ne3 p hp)).symm)
  · simp only [List.mem_append] at hp
    rcases hp with hp | (hp | hp) | hp
    · have g := N p (by simp only [List.mem_append]; exact .inl hp); exact ⟨g.1, neX p hp, g.2.2⟩
    · have g := N p (by simp only [List.mem_append]; exact .inr (.inl (.inl hp))); exact ⟨g.1, ne1 p hp, g.2.2⟩
    · have g := N p (by simp only [List.mem_append, List.mem_cons]; exact .inr (.inl (.inr (.inr hp)))); exact ⟨g.1, ne3 p hp, g.2.2⟩
    · have g := N p (by simp only [List.mem_append]; exact .inr (.inr hp)); exact ⟨g.1, neZ p hp, g.2.2⟩
  · simp only [List.map_append, List.nodup_append, List.mem_map]
    exact ⟨nd2.1, nd2.2.1.2, fun x hx y hy => nd2.2.2 x hx y (.inr hy)⟩
  · refine ap q hq r ?_
    simp only [List.mem_append, List.mem_cons] at hr ⊢
    rcases hr with (hr | hr) | hr
    · exact .inl (.inl hr)
    · exact .inl (.inr (.inr hr))
    · exact .inr hr
theorem Thrown.leave {cc : Nat} {v : SV} {e : Value} {cn : Str} {cs : Scope} {L a : Addr} {ccd : Value} {cl : List (Str × Addr)} {k : Nat} {fz : List (Nat × MO)} {f₀ : Nat → Str → Option Value} {ev : List (Str × SV)} (h : Thrown W (c.callee cn cs L a ccd cl) cc v γ' τ e s) (hfz : τ.froz = (k, .frame) :: fz) (hρ : γ'.ρ k = c.L) (hfm : γ'.fm c.L = m) (hf0 : ∀ a, @Ne Nat a c.L → γ'.fm a = f₀ a)
    (Ev : EnvM W.K c γ' τ.next τ.doms.length ev m) (ab : c.h₀.objs.size ≤ c.L) (ou : Ou c.outer c.tabs τ.next fz γ') : Thrown W c cc v { γ' with fm := f₀ } { τ with env := ev, froz := fz } e s := by
  refine x13 h fun its f S ap => ?_
  refine ⟨its, ?_, SR.leave (c := c.more its) S hfz hρ hfm hf0 ⟨Ev.r, Ev.f⟩ ab ou, ap⟩
  have x : Later γ' { γ' with fm := f₀ } τ.next τ.doms.length τ.next τ.doms.length := ⟨Nat.le_refl _, Nat.le_refl _, fun _ _ => rfl, fun _ _ => rfl, fun _ h => h⟩
  refine y7_7 f fun ea oe vs dx es k' v' a1 a2 a3 a4 a5 a6 a7 => ?_
  exact ⟨ea, oe, vs, dx, es, k', v', a1, a2, a3, a4, a5, a6.later x, a7⟩
end
end Mine
end
section
open PySem PySem.W PyProof.Rows PySem.Calls
set_option tactic.hygienic false
namespace Mine
noncomputable def G.call (γ : G) (j : Nat) (L : Addr) (m : Str → Option Value) : G := { γ.at j L with fm := fun a => if a = L then m else γ.fm a }
theorem later_call {γ : G} {n d : Nat} {L : Addr} {m : Str → Option Value} : Later γ (γ.call n L m) n d (n + 1) d :=
  ⟨Nat.le_succ _, Nat.le_refl _, fun _ _ => rfl, fun j h => if_neg (Nat.ne_of_lt h), fun _ h => h⟩
theorem call_fm {γ : G} {n : Nat} {L : Addr} {m : Str → Option Value} : (γ.call n L m).fm L = m := if_pos rfl
theorem call_fm_ne {γ : G} {n : Nat} {L a : Addr} {m : Str → Option Value} (h : @Ne Nat a L) : (γ.call n L m).fm a = γ.fm a := if_neg h
theorem call_ρ {γ : G} {n : Nat} {L : Addr} {m : Str → Option Value} : (γ.call n L m).ρ n = L := if_pos rfl
section
variable {W : Wk} {n : Nat} {S : Sems} {C : Cfg} {c c' : Cx} {fm : Fm} {σ τ : St} {γ γ' : G} {s : Shared} {env : Env} {m : Str → Option Value} {H rest its its' : List (Addr × Obj)} {E : Value → Shared → Prop}
theorem enter_frame (hS : W.SR c σ γ s) (hk : c.cs.kind = .function) {h₁ : Heap} {m' : Str → Option Value} {cn : Str} {cs : Scope} {a : Addr} {ccd : Value} {cl : List (Str × Addr)} {ev : List (Str × SV)} (keep : ∀ b o, s.heap.get? b = some o → h₁.get? b = some o) (hns : h₁.Ns s.heap.objs.size m')
    (he : ∀ m, EnvR W.K (γ.call σ.next c.L m) (σ.next + 1) σ.doms.length ev m') :
    ∃ m H, EnvM W.K c γ σ.next σ.doms.length σ.env m ∧ c.h₀.objs.size ≤ c.L ∧ Core W (c.callee cn cs s.heap.objs.size a ccd cl) { framed σ with env := ev } (γ.call σ.next c.L m) m' H ∧ Fr c.h₀ s.heap.objs.size h₁ m' ∧
      News c.h₀ s.heap.objs.size h₁ (c.xt ++ (H ++ γ.Z)) ∧ (∀ q ∈ c.xt, ∀ r ∈ H ++ γ.Z, @Ne Nat q.1 r.1) ∧ ∀ p ∈ c.xt ++ (H ++ γ.Z), @LT.lt Nat _ p.1 s.heap.objs.size := by
  refine x12 (hS.fr) fun m F Ev => ?_
  refine x14 (hS.nw) fun H hH N nd ap => ?_
  refine x12 (LCg.ns_obj F.ns) fun oL hoL hnsL => ?_
  (refine x23 hH.append fun H₁ H₂ er2 hh hf => ?_; subst er2)
  have hL0 : c.h₀.get? c.L = none := by
    cases q : c.h₀.get? c.L with
    | none => rfl
    | some o => exact absurd (Heap.lt_size q) (Nat.not_lt.mpr F.above)
  have ne : ∀ p ∈ c.xt ++ ((H₁ ++ H₂) ++ γ.Z), @Ne Nat p.1 c.L := fun p hp => (N p hp).2.1
  have lt : ∀ p ∈ c.xt ++ ((H₁ ++ H₂) ++ γ.Z), @LT.lt Nat _ p.1 s.heap.objs.size := fun p hp => Heap.lt_size (N p hp).1
  have x : Later γ (γ.call σ.next c.L m) σ.next σ.doms.length (σ.next + 1) σ.doms.length := later_call
  have hfm : ∀ {hp : List (Nat × MO)} {H : List (Addr × Obj)}, HR W.prog W.w W.K γ σ.next σ.doms.length hp H → (∀ p ∈ H, @Ne Nat p.1 c.L) → HR W.prog W.w W.K (γ.call σ.next c.L m) (σ.next + 1) σ.doms.length hp H := fun h hne =>
    HR.later (γ := { γ with fm := fun a => if a = c.L then m else γ.fm a }) (γ' := γ.call σ.next c.L m) ⟨Nat.le_succ _, Nat.le_refl _, fun _ _ => rfl, fun j h => if_neg (Nat.ne_of_lt h), fun _ h => h⟩ (h.fm fun p hp => if_neg (hne p hp))
  refine ⟨m, H₁ ++ ((c.L, oL) :: H₂), Ev, F.above, ⟨⟨he m, fun mf e => by exact ns e⟩, ?_, ?_, hS.tz, hS.dm, ?_, (fun p hp => ?_), hS.ou.2.2⟩, ⟨hns, fun b o e => keep b o (F.keep b o e), Nat.le_trans F.above (Nat.le_of_lt F.ns.lt)⟩, fun p hp => ?_, fun q hq r hr => ?_, fun p hp => ?_⟩
  · refine HR.both (hfm hh fun p hp => ne p (by simp only [List.mem_append]; exact .inr (.inl (.inl hp)))) ?_
    have hcons := HR.cons (prog := W.prog) (w := W.w) (K := W.K) (γ := γ.call σ.next c.L m) (n := σ.next + 1) (d := σ.doms.length) (j := σ.next) (o := .frame) (l := [(c.L, oL)]) (Nat.lt_succ_self _) (by
      rw [call_ρ]; exact .frame (by rw [call_fm]; exact hnsL)) (hfm hf fun p hp => ne p (by simp only [List.mem_append]; exact .inr (.inl (.inr hp))))
    exact hcons
  · have nd2 := nd
    simp only [List.map_append, List.map_cons, List.nodup_append, List.nodup_cons, List.mem_map, List.mem_cons] at nd2 ⊢
    refine ⟨nd2.1, ⟨fun qq => x12 qq fun p hp e => ne p (by simp only [List.mem_append]; exact .inr (.inl (.inr hp))) e, nd2.2.1⟩, fun u hu v hv => ?_⟩
    rcases hv with rfl | hv
    · refine x12 hu fun p hp er2 => ?_; subst er2
      exact ne p (by simp only [List.mem_append]; exact .inr (.inl (.inl hp)))
    · exact nd2.2.2 u hu v hv
  · intro e he
    rcases List.mem_cons.mp he with rfl | he
    · exact ⟨hk, σ.next, Nat.lt_succ_self _, (by show lkN σ.next ((σ.next, MO.frame) :: σ.froz) = _; rw [lkN_cons, if_pos rfl]), by rw [call_ρ]⟩
    · obtain ⟨k1, j, hj, hfj, hfr⟩ := hS.ou.1 e he
      refine ⟨k1, j, Nat.lt_succ_of_lt hj, ?_, by rw [x.lρ j hj]; exact hfr⟩
      show lkN j ((σ.next, MO.frame) :: σ.froz) = _
      rw [lkN_cons, if_neg (Nat.ne_of_lt hj)]; exact hfj
  · exact ⟨Nat.lt_succ_of_lt (hS.ou.2.1 p hp).1, (x.lρ _ (hS.ou.2.1 p hp).1).trans (hS.ou.2.1 p hp).2⟩
  · have key : ∀ p ∈ c.xt ++ ((H₁ ++ H₂) ++ γ.Z), h₁.get? p.1 = some p.2 ∧ p.1 ≠ s.heap.objs.size ∧ c.h₀.get? p.1 = none := fun p hp => ⟨keep _ _ (N p hp).1, Nat.ne_of_lt (lt p hp), (N p hp).2.2⟩
    simp only [List.mem_append, List.mem_cons] at hp key
    rcases hp with hp | (hp | rfl | hp) | hp
    · exact key p (.inl hp)
    · exact key p (.inr (.inl (.inl hp)))
    · exact ⟨keep _ _ hoL, Nat.ne_of_lt (Heap.lt_size hoL), hL0⟩
    · exact key p (.inr (.inl (.inr hp)))
    · exact key p (.inr (.inr hp))
  · simp only [List.mem_append, List.mem_cons] at hr
    rcases hr with (hr | rfl | hr) | hr
    · exact ap q hq r (by simp only [List.mem_append]; exact .inl (.inl hr))
    · exact ne q (List.mem_append.mpr (.inl hq))
    · exact ap q hq r (by simp only [List.mem_append]; exact .inl (.inr hr))
    · exact ap q hq r (List.mem_append.mpr (.inr hr))
  · simp only [List.mem_append, List.mem_cons] at hp
    rcases hp with hp | (hp | rfl | hp) | hp
    · exact lt p (List.mem_append.mpr (.inl hp))
    · exact lt p (by simp only [List.mem_append]; exact .inr (.inl (.inl hp)))
    · exact Heap.lt_size hoL
    · exact lt p (by simp only [List.mem_append]; exact .inr (.inl (.inr hp)))
    · exact lt p (by simp only [List.mem_append]; exact .inr (.inr hp))
theorem mem_cellsFrom {p : Str × Addr} : ∀ {names : List (Str × NameKind)} {k : Nat} {acc : List (Str × Addr)}, p ∈ cellsFrom k names acc ↔ p ∈ cellsFrom k names [] ∨ p ∈ acc
  | [], _, acc => by unfold cellsFrom; simp
  | (x, kd) :: r, k, acc => by
    unfold cellsFrom
    split
    · rw [mem_cellsFrom (acc := (x, k) :: acc), mem_cellsFrom (acc := [(x, k)])]
      simp only [List.mem_cons, List.not_mem_nil, or_false]
      constructor
      · rintro (h | rfl | h)
        · exact .inl (.inl h)
        · exact .inl (.inr rfl)
        · exact .inr h
      · rintro ((h | rfl) | h)
        · exact .inl h
        · exact .inr (.inl rfl)
        · exact .inr (.inr h)
    · exact mem_cellsFrom
theorem enter_cells {binds : List (Str × SV)} {cm : Str → Option Value} {h : Heap} : ∀ {names : List (Str × NameKind)} {k : Nat} {σ : St} {γ : G} {H : List (Addr × Obj)}, Core W c σ γ m H → (∀ p ∈ H, @LT.lt Nat _ p.1 k) →
    (∀ x a, (x, a) ∈ cellsFrom k names [] → h.IsCell a (cm x)) → (∀ x, (x, NameKind.cell) ∈ names → OVR W.K γ σ.next σ.doms.length (lkS x binds) (cm x)) →
    ∃ γ' H', Core W c (openCells binds names σ).2 γ' m (H' ++ H) ∧ Ext σ γ γ' (openCells binds names σ).2 ∧ γ'.Z = γ.Z ∧ (openCells binds names σ).2.env = σ.env ∧ (openCells binds names σ).2.doms = σ.doms ∧
      (∀ p ∈ H', @LE.le Nat _ k p.1 ∧ h.get? p.1 = some p.2) ∧ ∀ x j, (x, j) ∈ (openCells binds names σ).1 → (x, γ'.ρ j) ∈ cellsFrom k names [] ∧ j < (openCells binds names σ).2.next
  | [], k, σ, γ, H, K, lt, hc, hv => ⟨γ, [], K, Ext.refl _ _, rfl, rfl, rfl, (fun p hp => nomatch hp), (fun x j hj => nomatch hj)⟩
  | (x, kd) :: r, k, σ, γ, H, K, lt, hc, hv => by
    by_cases hkd : kd = .cell
    · subst hkd
      have e0 : cellsFrom k ((x, NameKind.cell) :: r) [] = cellsFrom (k + 1) r [(x, k)] := by
        show (if (NameKind.cell == NameKind.cell) = true then _ else _) = _
        rw [if_pos (by decide)]
      rw [e0] at hc ⊢
      have hk1 : (x, k) ∈ cellsFrom (k + 1) r [(x, k)] := mem_cellsFrom.mpr (.inr (.head _))
      refine x12 (hc x k hk1) fun o ho hd => ?_
      have K1 := K.new (o := .cell (lkS x binds)) (a := k) (l := [(k, o)]) (.cell hd (hv x (.head _))) (fun p hp q hq => by rw [List.mem_singleton.mp hq]; exact Nat.ne_of_lt (lt p hp)) (by simp)
      obtain ⟨γ', H', K', x', hZ, he, hdm, hH', hcs⟩ := enter_cells (binds := binds) (cm := cm) (h := h) (names := r) (k := k + 1) K1 (fun p hp => by
          rcases List.mem_append.mp hp with hp | hp
          · rw [List.mem_singleton.mp hp]; exact Nat.lt_succ_self _
          · exact Nat.lt_succ_of_lt (lt p hp)) (fun y a hy => hc y a (mem_cellsFrom.mpr (.inl hy))) (fun y hy => by
          have := hv y (.tail _ hy)
          revert this
          cases lkS y binds <;> cases cm y <;> intro t <;> first | exact t.elim | exact trivial | exact VR.later later_at t)
      refine ⟨γ', H' ++ [(k, o)], by rw [List.append_assoc]; exact K', ext_new.trans x', hZ, he, hdm, fun p hp => ?_, fun y j hj => ?_⟩
      · rcases List.mem_append.mp hp with hp | hp
        · exact ⟨Nat.le_of_succ_le (hH' p hp).1, (hH' p hp).2⟩
        · rw [List.mem_singleton.mp hp]; exact ⟨Nat.le_refl _, ho⟩
      · rcases List.mem_cons.mp (show (y, j) ∈ (x, σ.next) :: (openCells binds r (σ.new (.cell (lkS x binds)))).1 from hj) with e | hj
        · cases e
          have e2 : γ'.ρ σ.next = k := (x'.ρ σ.next (Nat.lt_succ_self _)).trans (if_pos rfl)
          rw [e2]
          exact ⟨hk1, Nat.lt_of_lt_of_le (Nat.lt_succ_self _) x'.n⟩
        · refine x02 (hcs y j hj) fun q1 q2 => ?_
          exact ⟨mem_cellsFrom.mpr (.inl q1), q2⟩
    · have e1 : openCells binds ((x, kd) :: r) σ = openCells binds r σ := by cases kd <;> first | rfl | exact absurd rfl hkd
      have e2 : cellsFrom k ((x, kd) :: r) [] = cellsFrom k r [] := by
        show (if (kd == NameKind.cell) = true then _ else _) = _
        rw [if_neg (by cases kd <;> first | exact absurd rfl hkd | (intro h; exact tf h))]
      rw [e1, e2]
      rw [e2] at hc
      exact enter_cells K lt hc fun y hy => hv y (.tail _ hy)
end
end Mine
end
section
open PySem PySem.W PyProof.Rows PySem.Calls
set_option tactic.hygienic false
namespace Mine
inductive BR (K : Frag) (γ : G) (n d : Nat) : List (Str × SV) → List (Str × Value) → Prop
  | nil : BR K γ n d [] []
  | cons {x v v' l l'} : VR K γ n d v v' → BR K γ n d l l' → BR K γ n d ((x, v) :: l) ((x, v') :: l')
structure FnSt (W : Wk) (fr : FnRec) (scope : Scope) (cdv : Value) : Prop where
  names : scope.names = fr.names
  kind : scope.kind = .function
  co : scope.isCoroutine = false
  gen : scope.isGenerator = false
  par : ∀ x ∈ fr.params, lkS x fr.names = some .local ∨ lkS x fr.names = some .cell
  pnd : fr.params.Nodup
  good : ∀ x k, lkS x fr.names = some k → (x == ("__debug__" : Str)) = false ∧ (x == ("__classdict__" : Str)) = false
  nnd : (fr.names.map (·.1)).Nodup
  cnd : ((cellsFrom 0 fr.names []).map (·.1)).Nodup
  tab : ∀ t, fr.tab = some t → ∃ P cc, (t, P) ∈ W.tabs ∧ cdv = .ref cc ∧ codeHdIn W.K cc P = true
noncomputable def Binds (W : Wk) (fd : FuncData) (fr : FnRec) : Prop := ∀ args binds, Mine.bindArgs fr.params fr.dfl args = some binds → ∀ γ n d args', VRs W.K γ n d args args' →
  ∃ binds', (∀ S, peek W.K S (PySem.bindArgs fd ⟨args', []⟩) = some binds') ∧ BR W.K γ n d binds binds'
noncomputable def FnOK (W : Wk) (a : Addr) (fr : FnRec) : Prop := ∃ oc od osl name qual params scope dV kV doc pm an cdv ct,
  W.K.lookup a = some ⟨oc, od, .func (fnX name qual params fr.body scope [] dV kV doc pm an cdv ct), osl⟩ ∧ codeIn W.K cdv qual = true ∧ FnSt W fr scope cdv ∧ Binds W (fnX name qual params fr.body scope [] dV kV doc pm an cdv ct) fr
section
variable {K : Frag} {γ γ' : G} {n d n' d' : Nat}
theorem BR.later (x : Later γ γ' n d n' d') {l : List (Str × SV)} {l' : List (Str × Value)} (h : BR K γ n d l l') : BR K γ' n' d' l l' := by
  induction h with
  | nil => exact .nil
  | cons v _ ih => exact .cons (v.later x) ih
theorem BR.keys {l : List (Str × SV)} {l' : List (Str × Value)} (h : BR K γ n d l l') : l'.map (·.1) = l.map (·.1) := by
  induction h with
  | nil => rfl
  | cons v _ ih => simp [ih]
theorem bindL_other {kindOf : Str → Option NameKind} {y : Str} : ∀ {l : List (Str × Value)} {m : Str → Option Value}, (∀ p ∈ l, p.1 ≠ y) → bindL kindOf l m y = m y
  | [], m, _ => rfl
  | (x, v) :: r, m, h => by
    unfold bindL
    rw [bindL_other fun p hp => h p (.tail _ hp)]
    split
    · exact if_neg (Ne.symm (h (x, v) (.head _)))
    · rfl
theorem bindC_other {kindOf : Str → Option NameKind} {y : Str} : ∀ {l : List (Str × Value)} {m : Str → Option Value}, (∀ p ∈ l, p.1 ≠ y) → bindC kindOf l m y = m y
  | [], m, _ => rfl
  | (x, v) :: r, m, h => by
    unfold bindC
    rw [bindC_other fun p hp => h p (.tail _ hp)]
    split
    · rfl
    · exact if_neg (Ne.symm (h (x, v) (.head _)))
theorem BR.envR {kindOf : Str → Option NameKind} {names : List (Str × NameKind)} (hk : ∀ x, kindOf x = lkS x names) {l : List (Str × SV)} {l' : List (Str × Value)} (h : BR K γ n d l l') : (l.map (·.1)).Nodup → ∀ (m : Str → Option Value) x v, lkS x (localsOf names l) = some v → ∃ v', bindL kindOf l' m x = some v' ∧ VR K γ n d v v' := by
  induction h with
  | nil => intro _ m x v e; exact ns e
  | @cons y u u' l l' hu hl ih =>
    intro nd m x v e
    rw [List.map_cons, List.nodup_cons] at nd
    have hnot : ∀ p ∈ l', p.1 ≠ y := fun p hp q => nd.1 (by rw [← hl.keys, ← q]; exact List.mem_map_of_mem hp)
    unfold localsOf at e
    unfold bindL
    refine bc (b := isLocalK (lkS y names)) (fun hy => ?_) fun hy => ?_
    · rw [hy] at e
      rw [if_pos ((hk y).trans (isLocalK_ok hy))]
      dsimp only at e
      rw [lkS_cons] at e
      by_cases q : x = y
      · subst q
        rw [if_pos rfl] at e; obtain rfl := ss e
        exact ⟨u', (bindL_other hnot).trans (if_pos rfl), hu⟩
      · rw [if_neg q] at e
        exact ih nd.2 _ x v e
    · rw [hy] at e; exact ih nd.2 _ x v e
theorem BR.ovr {kindOf : Str → Option NameKind} {l : List (Str × SV)} {l' : List (Str × Value)} (h : BR K γ n d l l') : (l.map (·.1)).Nodup → ∀ (m : Str → Option Value) x, kindOf x = some .cell → m x = none → OVR K γ n d (lkS x l) (bindC kindOf l' m x) := by
  induction h with
  | nil => intro _ m x hx e; show OVR K γ n d none (m x); rw [e]; trivial
  | @cons y u u' l l' hu hl ih =>
    intro nd m x hx e
    rw [List.map_cons, List.nodup_cons] at nd
    have hnot : ∀ p ∈ l', p.1 ≠ y := fun p hp q => nd.1 (by rw [← hl.keys, ← q]; exact List.mem_map_of_mem hp)
    unfold bindC
    rw [lkS_cons]
    by_cases q : x = y
    · subst q
      rw [if_pos rfl, bindC_other hnot, if_neg (by rw [hx]; intro h; cases h), if_pos rfl]
      exact hu
    · rw [if_neg q]
      refine ih nd.2 _ x hx ?_
      split
      · exact e
      · exact (if_neg q).trans e
theorem zipL_sub {β : Type} : ∀ {names : List Str} {vs : List β}, ∀ p ∈ zipL names vs, p.1 ∈ names
  | [], _, p, hp => nomatch hp
  | _ :: _, [], p, hp => nomatch hp
  | x :: names, v :: vs, p, hp => by
    rcases List.mem_cons.mp (show p ∈ (x, v) :: zipL names vs from hp) with rfl | hp
    · exact .head _
    · exact .tail _ (zipL_sub p hp)
theorem zipL_nodup {β : Type} : ∀ {names : List Str} {vs : List β}, names.Nodup → ((zipL names vs).map (·.1)).Nodup
  | [], _, _ => List.nodup_nil
  | _ :: _, [], _ => List.nodup_nil
  | x :: names, v :: vs, h => by
    rw [List.nodup_cons] at h
    show ((x, v) :: zipL names vs).map (·.1) |>.Nodup
    rw [List.map_cons, List.nodup_cons]
    refine ⟨fun hm => ?_, zipL_nodup h.2⟩
    refine x12 (List.mem_map.mp hm) fun p hp e => ?_
    have e2 : p.1 = x := e
    exact h.1 (by rw [← e2]; exact zipL_sub p hp)
theorem bindArgs_zip {names : List Str} {dfl args : List SV} {binds : List (Str × SV)} (h : Mine.bindArgs names dfl args = some binds) : ∃ vs, binds = zipL names vs := by
  refine x02 (bm h) fun _ h1 => ?_
  refine x02 (bm h1) fun _ h2 => ?_
  obtain rfl := ss h2
  exact ⟨_, rfl⟩
end
theorem lkS_of_mem {α : Type} {x : Str} {v : α} : ∀ {l : List (Str × α)}, (l.map (·.1)).Nodup → (x, v) ∈ l → lkS x l = some v
  | [], _, h => nomatch h
  | (y, u) :: r, nd, h => by
    rw [List.map_cons, List.nodup_cons] at nd
    rw [lkS_cons]
    rcases List.mem_cons.mp h with e | h
    · cases e; exact if_pos rfl
    · rw [if_neg fun q => nd.1 (by show y ∈ r.map (·.1); rw [← q]; exact List.mem_map.mpr ⟨(x, v), h, rfl⟩)]
      exact lkS_of_mem nd.2 h
theorem openCells_env {binds : List (Str × SV)} {ev : List (Str × SV)} : ∀ {names : List (Str × NameKind)} {σ : St}, openCells binds names { σ with env := ev } = ((openCells binds names σ).1, { (openCells binds names σ).2 with env := ev })
  | [], σ => rfl
  | (x, k) :: r, σ => by
    cases k <;> first
      | exact openCells_env (names := r) (σ := σ)
      | (show ((x, σ.next) :: (openCells binds r { σ.new (.cell (lkS x binds)) with env := ev }).1, (openCells binds r { σ.new (.cell (lkS x binds)) with env := ev }).2) = _
         rw [openCells_env (names := r) (σ := σ.new (.cell (lkS x binds)))]; rfl)
theorem backTo_mem {α : Type} {env : List (Str × SV)} {fz : List (Nat × MO)} : ∀ {o : Out α} {r : Res α} {τ : St}, (r, τ) ∈ o → (r, { τ with env := env, froz := fz }) ∈ backTo env fz o
  | [], _, _, h => nomatch h
  | (r0, τ0) :: l, r, τ, h => by
    rcases List.mem_cons.mp h with e | h
    · cases e; exact .head _
    · exact .tail _ (backTo_mem h)
theorem dropAll_mem {α : Type} {k : Nat} : ∀ {o : Out α} {r : Res α} {τ : St}, (r, τ) ∈ o → (r, { τ with heap := dropNew k τ.heap }) ∈ dropAll k o
  | [], _, _, h => nomatch h
  | (r0, τ0) :: l, r, τ, h => by
    rcases List.mem_cons.mp h with e | h
    · cases e; exact .head _
    · exact .tail _ (dropAll_mem h)
theorem backR_some {α : Type} {env : List (Str × SV)} {fz : List (Nat × MO)} {m : R α} {o : Out α} (h : backR env fz m = some o) : ∃ o', m = some o' ∧ o = backTo env fz o' := by
  refine x12 (om h) fun o' h1 h2 => ?_
  obtain rfl := ss h2
  exact ⟨o', h1, rfl⟩
end Mine
end
section
open PySem PySem.W PyProof.Rows PySem.Calls
set_option tactic.hygienic false
namespace Mine
structure Room1 (n : Nat) (c : Cx) : Prop where
  d : c.dp + 1 + 3 * n + 8 < recursionLimit
  u : c.un + 3 + 64 * n + 300 < cLine
theorem Room.one {n : Nat} {c : Cx} (r : Room (n + 1) c) : Room1 n c := ⟨rs r.d (by decide), rs r.u (by decide)⟩
section
variable {W : Wk} {n : Nat} {S : Sems} {C : Cfg} {c c' : Cx} {fm : Fm} {σ τ : St} {γ γ' : G} {s : Shared} {env : Env} {m : Str → Option Value} {H rest its its' : List (Addr × Obj)} {E : Value → Shared → Prop} {out : Out SV} {Q : Value → Shared → Prop}
theorem ends_ok {α β : Type} {rel : α → G → Nat → Nat → β → Prop} {cn : Str} {cs : Scope} {L a : Addr} {ccd : Value} {cl : List (Str × Addr)} {σ₁ : St} {γ₁ : G} {k : Nat} {l1 : Out α}
    (Ev : EnvM W.K c γ σ.next σ.doms.length σ.env m) (ab : c.h₀.objs.size ≤ c.L) (ou : Ou c.outer c.tabs σ.next σ.froz γ) (hk : k < σ₁.next) (hfz : σ₁.froz = (k, .frame) :: σ.froz) (hρ : γ₁.ρ k = c.L) (hfm : γ₁.fm c.L = m) (hf0 : ∀ a, @Ne Nat a c.L → γ₁.fm a = γ.fm a)
    (lt : Later γ γ₁ σ.next σ.doms.length σ₁.next σ₁.doms.length) (hkind : cs.kind = .function) {Q' : β → Shared → Prop}
    (hQ : ∀ x τ, (.ok x, τ) ∈ l1 → ∀ γ' s' b, Ext σ γ γ' { τ with env := σ.env, froz := σ.froz } → W.SR c { τ with env := σ.env, froz := σ.froz } γ' s' → (∀ γ'' : G, γ''.ρ = γ'.ρ → γ''.δ = γ'.δ → γ''.Z = γ'.Z → rel x γ'' τ.next τ.doms.length b → Q' b s'))
    (hE : ∀ cc v τ, (.ex cc v, τ) ∈ l1 → ∀ γ' s', Ext σ γ γ' { τ with env := σ.env, froz := σ.froz } → W.SR c { τ with env := σ.env, froz := σ.froz } γ' s' → ∀ e, Thrown W c cc v γ' { τ with env := σ.env, froz := σ.froz } e s' → E e s')
    {Es : Value → Value → Shared → Prop} : Post W (c.callee cn cs L a ccd cl) l1 σ₁ γ₁ rel Q' (fun e s' => wpAny (model W.prog W.w) (c.callee cn cs L a ccd cl).A (leaving (c.callee cn cs L a ccd cl).env e) (fun _ s'' => E e s'') (Es e) s') := by
  intro r τ hm γ' s' x S'
  have e1 : τ.froz = (k, .frame) :: σ.froz := x.fz.trans hfz
  have e2 : γ'.ρ k = c.L := (x.ρ k hk).trans hρ
  have e3 : γ'.fm c.L = m := by rw [x.fm]; exact hfm
  have e4 : ∀ a, @Ne Nat a c.L → γ'.fm a = γ.fm a := fun a ha => by rw [x.fm]; exact hf0 a ha
  have lt2 : Later γ γ' σ.next σ.doms.length τ.next τ.doms.length := lt.trans x.later
  have Ev2 := Ev.later lt2
  have ou2 := ou.later lt2
  have xx : Ext σ γ { γ' with fm := γ.fm } { τ with env := σ.env, froz := σ.froz } := ⟨lt2.ln, lt2.ld, lt2.lδ, lt2.lρ, lt2.lZ, rfl, rfl⟩
  cases r with
  | ok y =>
    intro b hb
    exact hQ y τ hm { γ' with fm := γ.fm } s' b xx (SR.leave S' e1 e2 e3 e4 Ev2 ab ou2) γ' rfl rfl rfl hb
  | ex cc v =>
    intro e he
    refine leave_ok (c := c.callee cn cs L a ccd cl) hkind he fun s'' he' => ?_
    have h2 := Thrown.leave he' e1 e2 e3 e4 Ev2 ab ou2
    refine x13 h2 fun its f S3 ap => ?_
    exact hE cc v τ hm { γ' with fm := γ.fm } s'' xx (SR.less S3) e ⟨its, f, S3, ap⟩
theorem clFn_inv {fr : FnRec} {binds : List (Str × SV)} {k : Nat} {ev : List (Str × SV)} {fz : List (Nat × MO)} {cs : List (Str × Nat) × St} (h : gcR fr.gc k (clBody S fr binds ev fz cs) = some out) :
    ∃ l1, S.xs ⟨fr.names, cs.1, none, fr.tab⟩ fr.body { cs.2 with env := localsOf fr.names binds } = some l1 ∧
      (∀ τ, ∀ fl, (.ok fl, τ) ∈ l1 → ∃ u, (fl = .ret u ∨ (fl = .next ∧ u = .none)) ∧ ∃ hp', ((.ok u, { τ with env := ev, froz := fz, heap := hp' }) ∈ out ∧ ((hp' = τ.heap) ∨ hp' = dropNew k τ.heap))) ∧
      ∀ cc v τ, (.ex cc v, τ) ∈ l1 → ∃ hp', ((.ex cc v, { τ with env := ev, froz := fz, heap := hp' }) ∈ out ∧ ((hp' = τ.heap) ∨ hp' = dropNew k τ.heap)) := by
  obtain ⟨o', ho', sub⟩ : ∃ o', clBody S fr binds ev fz cs = some o' ∧ ∀ q ∈ o', ∃ hp', (q.1, { q.2 with heap := hp' }) ∈ out ∧ (hp' = q.2.heap ∨ hp' = dropNew k q.2.heap) := by
    skip
    refine mc h (fun hg h => ?_) fun hg h => ?_
    · refine x12 (om h) fun o' ho' h1 => ?_
      obtain rfl := ss h1
      exact ⟨o', ho', fun q hq => ⟨_, dropAll_mem hq, .inr rfl⟩⟩
    · exact ⟨out, h, fun q hq => ⟨_, hq, .inl rfl⟩⟩
  (refine x12 (backR_some ho') fun o2 h2 er2 => ?_; subst er2)
  refine x12 (bind_spec h2) fun l1 e1 h1 => ?_
  refine ⟨l1, e1, fun τ fl hm => ?_, fun cc v τ hm => sub _ (backTo_mem (env := ev) (fz := fz) ((h1 _ _ hm).2 cc v rfl))⟩
  refine x12 ((h1 _ _ hm).1 fl rfl) fun o1 e2 sub1 => ?_
  cases fl <;> try ((first | exact ns e2 | obtain rfl := ss e2); done)
  · obtain rfl := ss e2; exact ⟨.none, .inr ⟨rfl, rfl⟩, sub _ (backTo_mem (env := ev) (fz := fz) (sub1 _ (.head _)))⟩
  · obtain rfl := ss e2; exact ⟨_, .inl rfl, sub _ (backTo_mem (env := ev) (fz := fz) (sub1 _ (.head _)))⟩
theorem clFn_code (IH : SemsOK W n S) (hG : Good W c) (hR : Room1 n c) {a : Addr} {fr : FnRec} (FO : FnOK W a fr) {args : List SV} {args' : List Value} (h : clFn S fr args σ = some out) (hS : W.SR c σ γ s) (ha : VRs W.K γ σ.next σ.doms.length args args') (P : Post W c out σ γ (VRel W) Q E) :
    codeAny (model W.prog W.w) c.A (.call (.ref a) ⟨args', []⟩) (fun r s' => match r with | .ok (.ret v) => Q v s' | .ok _ => False | .error e => E e s') s := by
  obtain ⟨oc, od, osl, name, qual, params, scope, dV, kV, doc, pm, an, cdv, ct, hlook, hcode, F, B⟩ := FO
  refine x12 (om h) fun binds hb h1 => ?_
  refine x12 (B args binds hb γ σ.next σ.doms.length args' ha) fun binds' hpk hbr => ?_
  obtain ⟨vs, hz⟩ := bindArgs_zip hb
  have hnd : (binds.map (·.1)).Nodup := by rw [hz]; exact zipL_nodup F.pnd
  have hsub : ∀ p ∈ binds', p.1 ∈ fr.params := fun p hp => by
    have : p.1 ∈ binds'.map (·.1) := List.mem_map_of_mem hp
    rw [hbr.keys] at this
    refine x12 (List.mem_map.mp this) fun q hq e => ?_
    rw [← e]; rw [hz] at hq; exact zipL_sub q hq
  have X := hS.K hG
  refine x12 (hS.fr) fun m0 F0 Ev0 => ?_
  have hcdr := codeRec_of X hcode
  refine (codeAny_call_function (fd := fnX name qual params fr.body scope [] dV kV doc pm an cdv ct) (body := fr.body) (lo3 hR.d) (X _ _ hlook) rfl F.co F.gen rfl hcdr (kp_binds X hpk _ _ _ _ ?_))
  have hkindX : ∀ x, (envOfC qual scope s.heap.objs.size a cdv).kindOf x = lkS x fr.names := fun x => by rw [lkS_lookup, ← F.names]; rfl
  refine wpAny_newFunctionEnv_cells F.kind (fun p hp => ?_) fun env' he s₁ hx => ?_
  · have := F.par p.1 (hsub p hp)
    rw [lkS_lookup, ← F.names] at this
    rcases this with q | q
    · exact .inl q
    · exact .inr ⟨q, cellsFrom_some _ _ _ (.inl q)⟩
  subst he
  have hk₁ := hx.toInCall.keep
  refine ⟨(hG.T.nolimit.keeps F0.keep).keeps hk₁, codeAny_func ?_⟩
  obtain ⟨h₁, tk, rfl, hns⟩ : ∃ h₁ tk, s₁ = { s with heap := h₁, toks := tk } ∧ s₁.heap.Ns s.heap.objs.size (bindL (envOfC qual scope s.heap.objs.size a cdv).kindOf binds' fun _ => none) := by
    refine x21 hx.toInCall.same fun h₁ tk e => ?_
    exact ⟨h₁, tk, e, hx.toInCall.ns⟩
  obtain ⟨m, H, Ev, ab, K0, F1, N1, ap1, lt1⟩ := enter_frame (cn := qual) (cs := scope) (a := a) (ccd := cdv) (cl := cellsFrom (s.heap.objs.size + 1) scope.names []) (ev := localsOf fr.names binds) hS hG.k hk₁ hns
    (fun m x v e => (hbr.later later_call).envR (γ := γ.call σ.next c.L m) hkindX hnd _ x v e)
  have cnd2 : ((cellsFrom (s.heap.objs.size + 1) fr.names []).map (·.1)).Nodup := by rw [cellsFrom_names fr.names (s.heap.objs.size + 1) 0 [] [] rfl]; exact F.cnd
  obtain ⟨γ', H', K1, x1, hZ, hev, hdm, hH', hcs⟩ := enter_cells (binds := binds) (cm := bindC (envOfC qual scope s.heap.objs.size a cdv).kindOf binds' fun _ => none) (h := h₁) (names := fr.names) (k := s.heap.objs.size + 1) K0
    (fun p hp => Nat.lt_succ_of_lt (lt1 p (by simp only [List.mem_append]; exact .inr (.inl hp)))) (fun x b hm => by
      have hm' : (cellsFrom (s.heap.objs.size + 1) scope.names []).lookup x = some b := by rw [F.names]; exact lookup_of_mem_nodup cnd2 hm
      exact hx.cell x b hm') (fun x hm => by
      exact (hbr.later later_call).ovr hnd _ x ((hkindX x).trans (lkS_of_mem F.nnd hm)) rfl)
  have oe := openCells_env (binds := binds) (ev := localsOf fr.names binds) (names := fr.names) (σ := framed σ)
  rw [oe] at K1 x1 hcs hdm
  generalize hcsE : openCells binds fr.names (framed σ) = cs at *
  have lt2 : Later γ γ' σ.next σ.doms.length cs.2.next cs.2.doms.length := later_call.trans x1.later
  have hfz : cs.2.froz = (σ.next, .frame) :: σ.froz := x1.fz
  have hS1 : W.SR (c.callee qual scope s.heap.objs.size a cdv (cellsFrom (s.heap.objs.size + 1) scope.names [])) { cs.2 with env := localsOf fr.names binds } γ' { s with heap := h₁, toks := tk } := by
    rw [hs_of hS]
    refine Core.sr (c := c.callee qual scope s.heap.objs.size a cdv (cellsFrom (s.heap.objs.size + 1) scope.names [])) K1 F1 (fun p hp => ?_) fun q hq r hr => ?_
    · rw [hZ] at hp
      simp only [List.mem_append] at hp
      rcases hp with hp | (hp | hp) | hp
      · exact N1 p (by simp only [List.mem_append]; exact .inl hp)
      · refine ⟨(hH' p hp).2, fun e => ?_, ?_⟩
        · have := (hH' p hp).1
          rw [e] at this
          exact absurd this (Nat.not_succ_le_self _)
        · cases q : c.h₀.get? p.1 with
          | none => rfl
          | some o =>
            have := Heap.lt_size (F0.keep _ _ q)
            exact absurd (Nat.lt_of_lt_of_le this (Nat.le_of_succ_le (hH' p hp).1)) (Nat.lt_irrefl _)
      · exact N1 p (by simp only [List.mem_append]; exact .inr (.inl hp))
      · exact N1 p (by simp only [List.mem_append]; exact .inr (.inr hp))
    · rw [hZ] at hr
      simp only [List.mem_append] at hr
      rcases hr with (hr | hr) | hr
      · exact Nat.ne_of_lt (Nat.lt_of_lt_of_le (lt1 q (List.mem_append.mpr (.inl hq))) (Nat.le_of_succ_le (hH' r hr).1))
      · exact ap1 q hq r (List.mem_append.mpr (.inl hr))
      · exact ap1 q hq r (List.mem_append.mpr (.inr hr))
  have hG1 : Good W (c.callee qual scope s.heap.objs.size a cdv (cellsFrom (s.heap.objs.size + 1) scope.names [])) := ⟨hG.X, hG.T, F.kind, hG.tb, hG.ex⟩
  have hF1 : FmOK W (c.callee qual scope s.heap.objs.size a cdv (cellsFrom (s.heap.objs.size + 1) scope.names [])) ⟨fr.names, cs.1, none, fr.tab⟩ γ' cs.2.next cs.2.doms.length (c.callee qual scope s.heap.objs.size a cdv (cellsFrom (s.heap.objs.size + 1) scope.names [])).env := by
    refine ⟨F.kind, rfl, rfl, hkindX, fun x j hj _ => ?_, fun t ht => ?_, fun _ => rfl, (fun q e => by exact ns e), fun x k e => F.good x k e⟩
    · refine x02 (hcs x j (lkS_mem hj)) fun q1 q2 => ?_
      refine ⟨?_, q2⟩
      show (cellsFrom (s.heap.objs.size + 1) scope.names []).lookup x = _
      rw [F.names]; exact lookup_of_mem_nodup cnd2 q1
    · refine x23 (F.tab t ht) fun P cc h1 h2 h3 => ?_
      have ht2 := hS.ou.2.1 (t, P) (by rw [hG.tb]; exact h1)
      refine ⟨Nat.lt_of_lt_of_le ht2.1 lt2.ln, cc, h2, ?_⟩
      rw [lt2.lρ t ht2.1, ht2.2]
      exact codeHd_of_K hG.X h3
  refine x13 (clFn_inv h1) fun l1 e1 hok hex => ?_
  refine IH.xs _ _ _ _ e1 rfl (c.callee qual scope s.heap.objs.size a cdv (cellsFrom (s.heap.objs.size + 1) scope.names [])) γ' _ _ rfl hG1 hF1 hS1 ⟨hR.d, hR.u⟩ _ _ PassesOwn.leaving ?_
  refine ends_ok (σ₁ := { cs.2 with env := localsOf fr.names binds }) (k := σ.next) (Es := fun _ e' s'' => E e' s'') Ev ab hS.ou (Nat.lt_of_lt_of_le (Nat.lt_succ_self _) x1.n) hfz ((x1.ρ _ (Nat.lt_succ_self _)).trans call_ρ) (by rw [x1.fm]; exact call_fm) (fun b hb => by rw [x1.fm]; exact call_fm_ne hb) lt2 F.kind ?_ ?_
  · intro fl τ hm γ2 s2 b xx S2 γ3 e1 e2 e3 hb
    obtain ⟨u, hu, hp', hmem, hhp⟩ := hok τ fl hm
    have l3 : Later γ3 γ2 τ.next τ.doms.length τ.next τ.doms.length := ⟨Nat.le_refl _, Nat.le_refl _, fun j _ => by rw [e2], fun j _ => by rw [e1], fun q hq => by rw [← e3]; exact hq⟩
    have hv : VR W.K γ2 τ.next τ.doms.length u (match (generalizing := false) b with | .ret v => v | _ => .none) := by
      rcases hu with rfl | ⟨rfl, rfl⟩
      · cases hb with | ret hv => exact hv.later l3
      · cases hb; exact .none
    have S3 : W.SR c { τ with env := σ.env, froz := σ.froz, heap := hp' } γ2 s2 := by
      rcases hhp with rfl | rfl
      · exact S2
      · exact S2.drop
    exact P (.ok u) _ hmem γ2 s2 ⟨xx.n, xx.d, xx.δ, xx.ρ, xx.Z, rfl, xx.fm⟩ S3 _ hv
  · intro cc v τ hm γ2 s2 xx S2 e he
    refine x12 (hex cc v τ hm) fun hp' hmem hhp => ?_
    rcases hhp with rfl | rfl
    · exact P (.ex cc v) _ hmem γ2 s2 ⟨xx.n, xx.d, xx.δ, xx.ρ, xx.Z, rfl, xx.fm⟩ S2 e he
    · exact P (.ex cc v) _ hmem γ2 s2 ⟨xx.n, xx.d, xx.δ, xx.ρ, xx.Z, rfl, xx.fm⟩ S2.drop e he.drop
theorem clFn_ok (IH : SemsOK W n S) (hG : Good W c) (hR : Room (n + 1) c) {a : Addr} {fr : FnRec} (FO : FnOK W a fr) {args : List SV} {args' : List Value} (h : clFn S fr args σ = some out) (hS : W.SR c σ γ s) (ha : VRs W.K γ σ.next σ.doms.length args args') (P : Post W c out σ γ (VRel W) Q E) :
    wpAny (model W.prog W.w) c.A (call (.ref a) args') Q E s := wpAny_call (clFn_code IH hG hR.one FO h hS ha P)
end
end Mine
end
section
open PySem PySem.W PyProof.Rows PySem.Calls
set_option tactic.hygienic false
namespace Mine
section
variable {W : Wk} {n : Nat} {S : Sems} {C : Cfg} {c c' : Cx} {fm : Fm} {σ τ : St} {γ γ' : G} {s : Shared} {env : Env} {m : Str → Option Value} {H rest its its' : List (Addr × Obj)} {E : Value → Shared → Prop} {out : Out SV} {Q : Value → Shared → Prop}
theorem clLam_ok (IH : SemsOK W n S) (hG : Good W c) (hR : Room (n + 1) c) {j : Nat} {args : List SV} {args' : List Value} (h : clLam S (σ.get j) args σ = some out) (hS : W.SR c σ γ s) (ha : VRs W.K γ σ.next σ.doms.length args args') (P : Post W c out σ γ (VRel W) Q E) :
    wpAny (model W.prog W.w) c.A (call (.ref (γ.ρ j)) args') Q E s := by
  refine x02 (bm h) fun q h1 => ?_
  obtain rfl := isNil_eq q
  obtain ⟨⟨body, names, cells⟩, hj, h9⟩ := om h1
  have hj := asLam_some hj
  cases ha
  obtain ⟨hjn, l, ho, N⟩ := hS.thing hj
  obtain ⟨qual, more, clos, pm, c0, ctv, oc, vs, t, rfl, hcl, hnm, hd, hv⟩ := ho.form
  refine x12 (hS.fr) fun m0 F0 Ev0 => ?_
  have N1 := N _ (.head _)
  have N2 := N (c0, oc) (.tail _ (.head _))
  have hcdr : s.heap.CodeRec (.ref c0) qual := ⟨c0, oc, vs, t, rfl, N2.1, hd, hv⟩
  (refine x12 (backR_some h9) fun l1 e1 er2 => ?_; subst er2)
  have hbind : PySem.bindArgs (kla_fn "<lambda>" qual noArgs body (lamScope names more) clos pm (.ref c0) ctv) ⟨[], []⟩ = pure [] := by rfl
  have hcell : ∀ x ∈ (lamScope names more).names, x.2 ≠ .cell := fun x hx => (hnm x hx).1
  refine wpAny_call (kla_callFunE (fd := kla_fn "<lambda>" qual noArgs body (lamScope names more) clos pm (.ref c0) ctv) (body := body) (lo2 hR.d) N1.1 rfl rfl rfl rfl hcdr ?_)
  rw [hbind]
  refine wpAny_pure (wpAny_newFunctionEnv hcell (fun p hp => nomatch hp) (fun h₁ hns hsb => ⟨(hG.T.nolimit.keeps F0.keep).fresh _ hsb, ?_⟩) rfl)
  have hk₁ : ∀ b o, s.heap.get? b = some o → h₁.get? b = some o := fun b o e => hsb.extBut b o (Nat.ne_of_lt (Heap.lt_size e)) (Heap.get?_push_of_some _ e)
  refine kla_codeExpr ?_
  refine x27 (enter_frame (cn := qual) (cs := lamScope names more) (a := γ.ρ j) (ccd := .ref c0) (cl := clos) (ev := []) hS hG.k hk₁ hns (fun m x v e => by exact ns e)) fun m H Ev ab K0 F1 N1' ap1 lt1 => ?_
  have hS1 : W.SR (c.callee qual (lamScope names more) s.heap.objs.size (γ.ρ j) (.ref c0) clos) { framed σ with env := [] } (γ.call σ.next c.L m) { s with heap := h₁, toks := s.toks + ([] : List (Str × Value)).length } := by
    rw [hs_of hS]
    exact Core.sr (c := c.callee qual (lamScope names more) s.heap.objs.size (γ.ρ j) (.ref c0) clos) K0 F1 N1' ap1
  have hG1 : Good W (c.callee qual (lamScope names more) s.heap.objs.size (γ.ρ j) (.ref c0) clos) := ⟨hG.X, hG.T, rfl, hG.tb, hG.ex⟩
  have hF1 : FmOK W (c.callee qual (lamScope names more) s.heap.objs.size (γ.ρ j) (.ref c0) clos) ⟨names, cells, none, none⟩ (γ.call σ.next c.L m) (σ.next + 1) σ.doms.length (c.callee qual (lamScope names more) s.heap.objs.size (γ.ρ j) (.ref c0) clos).env := by
    refine ⟨rfl, rfl, rfl, fun x => ?_, fun x i hi q => ?_, fun t ht => (by exact ns ht), fun _ => rfl, (fun q e => by exact ns e), fun x k e => goodName_ok (hnm _ (lkS_mem e)).2⟩
    · rw [lkS_lookup]; rfl
    · rcases q with q | q
      · exact absurd rfl (hnm _ (lkS_mem q)).1
      · refine x02 (hcl x i hi q) fun q1 q2 => ?_
        refine ⟨?_, Nat.lt_succ_of_lt q2⟩
        rw [later_call.lρ (d := 0) (d' := 0) i q2]
        exact q1
  refine IH.ev _ _ _ _ e1 (c.callee qual (lamScope names more) s.heap.objs.size (γ.ρ j) (.ref c0) clos) (γ.call σ.next c.L m) _ _ hG1 hF1 hS1 ⟨rs hR.d (by decide), rs hR.u (by decide)⟩ _ _ ?_
  refine ends_ok (σ₁ := { framed σ with env := [] }) (k := σ.next) (Es := fun _ e' s'' => E e' s'') Ev ab hS.ou (Nat.lt_succ_self _) rfl call_ρ call_fm (fun b hb => call_fm_ne hb) later_call rfl ?_ ?_
  · intro v τ hm γ2 s2 b xx S2 γ3 e1 e2 e3 hb
    have l3 : Later γ3 γ2 τ.next τ.doms.length τ.next τ.doms.length := ⟨Nat.le_refl _, Nat.le_refl _, fun j _ => by rw [e2], fun j _ => by rw [e1], fun q hq => by rw [← e3]; exact hq⟩
    exact P (.ok v) _ (backTo_mem hm) γ2 s2 xx S2 _ (hb.later l3)
  · intro cc v τ hm γ2 s2 xx S2 e he
    exact P (.ex cc v) _ (backTo_mem hm) γ2 s2 xx S2 e he
end
end Mine
end
section
open PySem PySem.W PyProof.Rows PySem.Calls
set_option tactic.hygienic false
namespace Mine
noncomputable abbrev Cx.deep (c : Cx) (k u : Nat) (g : Option (List Code)) : Cx := { c with dp := c.dp + k, un := c.un + u, gd := g }
structure ClsOK (W : Wk) (C : Cfg) (a : Addr) (cr : ClsRec) : Prop where
  make : makesIn W.K a = true
  init : findIn W.K (.ref a) "__init__" = some (some (.ref cr.init))
  fn : isFn W.K (.ref cr.init) = true
  fnr : ∀ fr, lkN cr.init C.fns = some fr → FnOK W cr.init fr
section
variable {W : Wk} {n : Nat} {S : Sems} {C : Cfg} {c c' : Cx} {fm : Fm} {σ τ : St} {γ γ' : G} {s : Shared} {env : Env} {m : Str → Option Value} {H rest its its' : List (Addr × Obj)} {E : Value → Shared → Prop} {out : Out SV} {Q : Value → Shared → Prop}
theorem SR.deep {k u : Nat} {g : Option (List Code)} (S : W.SR c σ γ s) : W.SR (c.deep k u g) σ γ s :=
  ⟨S.sm, x12 S.fr fun m F Ev => ⟨m, F, ⟨Ev.r, Ev.f⟩⟩, S.nw, S.tz, S.dm, S.ou⟩
theorem SR.undeep {k u : Nat} {g : Option (List Code)} (S : W.SR (c.deep k u g) σ γ s) : W.SR c σ γ s :=
  ⟨S.sm, x12 S.fr fun m F Ev => ⟨m, F, ⟨Ev.r, Ev.f⟩⟩, S.nw, S.tz, S.dm, S.ou⟩
theorem Thrown.undeep {k u : Nat} {g : Option (List Code)} {cc : Nat} {v : SV} {e : Value} (h : Thrown W (c.deep k u g) cc v γ σ e s) : Thrown W c cc v γ σ e s :=
  x13 h fun its f S ap => ⟨its, f, SR.undeep (c := c.more its) (k := k) (u := u) (g := g) S, ap⟩
theorem fr_nil {K : Frag} {k d : Nat} : FR K γ k d [] [] := ⟨(fun x v e => by exact ns e), fun x _ => rfl, Nat.le_refl _, rfl⟩
theorem clCls_ok (IH : SemsOK W n S) (hG : Good W c) (hR : Room (n + 1) c) {a : Nat} {cr : ClsRec} (CO : ClsOK W C a cr) {args : List SV} {args' : List Value} (h : clCls C S a cr args σ = some out) (hS : W.SR c σ γ s) (ha : VRs W.K γ σ.next σ.doms.length args args') (P : Post W c out σ γ (VRel W) Q E) :
    wpAny (model W.prog W.w) c.A (call (.ref a) args') Q E s := by
  refine x12 (om h) fun fr hfr h9 => ?_
  refine x12 (bind_spec h9) fun l1 e1 h1 => ?_
  refine x12 (hS.fr) fun m F Ev => ?_
  refine x14 (hS.nw) fun H hH N nd ap => ?_
  refine call_cls F hG.X N CO.make CO.init CO.fn fun x dx h' F' N' l1' l2' => ?_
  have S1 := hS.alloc (h' := h') (tk := s.toks) (a := x) (o := .inst a []) Ev hH nd ap F' N' (.inst fr_nil fun y v e => by exact ns e) (fun p hp q hq => by
    have lp := l1' p hp
    simp only [List.mem_cons, List.not_mem_nil, or_false] at hq
    rcases hq with rfl | rfl
    · exact Nat.ne_of_lt (Nat.lt_trans lp l2')
    · exact Nat.ne_of_lt lp) (by simpa using Nat.ne_of_gt l2')
  have x1 : Ext σ γ (γ.at σ.next x) (σ.new (.inst a [])) := ext_new
  have hA : c.A.under (.builtin "type.__call__" ⟨.ref a :: args', []⟩) = (c.deep (Code.weight (.builtin "type.__call__" ⟨.ref a :: args', []⟩)) 1 (pushGuards (Code.guards (.builtin "type.__call__" ⟨.ref a :: args', []⟩)) c.gd)).A := rfl
  have hw : Code.weight (.builtin "type.__call__" ⟨.ref a :: args', []⟩) ≤ 2 := Nat.le_succ 1
  rw [hA]
  refine codeAny_mono (clFn_code (c := c.deep _ _ _) IH ⟨hG.X, hG.T, hG.k, hG.tb, hG.ex⟩ ⟨?_, ?_⟩ (CO.fnr fr hfr) e1 S1.deep (.cons ?_ (ha.later x1.later)) (Q := fun v s' => v = .none ∧ Q (.ref x) s') (E := E) ?_) fun r s' hr => ?_
  · exact rt hR.d (Nat.succ_le_succ hw)
  · exact rt hR.u (by decide)
  · have q : VR W.K (γ.at σ.next x) (σ.next + 1) σ.doms.length (.obj σ.next) (.ref ((γ.at σ.next x).ρ σ.next)) := .obj (Nat.lt_succ_self _)
    have e : (γ.at σ.next x).ρ σ.next = x := if_pos rfl
    rw [e] at q; exact q
  · intro r τ hm γ' s' x' S'
    refine x02 (h1 r τ hm) fun ha hb => ?_
    cases r with
    | ex cc v => exact fun e he => P _ _ (hb cc v rfl) γ' s' (x1.trans x') S'.undeep e he.undeep
    | ok v =>
      intro v' hv
      refine x12 (ha v rfl) fun o1 e2 sub => ?_
      cases v <;> try ((first | exact ns e2 | obtain rfl := ss e2); done)
      obtain rfl := ss e2
      cases hv
      refine ⟨rfl, ?_⟩
      have hρ : γ'.ρ σ.next = x := (x'.ρ σ.next (Nat.lt_succ_self _)).trans (if_pos rfl)
      have q : VR W.K γ' τ.next τ.doms.length (.obj σ.next) (.ref (γ'.ρ σ.next)) := .obj (Nat.lt_of_lt_of_le (Nat.lt_succ_self _) x'.n)
      rw [hρ] at q
      exact P (.ok (.obj σ.next)) τ (sub _ (.head _)) γ' s' (x1.trans x') S'.undeep _ q
  · rcases r with e | (v | _ | _ | _)
    all_goals first | exact hr | exact hr.elim
end
end Mine
end
section
open PySem PySem.W PyProof.Rows PySem.Calls
set_option tactic.hygienic false
namespace Mine
theorem keysOf_small {vs : List Value} (h : vs = [] ∨ ∃ x t, vs = [.str x t]) : PyProof.Rows.KeysOf PyProof.Rows.strKind (PyProof.Rows.pairsOf vs) := by
  rcases h with rfl | ⟨x, t, rfl⟩
  · intro p hp; rw [PyProof.Rows.pairsOf_toList] at hp; cases hp
  · intro p hp
    rw [PyProof.Rows.pairsOf_toList] at hp
    rw [List.mem_singleton.mp hp]
    exact ⟨_, rfl⟩
theorem perm_small {vs : List Value} (h : vs = [] ∨ ∃ x t, vs = [.str x t]) {xs : Array PyProof.Rows.Keyed} (hp : xs.Perm (PyProof.Rows.pairsOf vs)) : xs.map (·.2) = vs.toArray := by
  have hl := Array.perm_iff_toList_perm.mp hp
  rw [PyProof.Rows.pairsOf_toList] at hl
  apply Array.toList_inj.mp
  rcases h with rfl | ⟨x, t, rfl⟩
  · have := hl.eq_nil
    rw [Array.toList_map, this]; rfl
  · have := List.perm_singleton.mp hl
    rw [Array.toList_map, this]; rfl
section
variable {W : Wk} {n : Nat} {S : Sems} {C : Cfg} {c c' : Cx} {fm : Fm} {σ τ : St} {γ γ' : G} {s : Shared} {env : Env} {m : Str → Option Value} {H rest its its' : List (Addr × Obj)} {E : Value → Shared → Prop} {out : Out SV} {Q : Value → Shared → Prop}
theorem KV.vals {K : Frag} {k d : Nat} {l : List (Str × SV)} {l' : List (Str × Value)} (h : KV K γ k d l l') : VRs K γ k d (l.map fun p => p.2) (l'.map (·.2)) := by
  induction h with
  | nil => exact .nil
  | cons _ v _ ih => exact .cons v ih
theorem get_split (hS : W.SR c σ γ s) {j : Nat} {o : MO} (hg : σ.get j = some o) : ∃ m H l, EnvM W.K c γ σ.next σ.doms.length σ.env m ∧ HR W.prog W.w W.K γ σ.next σ.doms.length (σ.heap ++ σ.froz) H ∧ Fr c.h₀ c.L s.heap m ∧ News c.h₀ c.L s.heap (c.xt ++ (H ++ γ.Z)) ∧ (H.map (·.1)).Nodup ∧ (∀ q ∈ c.xt, ∀ r ∈ H ++ γ.Z, @Ne Nat q.1 r.1) ∧ j < σ.next ∧ OR W.prog W.w W.K γ σ.next σ.doms.length (γ.ρ j) o l ∧ ∀ p ∈ l, p ∈ c.xt ++ (H ++ γ.Z) := by
  refine x12 (hS.fr) fun m F Ev => ?_
  refine x14 (hS.nw) fun H hH N nd ap => ?_
  obtain ⟨hn, pre, l, post, rfl, ho, _⟩ := hH.split (get_lk hg)
  exact ⟨m, _, l, Ev, hH, F, N, nd, ap, hn, ho, fun p hp => by simp only [List.mem_append]; exact .inr (.inl (.inr (.inl hp)))⟩
theorem lenL_some {l : List SV} {u : SV} (h : lenL l = some u) : l.length ≤ 900 ∧ u = .int (.ofNat l.length) := by
  refine x02 (bm h) fun q e => ?_
  obtain rfl := ss e
  exact ⟨small_le q, rfl⟩
theorem lenOf_some {v u : SV} (h : lenOf v σ = some u) : (∃ l, v = .tup l ∧ l.length ≤ 900 ∧ u = .int (.ofNat l.length)) ∨ ∃ l, listOfObj σ v = some l ∧ l.length ≤ 900 ∧ u = .int (.ofNat l.length) := by
  unfold lenOf at h
  refine ok' (o := tupOf v) (fun l ht => ?_) fun ht => ?_
  · rw [ht] at h; exact .inl ⟨l, tupOf_some ht, lenL_some h⟩
  · rw [ht] at h
    refine x12 (om h) fun l hl h1 => ?_
    exact .inr ⟨l, hl, lenL_some h1⟩
theorem listR_some {v : SV} (h : listR v σ = some out) : ∃ j m, v = .obj j ∧ σ.get j = some m ∧ listM m σ = some out := by
  refine x12 (om h) fun j h1 h2 => ?_
  refine x12 (om h2) fun m h3 h4 => ?_
  exact ⟨j, m, objOf_some h1, h3, h4⟩
theorem len_ok (hS : W.SR c σ γ s) (hG : Good W c) {v : SV} {v' : Value} (h : forced v σ (fun v τ => retO (lenOf v τ) τ) = some out) (hv : VR W.K γ σ.next σ.doms.length v v') (P : Post W c out σ γ (VRel W) Q E) : wpAny (model W.prog W.w) c.A (call (.builtin "len") [v']) Q E s := by
  refine x36 (forced_post h hS hv P) fun d τ o1 hd _ S1 x e1 P1 => ?_
  refine x12 (retO_some e1) fun u e2 e3 => ?_
  rcases lenOf_some e2 with ⟨l, rfl, f1, rfl⟩ | ⟨l, hl, f1, rfl⟩
  · refine x33 hd.view fun a vs k er3 ht hr => ?_; subst er3
    have hlen : (vs.toArray.size : Int) = Int.ofNat l.length := by rw [List.size_toArray, hr.len]; rfl
    refine len_tuple (⟨_, S1.tups hG.X ht, rfl, _, rfl⟩ : IsTup s.heap a vs.toArray) (by rw [hlen]; skip; exact io (by assumption) (by decide)) ?_
    rw [hlen]
    exact post_ok e3 P1 (S1.toks _) (.int _ _)
  · refine x24 (S1.listAt hl hd) fun a vs er2 hL hr _ => ?_; subst er2
    have hlen : (vs.toArray.size : Int) = Int.ofNat l.length := by rw [List.size_toArray, hr.len]; rfl
    refine call_len_list hL (by rw [hlen]; skip; exact io (by assumption) (by decide)) ?_
    rw [hlen]
    exact post_ok e3 P1 (S1.toks _) (.int _ _)
theorem tupleOf_ok (hS : W.SR c σ γ s) {v : SV} {v' : Value} {l : List SV} (hl : listOfObj σ v = some l) (h : tupR l σ = some out) (hv : VR W.K γ σ.next σ.doms.length v v') (P : Post W c out σ γ (VRel W) Q E) : wpAny (model W.prog W.w) c.A (call (.type "tuple") [v']) Q E s := by
  (refine x24 (hS.listAt hl hv) fun a vs er2 hL hr _ => ?_; subst er2)
  refine x02 (bm h) fun q h1 => ?_
  refine call_tuple_list hL (fun h' hk => ?_) (by rw [List.size_toArray, hr.len]; have := small_le q; unfold sizeLine; exact Nat.le_trans (by assumption) (by decide))
  have S1 : W.SR (c.more []) σ γ { s with heap := h' } := hS.keep (tk := s.toks) hk
  have S2 := SR.turnTup (its := []) (its' := []) (h' := h'.push (tupO vs 0)) (tk := s.toks) (k := 0) S1 (fun p hp => nomatch hp) (fun b o _ e => Heap.get?_push_of_some _ e) (fun p hp => nomatch hp) (Heap.get?_push_size _ rfl) (Nat.le_refl _)
  exact post_ok' h1 P ext_tup S2 (.tup (.inl (.head _)) (hr.later later_tup))
theorem listOf_ok (hS : W.SR c σ γ s) {v : SV} {v' : Value} (h : listR v σ = some out) (hv : VR W.K γ σ.next σ.doms.length v v') (P : Post W c out σ γ (VRel W) Q E) : wpAny (model W.prog W.w) c.A (call (.type "list") [v']) Q E s := by
  (refine x23 (listR_some h) fun j mo er2 hg h1 => ?_; subst er2)
  cases hv
  cases mo <;> try (exact ns h1; done)
  · refine x02 (newL_some h1) fun q h2 => ?_
    refine y3_9 (get_split hS hg) fun m H l0 Ev hH F N nd ap hn ho hsub => ?_
    refine x22 ho.form fun vs k er2 hr => ?_; subst er2
    refine list_copyK F N (⟨_, (N _ (hsub _ (.head _))).1, rfl, _, rfl⟩ : s.heap.IsList (γ.ρ j) vs.toArray) (fun D cc h' F' N' fr => ?_) (by rw [List.size_toArray, hr.len]; have := small_le q; unfold sizeLine; exact Nat.le_trans (by assumption) (by decide))
    exact made_ok (tk := s.toks) h2 hS Ev hH nd ap F' N' (.list hr) fr P
  · refine x12 (om h1) fun kvs hgi h3 => ?_
    have hgi := asDict_some hgi
    refine x02 (newL_some h3) fun q h2 => ?_
    refine y3_9 (get_split hS hg) fun m H l0 Ev hH F N nd ap hn ho hsub => ?_
    obtain ⟨hn2, pre, l2, post, rfl, ho2, _⟩ := hH.split (get_lk hgi)
    refine x02 ho.form fun er0 hi => ?_; subst er0
    refine x24 ho2.form fun kvs' od er2 hkv hd hsys => ?_; subst er2
    refine kdl_list_valuesP (knd := strKind W.prog W.w) (kvs := kvs') rfl F N (hsub _ (.head _)) (by simp only [List.mem_append]; exact .inr (.inl (.inr (.inl (.head _))))) hd (by rw [hkv.len]; have := small_le q; rw [List.length_map] at this; exact Nat.le_trans (by assumption) (by decide)) fun B cc h' tk F' N' fr => ?_
    exact made_ok (tk := tk) h2 hS Ev hH nd ap F' N' (.list hkv.vals) fr P
end
end Mine
end
section
open PySem PySem.W PyProof.Rows PySem.Calls
set_option tactic.hygienic false
namespace Mine
section
variable {W : Wk} {n : Nat} {S : Sems} {C : Cfg} {c c' : Cx} {fm : Fm} {σ τ : St} {γ γ' : G} {s : Shared} {env : Env} {m : Str → Option Value} {H rest its its' : List (Addr × Obj)} {E : Value → Shared → Prop} {out : Out SV} {Q : Value → Shared → Prop}
theorem keys_small {K : Frag} {γ : G} {n d : Nat} {kvs : List (Str × SV)} {kvs' : List (Str × Value)} {vs : List Value} (h : KV K γ n d kvs kvs') (hc : kvs.length ≤ 1) (hl : vs.length = kvs'.length) (hv : ∀ (i : Nat) v, vs[i]? = some v → ∃ k x, kvs'[i]? = some (k, x) ∧ v.isStrOf k = true) : VRs K γ n d (keysIn kvs) vs := by
  cases h with
  | nil =>
    obtain rfl := List.eq_nil_of_length_eq_zero hl
    exact .nil
  | cons ok _ r =>
    cases r with
    | cons _ _ _ => exact absurd hc (by simp)
    | nil =>
      match vs, hl, hv with
      | [w], _, hv =>
        refine x22 (hv 0 w rfl) fun k x e hk => ?_
        refine x02 (sp e) fun er0 er1 => ?_; subst er0; subst er1
        refine x11 (Value.isStrOf_shape hk) fun t er1 => ?_; subst er1
        exact .cons (.str _ ok) .nil
theorem sorted_ok (hS : W.SR c σ γ s) {v : SV} {v' : Value} {kvs : List (Str × SV)} (hd : dictOfObj σ v = some kvs) (h : sortedR kvs σ = some out) (hv : VR W.K γ σ.next σ.doms.length v v') (P : Post W c out σ γ (VRel W) Q E) : wpAny (model W.prog W.w) c.A (call (.builtin "sorted") [v']) Q E s := by
  (refine x12 (dictOfObj_some hd) fun j er1 hg => ?_; subst er1)
  refine y3_9 (get_split hS hg) fun m H l0 Ev hH F N nd ap hn ho hsub => ?_
  cases hv
  (refine x24 ho.form fun kvs' od er2 hkv hdo hsys => ?_; subst er2)
  have hlen := hkv.len
  obtain ⟨l, hl, hr, hcase⟩ : ∃ l, newR (.list l) σ = some out ∧ l = keysIn kvs ∧ kvs.length ≤ 1 := by
    cases kvs with
    | nil => exact ⟨[], h, rfl, Nat.zero_le _⟩
    | cons p r =>
      cases r with
      | nil => exact ⟨_, h, rfl, Nat.le_refl _⟩
      | cons => exact ns h
  refine x11 ((Heap.dictOf_iff.mpr ⟨od, (N _ (hsub _ (.head _))).1, hdo⟩ : s.heap.DictOf (strKind W.prog W.w) (γ.ρ j) kvs').dictAt) fun ep hat => ?_
  refine kdu_sorted (kdl_dict (knd := strKind W.prog W.w) (kvs := kvs') (ep := ep) hsys) rfl F N hat (by rw [hlen]; skip; exact Nat.le_trans (by assumption) (by decide)) fun D h' tk vs F' N' fr hvl hvs => ?_
  have hsmall : vs = [] ∨ ∃ x t, vs = [.str x t] := by
    match vs, hvl, hvs with
    | [], _, _ => exact .inl rfl
    | [u], _, hvs =>
      refine x22 (hvs 0 u rfl) fun k x _ hk => ?_
      refine x11 (Value.isStrOf_shape hk) fun t er1 => ?_; subst er1
      exact .inr ⟨_, _, rfl⟩
    | _ :: _ :: _, hvl, _ => simp at hvl; omega
  have hvr : VRs W.K γ σ.next σ.doms.length l vs := by
    rw [hr]
    exact keys_small hkv hcase hvl hvs
  have hD := N' (D, listOf vs.toArray 0) (.head _)
  refine wpAny_call_entry slot_list_sort ⟨_, hD.1, rfl⟩ entry_list_sort (PyProof.Rows.list_sort_treeK PyProof.Rows.strKind_oneLt hD.1 (keysOf_small hsmall) (fun v1 v2 r e => ?_) ?_ fun st' hp hs => ?_) (args_list_sort _)
  · rcases hsmall with rfl | ⟨x, t, rfl⟩ <;> cases e
  · rcases hsmall with rfl | ⟨x, t, rfl⟩ <;> simp
  · rw [perm_small hsmall hp]
    refine x11 (PyProof.Rows.sortedHeap_at (out := vs.toArray) hD.1) fun e2 hat2 => ?_
    have old : ∀ b o, @Ne Nat b D → h'.get? b = some o → (PyProof.Rows.sortedHeap h' D vs vs.toArray).get? b = some o := fun b o hb e => (PyProof.Rows.sortedHeap_old hb (Heap.lt_size e)).trans e
    have F2 : Fr c.h₀ c.L (PyProof.Rows.sortedHeap h' D vs vs.toArray) m := ⟨F'.ns.at fun o e => old _ o (Ne.symm hD.2.1) e, fun b o e => old b o (fun q => by
      have := hD.2.2
      rw [← q] at this
      have e' : c.h₀.get? b = some o := e
      rw [this] at e'; exact ns e') (F'.keep b o e), F'.above⟩
    have N2 : News c.h₀ c.L (PyProof.Rows.sortedHeap h' D vs vs.toArray) ((D, listOf vs.toArray e2) :: (c.xt ++ (H ++ γ.Z))) := fun p hp => by
      rcases List.mem_cons.mp hp with rfl | hp
      · exact ⟨hat2, hD.2⟩
      · have g := N' p (.tail _ hp)
        exact ⟨old _ _ (Nat.ne_of_lt (fr p hp)) g.1, g.2⟩
    have := made_ok (tk := tk) hl hS Ev hH nd ap F2 N2 (.list hvr) fr P
    exact ⟨_, rfl, this⟩
theorem builtin_ok (hS : W.SR c σ γ s) (hG : Good W c) {b : Bf} {args : List SV} {args' : List Value} (h : builtin b args σ = some out) (ha : VRs W.K γ σ.next σ.doms.length args args') (P : Post W c out σ γ (VRel W) Q E) : wpAny (model W.prog W.w) c.A (call (bfV b) args') Q E s := by
  refine x12 (om h) fun v q h1 => ?_
  obtain rfl := single_some q
  (refine x23 ha.view fun _ _ er2 hv r => ?_; subst er2)
  cases r
  cases b with
  | len => exact len_ok hS hG h1 hv P
  | tuple =>
    refine x12 (om h1) fun l hl h2 => ?_
    exact tupleOf_ok hS hl h2 hv P
  | list => exact listOf_ok hS h1 hv P
  | sorted =>
    refine x12 (om h1) fun kvs hd h2 => ?_
    exact sorted_ok hS hd h2 hv P
  | _ => exact ns h1
end
end Mine
end
section
open PySem PySem.W PyProof.Rows PySem.Calls
set_option tactic.hygienic false
namespace Mine
noncomputable def Thrown0 (W : Wk) (c : Cx) (cc : Nat) (v : SV) (γ : G) (τ : St) (e : Value) (s : Shared) : Prop :=
  ∃ ea oe vs dx es k v', e = .ref ea ∧ oe.cls = .ref cc ∧ oe.dict = some dx ∧ oe.data = .fields vs ∧ getL (Str.ofString "spot") es = some (some v') ∧ VR W.K γ τ.next τ.doms.length v v' ∧ @Ne Nat ea dx ∧ vs[1]? = some .none ∧
    W.SR (c.more [(ea, oe), (dx, dictOf es k)]) τ γ s ∧ ∀ p ∈ [(ea, oe), (dx, dictOf es k)], ∀ q ∈ c.xt, @Ne Nat q.1 p.1
structure ExcOK (W : Wk) (a : Addr) : Prop where
  keep : keepIn W.K (.ref a) = true
  make : ∀ (c : Cx) (σ : St) (γ : G) (s : Shared) (m' : Value) (v : SV) (v' : Value), Good W c → Room 0 c → W.SR c σ γ s → VR W.K γ σ.next σ.doms.length v v' → ∀ (Q : Value → Shared → Prop) (E : Value → Shared → Prop),
    (∀ s' e, Thrown0 W c a v γ σ e s' → Q e s') → wpAny (model W.prog W.w) c.A (call (.ref a) [m', v']) Q E s
  tail : ∀ (c : Cx) (σ : St) (γ : G) (s : Shared) (v : SV) (e : Value) (env : Env), Good W c → Thrown0 W c a v γ σ e s → ∀ (Q : Flow → Shared → Prop) (E : Value → Shared → Prop), (∀ s', Thrown W c a v γ σ e s' → E e s') →
    wpAny (model W.prog W.w) c.A (raiseStmt env (some (pure e)) none) Q E s
noncomputable def RaiseOK (W : Wk) (C : Cfg) : Prop := ∀ a nm, lkN a C.excs = some nm → ExcOK W a
section
variable {W : Wk} {n : Nat} {S : Sems} {C : Cfg} {c c' : Cx} {fm : Fm} {σ τ : St} {γ γ' : G} {s : Shared} {env : Env} {m : Str → Option Value} {H rest its its' : List (Addr × Obj)} {E : Value → Shared → Prop} {out : Out Fl} {Q : Flow → Shared → Prop}
theorem Room.zero (r : Room n c) : Room 0 c := ⟨rg (Nat.zero_le n) r.d, rg (Nat.zero_le n) r.u⟩
theorem raise_first {x : Sem Value} {A : Around} {M : Model} (h : wpAny M A x (fun v s₁ => wpAny M A (raiseStmt env (some (pure v)) none) Q E s₁) E s) : wpAny M A (raiseStmt env (some x) none) Q E s := by
  skip
  exact wpAny_bind h
theorem plain2 {m sp : PySem.Expr} (h : plainArgs 2 [m, sp] = true) : notStar m = true ∧ notStar sp = true := by
  simp only [plainArgs] at h
  cases q : notStar m with
  | false => rw [q] at h; exact tf h
  | true =>
    rw [q] at h
    cases q2 : notStar sp with
    | false => rw [q2] at h; exact tf h
    | true => exact ⟨rfl, rfl⟩
theorem exRaise_some {x cause : Option PySem.Expr} (h : (exRaise C S x cause).run fm σ = some out) : ∃ f xp cp m sp a nm, x = some (.Call (.Name f xp) [m, sp] [] cp) ∧ cause = none ∧ notStar m = true ∧ notStar sp = true ∧ nameV C fm f σ = some (.top a) ∧ lkN a C.excs = some nm ∧
    bindR (S.ev fm m σ) (fun _ τ => bindR (S.ev fm sp τ) fun v τ' => some [(.ex a v, τ')]) = some out := by
  refine x02 (xm h) fun q h1 => ?_
  (refine x12 (oxm h1) fun e er1 h2 => ?_; subst er1)
  refine x12 (oxm h2) fun p h3 h4 => ?_
  refine x12 (oxm h4) fun f h5 h6 => ?_
  refine x12 (oxm h6) fun r h7 h8 => ?_
  refine x02 (xm h8) fun b h9 => ?_
  refine x12 (om h9) fun cv h10 h11 => ?_
  refine x12 (om h11) fun a h12 h13 => ?_
  refine x12 (om h13) fun nm h14 h15 => ?_
  (refine x11 (callOf_some h3) fun cp er1 => ?_; subst er1)
  refine x11 (nameOfE_some h5) fun xp h16 => ?_
  rw [pair_some h7] at b
  refine x02 (plain2 b) fun b1 b2 => ?_
  have : cv = .top a := by cases cv <;> first | ((first | exact ns h12 | obtain rfl := ss h12); rfl) | exact ns h12
  subst this
  exact ⟨f, xp, cp, r.1, r.2, a, nm, by rw [h16, pair_some h7], noneB_eq q, b1, b2, h10, h14, h15⟩
theorem exRaise_ok (GO : GlobOK W C) (RO : RaiseOK W C) (IH : SemsOK W n S) (hG : Good W c) (hR : Room n c) {x cause : Option PySem.Expr} {pos : Pos} (h : (exRaise C S x cause).run fm σ = some out) (hF : FmOK W c fm γ σ.next σ.doms.length env) (hS : W.SR c σ γ s) (P : Post W c out σ γ (FRel W) Q E) :
    wpAny (model W.prog W.w) c.A (exec (.Raise x cause pos) env) Q E s := by
  obtain ⟨f, xp, cp, m, sp, a, nm, rfl, rfl, hst1, hst2, hcv, hnm, h9⟩ := exRaise_some h
  have X := RO a nm hnm
  refine x12 (bind_spec h9) fun l1 e1 h1 => ?_
  rw [arm_exec_Raise]
  refine wpAny_bind (wpAny_standAt (raise_first (wpAny_bind ?_)))
  refine Call_ (name_ok GO hG hF hS hcv fun v' hv => ?_)
  cases hv
  refine callWith_any (Pr := fun h => W.K.In h) (k := 2) (by simp only [plainArgs, hst1, hst2]) (fun h X' => kept_top (M := model W.prog W.w) X.keep X') ?_
  refine args_cons (IH.ev _ _ _ _ e1 c γ s env hG hF hS hR _ _ (post_bind h1 P fun mv τ o1 e2 γ' s' x1 S' P' m' hm => ?_)) (star_ok hst1)
  refine x12 (bind_spec e2) fun l2 e3 h3 => ?_
  refine args_cons (IH.ev _ _ _ _ e3 c γ' s' env hG (hF.later x1.later) S' hR _ _ ?_) (star_ok hst2)
  intro r τ' hm' γ2 s2 x2 S2
  cases r with
  | ex cc v => exact P' (.ex cc v) τ' ((h3 _ _ hm').2 cc v rfl) γ2 s2 x2 S2
  | ok v =>
    intro v' hv
    refine x12 ((h3 _ _ hm').1 v rfl) fun o2 e4 sub => ?_
    obtain rfl := ss e4
    refine args_nil ⟨S2.K hG, X.make c τ' γ2 s2 m' v v' hG hR.zero S2 hv _ _ fun s3 e he => ?_⟩
    refine wpAny_bind (wpAny_standAt (wpAny_pure ?_))
    exact X.tail c τ' γ2 s3 v e env hG he _ _ fun s4 he4 => by
      refine x13 he4 fun its f S5 ap => ?_
      exact P' (.ex a v) τ' (sub _ (.head _)) γ2 s4 x2 (SR.less S5) e ⟨its, f, S5, ap⟩
theorem allOk_ok : ∀ {o : Out Fl}, allOk o = true → ∀ r τ, (r, τ) ∈ o → ∃ v, r = .ok v
  | [], _, _, _, h => nomatch h
  | (.ok v, _) :: o, q, r, τ, h => by
    refine Or.elim (List.mem_cons.mp h) (fun h => ?_) fun h => ?_
    · cases h; exact ⟨v, rfl⟩
    · exact allOk_ok (o := o) q r τ h
  | (.ex c v, _) :: o, q, _, _, _ => by exact tf q
theorem exTry_ok (IH : SemsOK W n S) (hG : Good W c) (hR : Room n c) (hmf : c.mf = none) (hcv : fm.cv = none) {body : List Stmt} {hs : List ExceptHandler} {orelse fin : List Stmt} {pos : Pos} (h : exTry S fm body hs orelse fin σ = some out) (hF : FmOK W c fm γ σ.next σ.doms.length env) (hS : W.SR c σ γ s) (P : Post W c out σ γ (FRel W) Q E) :
    wpAny (model W.prog W.w) c.A (exec (.Try body hs orelse fin pos) env) Q E s := by
  cases hs with
  | nil => exact ns h
  | cons hd hs =>
  refine x02 (bm h) fun _ h1 => ?_
  refine x02 (bm h1) fun q2 h2 => ?_
  refine x02 (bm h2) fun q3 h3 => ?_
  refine x12 (om h3) fun o ho h4 => ?_
  refine x02 (bm h4) fun hok h5 => ?_
  cases isNil_eq q2
  cases isNil_eq q3
  obtain rfl := ss h5
  have hall := allOk_ok hok
  refine wpAny_Try_except (wpAny_mono (IH.xs _ _ _ _ ho hcv c γ s env hmf hG hF hS hR (fun f s₁ => Q f s₁) (fun _ _ => False) PassesOwn.never (fun r τ hm γ' s' x S' => ?_)) (fun f s₁ hf => ?_) fun e s₁ he => he.elim)
  · refine x11 (hall r τ hm) fun v er1 => ?_; subst er1
    exact P (.ok v) τ hm γ' s' x S'
  · cases f <;> first | exact wpAny_execs_nil hf | exact hf
end
end Mine
end
section
open PySem PySem.W PyProof.Rows PySem.Calls
set_option tactic.hygienic false
namespace Mine
section
variable {W : Wk} {n : Nat} {S : Sems} {C : Cfg} {c c' : Cx} {fm : Fm} {σ τ : St} {γ γ' : G} {s : Shared} {env : Env} {m : Str → Option Value} {H rest its its' : List (Addr × Obj)} {E : Value → Shared → Prop}
theorem exAssign_ok (SO : SetOK W C) {out : Out Fl} {Q : Flow → Shared → Prop} (IH : SemsOK W n S) (hG : Good W c) (hR : Room n c) (hmf : c.mf = none) {ts : List PySem.Expr} {e : PySem.Expr} {pos : Pos} (h : (exAssign C S ts e).run fm σ = some out) (hF : FmOK W c fm γ σ.next σ.doms.length env) (hS : W.SR c σ γ s) (P : Post W c out σ γ (FRel W) Q E) :
    wpAny (model W.prog W.w) c.A (exec (.Assign ts e pos) env) Q E s := by
  refine x12 (oxm h) fun t q h1 => ?_
  obtain rfl := single_some q
  cases t with
  | Attribute o x _ => exact exSetA_ok SO IH hG hR (xm h1).2 hF hS P
  | Subscript o i _ => exact exSetS_ok IH hG hR (xm h1).2 hF hS P
  | Tuple => exact exTup_ok IH hG hR hmf h1 hF hS P
  | Name x _ => exact exName_ok IH hG hR hmf (xm h1).1 (xm h1).2 hF hS P
  | _ => exact ns h1
theorem exStep_ok (GO : GlobOK W C) (SO : SetOK W C) (RO : RaiseOK W C) {out : Out Fl} {Q : Flow → Shared → Prop} (hE : PassesOwn (model W.prog W.w) c.A env E) (IH : SemsOK W n S) (hG : Good W c) (hR : Room n c) (hmf : c.mf = none) (hcv : fm.cv = none) {st : Stmt} (h : exStep C S fm st σ = some out) (hF : FmOK W c fm γ σ.next σ.doms.length env) (hS : W.SR c σ γ s) (P : Post W c out σ γ (FRel W) Q E) :
    wpAny (model W.prog W.w) c.A (exec st env) Q E s := by
  cases st with
  | Pass => exact wpAny_Pass (post_ok h P hS .next)
  | Expr e p =>
    exact exExpr_ok IH hG hR (xm h).1 (xm h).2 hF hS P
  | Return => exact exReturn_ok IH hG hR h hF hS P
  | Assign ts e pos => exact exAssign_ok SO IH hG hR hmf h hF hS P
  | If => exact exIf_ok hE IH hG hR hmf hcv h hF hS P
  | While => exact exWhile_ok hE IH hG hR hmf hcv h hF hS P
  | For => exact exFor_ok GO hE IH hG hR hmf hcv h hF hS P
  | Raise => exact exRaise_ok GO RO IH hG hR h hF hS P
  | Try => exact exTry_ok IH hG hR hmf hcv h hF hS P
  | _ => exact ns h
theorem xsStep_ok (GO : GlobOK W C) (SO : SetOK W C) (RO : RaiseOK W C) {Q : Flow → Shared → Prop} (hE : PassesOwn (model W.prog W.w) c.A env E) (IH : SemsOK W n S) (hG : Good W c) (hR : Room n c) (hmf : c.mf = none) (hcv : fm.cv = none) : ∀ {b : List Stmt} {σ : St} {γ : G} {s : Shared} {out : Out Fl}, xsStep C S fm b σ = some out → FmOK W c fm γ σ.next σ.doms.length env → W.SR c σ γ s → Post W c out σ γ (FRel W) Q E →
    wpAny (model W.prog W.w) c.A (execs b env) Q E s
  | [], σ, γ, s, out, h, hF, hS, P => wpAny_execs_nil (post_ok h P hS .next)
  | st :: r, σ, γ, s, out, h, hF, hS, P => by
    refine x12 (bind_spec (show bindR (exStep C S fm st σ) _ = some out from h)) fun l1 e1 h1 => ?_
    refine wpAny_execs_cons (exStep_ok GO SO RO hE IH hG hR hmf hcv e1 hF hS (post_bind h1 P fun f τ o1 e2 γ' s' x S' P' b hb => ?_))
    cases hb with
    | next => exact xsStep_ok GO SO RO hE IH hG hR hmf hcv e2 (hF.later x.later) S' P'
    | brk => exact post_ok e2 P' S' .brk
    | cont => exact post_ok e2 P' S' .cont
    | ret hv => exact post_ok e2 P' S' (.ret hv)
end
structure CfgOK (W : Wk) (C : Cfg) (r : Nat) : Prop where
  glob : GlobOK W C
  meth : MethOK W C
  set : SetOK W C
  raise : RaiseOK W C
  td : TdOK W
  fns : ∀ a fr, lkN a C.fns = some fr → FnOK W a fr ∧ keepIn W.K (.ref a) = true
  cls : ∀ a cr, lkN a C.cls = some cr → ClsOK W C a cr ∧ keepIn W.K (.ref a) = true
  pkeep : ∀ a args σ m, C.prim a args σ = some m → keepIn W.K (.ref a) = true
  prim : ∀ a args σ o, C.prim a args σ = some (some o) → ∀ c γ s args', Good W c → W.SR c σ γ s → Room r c → VRs W.K γ σ.next σ.doms.length args args' → Desc W c σ γ s (call (.ref a) args') (VRel W) o
  tkeep : keepIn W.K (.ref C.tried) = true
  tried : ∀ n S, SemsOK W n S → ∀ args σ o, triedR C S args σ = some o → ∀ c γ s args', Good W c → W.SR c σ γ s → Room (n + 1) c → VRs W.K γ σ.next σ.doms.length args args' → Desc W c σ γ s (call (.ref C.tried) args') (VRel W) o
section
variable {W : Wk} {n : Nat} {S : Sems} {C : Cfg} {c c' : Cx} {fm : Fm} {σ τ : St} {γ γ' : G} {s : Shared} {env : Env} {m : Str → Option Value} {H rest its its' : List (Addr × Obj)} {E : Value → Shared → Prop} {out : Out SV} {Q : Value → Shared → Prop}
theorem Room.le {k : Nat} (h : k ≤ n) (r : Room n c) : Room k c := ⟨rg h r.d, rg h r.u⟩
theorem clTop_some {a : Nat} {args : List SV} (h : clTop C S a args σ = some out) : (∃ m, C.prim a args σ = some m ∧ m = some out) ∨ (a = C.tried ∧ triedR C S args σ = some out) ∨ (∃ fr, lkN a C.fns = some fr ∧ clFn S fr args σ = some out) ∨ ∃ cr, lkN a C.cls = some cr ∧ clCls C S a cr args σ = some out := by
  unfold clTop at h
  cases h1 : C.prim a args σ with
  | some m => rw [h1] at h; exact .inl ⟨m, rfl, h⟩
  | none =>
    rw [h1] at h
    skip
    refine bc (b := Nat.beq a C.tried) (fun h2 => ?_) fun h2 => ?_
    · rw [h2] at h; exact .inr (.inl ⟨Nat.eq_of_beq_eq_true h2, h⟩)
    · rw [h2] at h
      dsimp only at h
      cases h3 : lkN a C.fns with
      | some fr => rw [h3] at h; exact .inr (.inr (.inl ⟨fr, rfl, h⟩))
      | none =>
        rw [h3] at h
        refine x12 (om h) fun cr h4 h5 => ?_
        exact .inr (.inr (.inr ⟨cr, h4, h5⟩))
theorem clStep_ok {r : Nat} (CO : CfgOK W C r) (hr : r ≤ n + 1) (IH : SemsOK W n S) (hG : Good W c) (hR : Room (n + 1) c) {f : SV} {f' : Value} {args : List SV} {args' : List Value} (h : clStep C S f args σ = some out) (hS : W.SR c σ γ s) (hf : VR W.K γ σ.next σ.doms.length f f') (ha : VRs W.K γ σ.next σ.doms.length args args') (P : Post W c out σ γ (VRel W) Q E) :
    wpAny (model W.prog W.w) c.A (call f' args') Q E s := by
  cases f <;> try (exact ns h; done)
  · cases hf
    rcases clTop_some h with ⟨m, hm, rfl⟩ | ⟨rfl, h1⟩ | ⟨fr, hfr, h1⟩ | ⟨cr, hcr, h1⟩
    · exact CO.prim _ args σ out hm c γ s args' hG hS (hR.le hr) ha _ _ P
    · exact CO.tried n S IH args σ out h1 c γ s args' hG hS hR ha _ _ P
    · exact clFn_ok IH hG hR (CO.fns _ fr hfr).1 h1 hS ha P
    · exact clCls_ok IH hG hR (CO.cls _ cr hcr).1 h1 hS ha P
  · cases hf
    exact clLam_ok IH hG hR h hS ha P
  · cases hf
    exact builtin_ok hS hG h ha P
theorem clStep_kp {r : Nat} (CO : CfgOK W C r) {f : SV} {args : List SV} (h : clStep C S f args σ = some out) : (∃ a, f = .top a ∧ keepIn W.K (.ref a) = true) ∨ (∃ j b ns cl, f = .obj j ∧ σ.get j = some (.lam b ns cl)) ∨ ∃ b, f = .fn b := by
  cases f <;> try (exact ns h; done)
  · refine .inl ⟨_, rfl, ?_⟩
    rcases clTop_some h with ⟨m, hm, _⟩ | ⟨rfl, _⟩ | ⟨fr, hfr, _⟩ | ⟨cr, hcr, _⟩
    · exact CO.pkeep _ args σ m hm
    · exact CO.tkeep
    · exact (CO.fns _ fr hfr).2
    · exact (CO.cls _ cr hcr).2
  · refine x02 (bm h) fun _ h1 => ?_
    refine x12 (om h1) fun p hj _ => ?_
    exact .inr (.inl ⟨_, _, _, _, rfl, asLam_some hj⟩)
  · exact .inr (.inr ⟨_, rfl⟩)
theorem sem_ok {r : Nat} (CO : CfgOK W C r) : ∀ n, SemsOK W (n + r) (sem C n)
  | 0 => ⟨fun _ _ _ _ => rfl, (fun _ _ _ _ h => by exact ns h), (fun _ _ _ _ h => by exact ns h), (fun _ _ _ _ h => by exact ns h), (fun _ _ _ _ h => by exact ns h), (fun _ _ _ _ h => by exact ns h)⟩
  | n + 1 => by
    have IH := sem_ok CO n
    rw [Nat.add_right_comm]
    refine ⟨fun _ _ _ _ => rfl, fun f args σ o h => clStep_kp CO h, fun fm e σ o h c γ s env hG hF hS hR Q E P => ?_, fun fm e σ o h c γ s env hG hF hS hR Q E P => ?_, fun fm b σ o h hcv c γ s env hmf hG hF hS hR Q E hE P => ?_, fun f args σ o h c γ s f' args' hG hS hR hf ha Q E P => ?_⟩
    · exact evStep_ok CO.glob CO.meth CO.td IH hG hR.less h hF hS P
    · exact tsStep_ok IH hG hR.less h hF hS P
    · exact xsStep_ok CO.glob CO.set CO.raise hE IH hG hR.less hmf hcv h hF hS P
    · exact clStep_ok CO (Nat.le_succ_of_le (Nat.le_add_left _ _)) IH hG hR h hS hf ha P
end
end Mine
end
section
open PySem PySem.W PyProof.Rows PySem.Calls
set_option tactic.hygienic false
namespace Mine
structure ExcL (M : Model) (h : Heap) (C fI : Addr) : Prop where
  call : ∀ m sp, Looks M h (callAny (.ref C) ⟨[m, sp], []⟩) (.again (.call (.builtin "type.__call__") ⟨[.ref C, m, sp], []⟩))
  check : ∀ m sp, Looks M h (checkBuiltinCall "type.__call__" ⟨[.ref C, m, sp], []⟩) ()
  mro : ∃ x l, Looks M h (mroOf (.ref C)) (x :: l)
  made : Looks M h (Bind.madeBy (.ref C)) (some "Exception.__new__")
  ncheck : ∀ m sp, Looks M h (checkBuiltinCall "Exception.__new__" ⟨[.ref C, m, sp], []⟩) ()
  ty : Looks M h (isType (.ref C)) true
  sub : Looks M h (isSubtype (.ref C) (.type "Exception")) true
  noA : Looks M h (isSubtype (.ref C) (.type "AttributeError")) false
  noN : Looks M h (isSubtype (.ref C) (.type "NameError")) false
  here : Looks M h (Bind.madeHere "BaseException.__new__" (.ref C)) ()
  self : Looks M h (isSubtype (.ref C) (.ref C)) true
  init : Looks M h (typeLookup (.ref C) "__init__") (some (.ref fI))
  bind : ∀ v, Looks M h (bindSpecial (.ref fI) v) (.ref fI, [v])
  noDel : Looks M h (classHasDel C) false
  sattr : Looks M h (typeLookup (.ref C) "__setattr__") (some (.builtin "object.__setattr__"))
  top : Looks M h (isSubtype (.ref C) (.type "object")) true
  refuse : ∃ l, Looks M h (mroOf (.ref C)) l ∧ ∀ v, Looks M h (refuseLoop v "__setattr__" l) ()
  nAttr : Looks M h (typeLookup (.ref C) "message") none
  nSpot : Looks M h (typeLookup (.ref C) "spot") none
  data : ∃ cd, Looks M h (classData C) cd ∧ cd.hasDict = true
noncomputable abbrev excObj (C t : Addr) : Obj := { cls := .ref C, data := .fields #[.ref t, .none, .none, .none, .bool false, .none] }
section
variable {prog : Program} {w : World} {A : Around} {R : Result → Shared → Prop} {h : Heap} {g : Array GenState} {d : Drawn} {t : Nat} {os : OsState} {C fI : Addr}
theorem exc_new (L : ExcL (model prog w) h C fI) {m sp : Value} (hq : R (.ok (.ret (.ref (h.objs.size + 1)))) ⟨(h.push (tupO [m, sp] 0)).push (excObj C h.objs.size), g, d, t, os⟩) :
    codeAny (model prog w) A (.builtin "Exception.__new__" ⟨[.ref C, m, sp], []⟩) R ⟨h, g, d, t, os⟩ := by
  have Fn := PySem.F.excBase_Exception
  have hends := Fn.ends
  refine codeAny_builtinAt Fn.entry ?_
  skip
  refine PySem.wpAt_bind ?_
  show PySem.wpAt _ _ _ (stack >>= _) _ _ _
  refine PySem.wpAt_bind (PySem.wpAt_stack fun p below => PySem.wpAt_of_wpAny ?_)
  wp_walk
  refine PySem.wpAt_of_wpAny ?_
  rw [Fn.owner]
  show wpAny _ _ (isType (.ref C) >>= _) _ _ _
  refine wpAny_bind (L.ty.here ?_)
  skip
  refine wpAny_bind (L.sub.here ?_)
  skip
  refine wpAny_bind (L.here.here ?_)
  refine wpAny_bind ?_
  show wpAny _ _ (isSubtype (.ref C) (.type "AttributeError") >>= _) _ _ _
  refine wpAny_bind (L.noA.here ?_)
  skip
  refine wpAny_bind (L.noN.here ?_)
  skip
  refine wpAny_pure ?_
  refine wpAny_bind (wpAny_newTuple ?_)
  show wpAny _ _ (newObjAsIs (.ref C) _ none >>= _) _ _ _
  refine wpAny_bind ?_
  skip
  refine wpAny_bind (wpAny_alloc ?_)
  have k : ∀ b o, h.get? b = some o → ((h.push (tupO [m, sp] 0)).push (excObj C h.objs.size)).get? b = some o := fun b o e => Heap.get?_push_of_some _ (Heap.get?_push_of_some _ e)
  show wpAny _ _ (classHasDel C >>= _) _ _ _
  refine wpAny_bind ((L.noDel.keeps k).here ?_)
  skip
  refine wpAny_pure (wpAny_pure ?_)
  show R (.ok (.ret (.ref (h.push (tupO [m, sp] 0)).objs.size))) _
  rw [Heap.size_push]
  exact hq
theorem exc_make (L : ExcL (model prog w) h C fI) {m sp : Value}
    (hq : codeAny (model prog w) (A.under (.builtin "type.__call__" ⟨[.ref C, m, sp], []⟩)) (.call (.ref fI) ⟨[.ref (h.objs.size + 1), m, sp], []⟩) (InitBack (h.objs.size + 1) R) ⟨(h.push (tupO [m, sp] 0)).push (excObj C h.objs.size), g, d, t, os⟩) :
    codeAny (model prog w) A (.call (.ref C) ⟨[m, sp], []⟩) R ⟨h, g, d, t, os⟩ := by
  have Fn := PySem.F.excBase_Exception
  refine codeAny_of_tree ?_
  show wpAny _ _ (callAny (.ref C) _) _ _ _
  refine (L.call m sp).here (r := .again (.call (.builtin "type.__call__") ⟨[.ref C, m, sp], []⟩)) (And.intro rfl ?_)
  refine codeAny_call_builtin_at (Code.quiet_builtin _ (by decide +kernel)) entry_typeCall ((L.check m sp).here ?_)
  skip
  refine x21 L.mro fun x l hm => ?_
  have k : ∀ b o, h.get? b = some o → ((h.push (tupO [m, sp] 0)).push (excObj C h.objs.size)).get? b = some o := fun b o e => Heap.get?_push_of_some _ (Heap.get?_push_of_some _ e)
  have hx : ((h.push (tupO [m, sp] 0)).push (excObj C h.objs.size)).get? (h.objs.size + 1) = some (excObj C h.objs.size) := by heap_get
  have made := L.made
  have t1 : Looks (model prog w) ((h.push (tupO [m, sp] 0)).push (excObj C h.objs.size)) (typeOf (.ref (h.objs.size + 1))) (.ref C) := (Looks.ld hx).andThen .now
  have s1 := L.self.keeps k
  have i1 := L.init.keeps k
  have b1 := (L.bind (.ref (h.objs.size + 1))).keeps k
  have hne : List.isEmpty (x :: l) = false := rfl
  repeat (first | rfl | with_reducible refine wpAny_call ?_ | lk)
  refine codeAny_call_builtin_code (Code.quiet_builtin _ Fn.quiet) ((L.ncheck m sp).here ?_)
  refine exc_new L ?_
  show wpAny _ _ (isInstance (.ref (h.objs.size + 1)) (.ref C) >>= _) _ _ _
  skip
  repeat (first | with_reducible refine wpAny_call ?_ | lk)
  refine codeAny_mono hq fun r s' z => ?_
  rcases r with e | (v | _ | _ | _) <;> first | exact z | exact z.elim | skip
  obtain ⟨rfl, z⟩ := z
  exact wpAny_pure (wpAny_pure z)
end
end Mine
end
section
open PySem PySem.W PyProof.Rows PySem.Calls
set_option tactic.hygienic false
namespace Mine
noncomputable def tabsT : List (Nat × Addr) := [(0, 1400), (1, 1407), (2, 1417)]
noncomputable def TabsIn (W : Wk) : Prop := ∀ q ∈ tabsT, q ∈ W.tabs
noncomputable def fnRecP (f : FnRec) : List Str := f.params
noncomputable def allGood : List (Str × NameKind) → Bool
  | [] => true
  | (x, _) :: r => and (goodName x) (allGood r)
noncomputable def keysOfN : List (Str × NameKind) → List Str
  | [] => []
  | (x, _) :: r => x :: keysOfN r
noncomputable def cellKeys : List (Str × NameKind) → List Str
  | [] => []
  | (x, k) :: r => match isCell1 (some k) with
    | true => x :: cellKeys r
    | false => cellKeys r
noncomputable def parOK (names : List (Str × NameKind)) : List Str → Bool
  | [] => true
  | x :: r => and (or (isLocalK (lkS x names)) (isCell1 (lkS x names))) (parOK names r)
noncomputable def defChk : Stmt → Bool
  | .FunctionDef _ args _ _ _ _ sc _ _ _ => isFunK sc.kind && !sc.isCoroutine && !sc.isGenerator && parOK sc.names (args.args.map (·.arg)) && nodupS (args.args.map (·.arg)) && allGood sc.names && nodupS (keysOfN sc.names) && nodupS (cellKeys sc.names).reverse
  | _ => false
theorem allGood_ok : ∀ {l : List (Str × NameKind)}, allGood l = true → ∀ p ∈ l, goodName p.1 = true
  | [], _, p, hp => nomatch hp
  | (x, k) :: r, h, p, hp => by
    refine x02 (am h) fun q h1 => ?_
    rcases List.mem_cons.mp hp with rfl | hp
    · exact q
    · exact allGood_ok h1 p hp
theorem parOK_ok {names : List (Str × NameKind)} : ∀ {l : List Str}, parOK names l = true → ∀ x ∈ l, lkS x names = some .local ∨ lkS x names = some .cell
  | [], _, x, hx => nomatch hx
  | y :: r, h, x, hx => by
    refine x02 (am h) fun q h1 => ?_
    rcases List.mem_cons.mp hx with rfl | hx
    · exact (Bool.or_eq_true_iff.mp q).imp isLocalK_ok isCell1_some
    · exact parOK_ok h1 x hx
theorem keysOfN_eq : ∀ {l : List (Str × NameKind)}, keysOfN l = l.map (·.1)
  | [] => rfl
  | (x, k) :: r => by show x :: keysOfN r = _; rw [keysOfN_eq]; rfl
theorem cellsFrom_keys : ∀ {l : List (Str × NameKind)} {k : Nat} {acc : List (Str × Addr)}, (cellsFrom k l acc).map (·.1) = (cellKeys l).reverse ++ acc.map (·.1)
  | [], _, _ => rfl
  | (x, kd) :: r, k, acc => by
    cases kd <;> try exact cellsFrom_keys (l := r)
    show (cellsFrom (k + 1) r ((x, k) :: acc)).map (·.1) = (x :: cellKeys r).reverse ++ _
    rw [cellsFrom_keys]
    simp
set_option tactic.hygienic true in
theorem fnOK_of {W : Wk} {a : Addr} {st : Stmt} {dfl : List SV} {gc : Bool} {tb : Option Nat} {oc : Value} {od : Option Addr} {osl : Array (Option Value)} {qual : Str} {dV kV doc pm cdv ct : Value} {an : Option Addr}
    (hk : W.K.lookup a = some ⟨oc, od, .func (fdOf st qual dV kV doc pm an cdv ct), osl⟩) (hc : codeIn W.K cdv qual = true) (chk : defChk st = true)
    (ht : ∀ t, tb = some t → ∃ P cc, (t, P) ∈ W.tabs ∧ cdv = .ref cc ∧ codeHdIn W.K cc P = true) (hb : Binds W (fdOf st qual dV kV doc pm an cdv ct) (recOf dfl gc tb st)) : FnOK W a (recOf dfl gc tb st) := by
  cases st <;> try (exact tf chk; done)
  rename_i name args body d r tp sc x y z
  unfold defChk at chk
  simp only [Bool.and_eq_true, Bool.not_eq_true'] at chk
  obtain ⟨⟨⟨⟨⟨⟨⟨c1, c2⟩, c3⟩, c4⟩, c5⟩, c6⟩, c7⟩, c8⟩ := chk
  have hkind : sc.kind = .function := by
    generalize sc.kind = k at c1
    cases k <;> first | rfl | exact tf c1
  refine ⟨oc, od, osl, name, qual, args, sc, dV, kV, doc, pm, an, cdv, ct, hk, hc, ⟨rfl, hkind, c2, c3, fun x hx => parOK_ok c4 x hx, nodupS_ok c5, fun x k e => goodName_ok (allGood_ok c6 _ (lkS_mem e)), ?_, ?_, fun t e => ht t e⟩, hb⟩
  · have := nodupS_ok c7
    rw [keysOfN_eq] at this; exact this
  · show ((cellsFrom 0 sc.names []).map (·.1)).Nodup
    rw [cellsFrom_keys]
    have := nodupS_ok c8
    simpa using this
theorem zipL_BR {K : Frag} {γ : G} {n d : Nat} : ∀ {names : List Str} {l : List SV} {l' : List Value}, VRs K γ n d l l' → BR K γ n d (zipL names l) (zipL names l')
  | [], _, _, h => by skip; exact .nil
  | _ :: _, _, _, .nil => .nil
  | x :: names, _, _, .cons v r => .cons v (zipL_BR r)
theorem VRs.drop {K : Frag} {γ : G} {n d : Nat} : ∀ {k : Nat} {l : List SV} {l' : List Value}, VRs K γ n d l l' → VRs K γ n d (l.drop k) (l'.drop k)
  | 0, _, _, h => h
  | _ + 1, _, _, .nil => .nil
  | k + 1, _, _, .cons _ r => r.drop (k := k)
theorem binds_of {W : Wk} {fd : FuncData} {fr : FnRec} {dv : List Value} (hdv : ∀ γ n d, VRs W.K γ n d fr.dfl dv)
    (h : ∀ args' : List Value, args'.length ≤ fr.params.length → fr.params.length - args'.length ≤ dv.length → ∀ S, peek W.K S (PySem.bindArgs fd ⟨args', []⟩) = some (zipL fr.params (args' ++ dv.drop (dv.length - (fr.params.length - args'.length))))) : Binds W fd fr := by
  intro args binds hb γ n d args' ha
  refine x02 (bm hb) fun b1 hb1 => ?_
  refine x02 (bm hb1) fun b2 hb2 => ?_
  obtain rfl := ss hb2
  have h1 := Nat.le_of_ble_eq_true b1
  have h2 := Nat.le_of_ble_eq_true b2
  have e1 := ha.len
  have e2 := (hdv γ n d).len
  refine ⟨_, h args' (by rw [e1]; exact h1) (by rw [e1, e2]; exact h2), ?_⟩
  rw [e1, e2]
  exact zipL_BR (ha.append (hdv γ n d).drop)
end Mine
end
section
open PySem PySem.W PyProof.Rows
set_option tactic.hygienic false
set_option maxRecDepth 100000
namespace Mine
structure FRow where
  a : Nat
  i : Nat
  k : Option Nat
  d : List SV
  g : Bool
  t : Option Nat
  q : Str
  dV : Value
  m : Nat
noncomputable def FRow.st (r : FRow) : Stmt := match r.k with
  | none => stAt r.i
  | some k => (getAt k (bodyOf (stAt r.i))).getD (.Pass ⟨0, 0, 0, 0⟩)
noncomputable def FRow.fr (r : FRow) : FnRec := recOf r.d r.g r.t r.st
noncomputable def modsT : List (Str × Nat) := [("chancore.types", 194), ("chancore.lookup", 465), ("chancore.method_sets", 612), ("chancore.check_exprs", 679), ("chancore.assign", 892), ("chancore.check_loops", 1520), ("chancore.world", 2197), ("law_xm0202_01", 2314), ("chancore.scopes", 1880), ("chancore.check_state", 2015)]
noncomputable def FRow.mod (r : FRow) : Value := match getAt r.m modsT with
  | some p => .str p.1 p.2
  | none => .none
noncomputable def FRow.fd (r : FRow) : FuncData := fdOf r.st r.q r.dV .none .none r.mod none (.ref (r.a - 1)) .none
noncomputable def fRows : List FRow := [
⟨78, 16, none, [], false, none, "is_named", .none, 0⟩,
⟨85, 17, none, [], false, none, "is_untyped", .none, 0⟩,
⟨99, 19, none, [], false, none, "is_interface", .none, 0⟩,
⟨120, 22, none, [], false, none, "is_truth", .none, 0⟩,
⟨71, 15, none, [], false, none, "underlying_of", .none, 0⟩,
⟨64, 14, none, [], false, none, "type_text", .none, 0⟩,
⟨259, 40, none, [], false, none, "own_methods", .none, 1⟩,
⟨264, 41, none, [], false, none, "members_at", .none, 1⟩,
⟨271, 42, none, [], false, none, "embedded_in", .none, 1⟩,
⟨306, 44, none, [], false, none, "start_type", .none, 1⟩,
⟨313, 45, none, [], true, none, "find_member", .none, 1⟩,
⟨320, 47, none, [], false, none, "names_of_methods", .none, 2⟩,
⟨327, 48, none, [], true, none, "member_or_none", .none, 2⟩,
⟨332, 49, none, [], false, none, "is_in_set", .none, 2⟩,
⟨339, 50, none, [], false, none, "method_set", .none, 2⟩,
⟨346, 51, none, [], true, none, "lack_of", .none, 2⟩,
⟨353, 52, none, [], true, none, "implements", .none, 2⟩,
⟨381, 57, none, [], true, none, "want_possible", .none, 3⟩,
⟨490, 79, none, [], true, none, "is_like_chan", .none, 4⟩,
⟨497, 80, none, [], true, none, "meets_face", .none, 4⟩,
⟨505, 81, none, [.bool false], true, none, "is_assignable", .ref 498, 4⟩,
⟨876, 134, none, [], false, none, "is_blank_name", .none, 5⟩,
⟨888, 136, none, [], true, none, "truth_as", .none, 5⟩,
⟨916, 138, none, [], false, none, "begun_loop", .none, 5⟩,
⟨923, 139, none, [], false, none, "place_led_to", .none, 5⟩,
⟨1313, 150, none, [], false, none, "known_rows", .none, 6⟩,
⟨1384, 157, none, [], false, none, "_law_plain", .none, 7⟩,
⟨1391, 158, none, [], false, none, "_law_checker", .none, 7⟩,
⟨1398, 159, none, [], false, none, "_law_tree", .none, 7⟩,
⟨1405, 160, none, [], true, some 0, "_law_truth_right", .none, 7⟩,
⟨1410, 161, none, [], true, some 1, "_law_loops_right", .none, 7⟩,
⟨1415, 162, none, [], true, none, "_law_way_right", .none, 7⟩,
⟨1420, 163, none, [], true, some 2, "_law_cases_right", .none, 7⟩,
⟨1425, 164, none, [], false, none, "law", .none, 7⟩,
⟨231, 37, some 0, [.bool false], false, none, "Reached.__init__", .ref 224, 1⟩,
⟨285, 43, some 0, [], false, none, "Levels.__init__", .none, 1⟩,
⟨292, 43, some 1, [], false, none, "Levels.go_on", .none, 1⟩,
⟨902, 137, some 0, [], false, none, "LoopRow.__init__", .none, 5⟩,
⟨937, 140, some 0, [], false, none, "Breakable.__init__", .none, 5⟩,
⟨991, 140, some 8, [], false, none, "Breakable.array_way", .none, 5⟩,
⟨1042, 140, some 16, [], true, none, "Breakable.want_unlike", .none, 5⟩,
⟨1106, 143, some 0, [.none], false, none, "Scope.__init__", .ref 1099, 8⟩,
⟨1180, 146, some 0, [.none], false, none, "Checker.__init__", .ref 1173, 9⟩,
⟨1217, 146, some 5, [], true, none, "Checker.coerce", .none, 9⟩,
⟨1246, 146, some 9, [.none], false, none, "Checker.hidden", .ref 1239, 9⟩,
⟨1299, 149, some 0, [], false, none, "NamedRow.__init__", .none, 6⟩,
⟨1328, 151, some 0, [.none], false, none, "World.__init__", .ref 1321, 6⟩,
⟨1335, 151, some 1, [], false, none, "World.base_of", .none, 6⟩]
noncomputable def dvOf : List SV → List Value
  | [] => []
  | v :: r => (match v with | .bool b => .bool b | _ => .none) :: dvOf r
noncomputable def plainD : List SV → Bool
  | [] => true
  | v :: r => match v with
    | .bool _ => plainD r
    | .none => plainD r
    | _ => false
theorem dv_ok {K : Frag} {γ : G} {n d : Nat} {l : List SV} (h : plainD l = true) : VRs K γ n d l (dvOf l) := by
  induction l with
  | nil => exact .nil
  | cons v r ih =>
    cases v with
    | none => exact .cons .none (ih h)
    | bool b => exact .cons (.bool b) (ih h)
    | _ => exact tf h
noncomputable def argsOf (x : Nat → Value) : Nat → List Value
  | 0 => []
  | k + 1 => x 0 :: argsOf (fun i => x (i + 1)) k
theorem argsOf_all (l : List Value) : ∃ x, l = argsOf x l.length := by
  induction l with
  | nil => exact ⟨fun _ => .none, rfl⟩
  | cons v r ih =>
    refine x11 ih fun x e => ?_
    exact ⟨fun i => match i with | 0 => v | i + 1 => x i, congrArg (List.cons v) e⟩
theorem recOf_dfl {d : List SV} {g : Bool} {t : Option Nat} {st : Stmt} (h : defChk st = true) : (recOf d g t st).dfl = d := by cases st <;> first | rfl | exact tf h
noncomputable def tabOK (K : Frag) (r : FRow) : Bool := match r.t with
  | none => true
  | some t => tabsT.any fun q => and (Nat.beq q.1 t) (codeHdIn K (r.a - 1) q.2)
noncomputable def FRow.fits (r : FRow) (k : Nat) : Bool := and (Nat.ble k r.fr.params.length) (Nat.ble (r.fr.params.length - k) (dvOf r.d).length)
theorem FRow.fits_of {r : FRow} {k : Nat} (h1 : k ≤ r.fr.params.length) (h2 : r.fr.params.length - k ≤ (dvOf r.d).length) : r.fits k = true := Bool.and_eq_true_iff.mpr ⟨Nat.ble_eq_true_of_le h1, Nat.ble_eq_true_of_le h2⟩
theorem rowsLk (P : Params) : fRows.map (fun r => (kn P).lookup r.a) = fRows.map fun r => some ⟨.type "function", none, .func r.fd, #[]⟩ := by kernel_rfl
theorem rowsChk (P : Params) : fRows.all (fun r => and (and (codeIn (kn P) (.ref (r.a - 1)) r.q) (and (defChk r.st) (tabOK (kn P) r))) (and (keepIn (kn P) (.ref r.a)) (and (plainD r.d) (Nat.ble r.fr.params.length 8)))) = true := by kernel_rfl
theorem rowsBd (P : Params) (S : Setting) (x : Nat → Value) : fRows.map (fun r => (List.range 9).map fun k => guardO (r.fits k) (peek (kn P) S (PySem.bindArgs r.fd ⟨argsOf x k, []⟩))) = fRows.map fun r => (List.range 9).map fun k => guardO (r.fits k) (some (zipL r.fr.params (argsOf x k ++ (dvOf r.d).drop ((dvOf r.d).length - (r.fr.params.length - k))))) := by kernel_rfl
theorem row_ok (W : Wk) (P : Params) (hK : W.K = kn P) (hT : TabsIn W) {r : FRow} (hr : r ∈ fRows) : FnOK W r.a r.fr ∧ keepIn W.K (.ref r.a) = true := by
  have e1 := List.map_inj_left.mp (rowsLk P) r hr
  refine x02 (am (List.all_eq_true.mp (rowsChk P) r hr)) fun c1 c2 => ?_
  refine x02 (am c1) fun c3 c4 => ?_
  refine x02 (am c4) fun c5 c6 => ?_
  refine x02 (am c2) fun c7 c8 => ?_
  refine x02 (am c8) fun c9 c10 => ?_
  rw [← hK] at e1 c3 c6 c7
  refine ⟨fnOK_of e1 c3 c5 (fun t e => ?_) (binds_of (dv := dvOf r.d) (fun γ n d => by rw [recOf_dfl c5]; exact dv_ok c9) fun args' h1 h2 S => ?_), c7⟩
  · unfold tabOK at c6
    rw [e] at c6
    refine x12 (List.any_eq_true.mp c6) fun q hq h => ?_
    refine x02 (am h) fun h3 h4 => ?_
    cases Nat.eq_of_beq_eq_true h3
    exact ⟨q.2, _, hT q hq, rfl, h4⟩
  · refine x11 (argsOf_all args') fun x hx => ?_
    have h3 := List.map_inj_left.mp (List.map_inj_left.mp (rowsBd P S x) r hr) args'.length (List.mem_range.mpr (Nat.lt_succ_of_le (Nat.le_trans h1 (Nat.le_of_ble_eq_true c10))))
    rw [← hx, ← hK, FRow.fits_of h1 h2] at h3
    exact h3
theorem fnsT_rows : fnsT = fRows.map fun r => (r.a, r.fr) := by kernel_rfl
theorem fnAll (W : Wk) (P : Params) (hK : W.K = kn P) (hT : TabsIn W) (p : Nat × FnRec) (h : p ∈ fnsT) : FnOK W p.1 p.2 ∧ keepIn W.K (.ref p.1) = true := by
  rw [fnsT_rows] at h
  (refine x12 (List.mem_map.mp h) fun r hr er2 => ?_; subst er2)
  exact row_ok W P hK hT hr
end Mine
end
section
open PySem PySem.W PyProof.Rows
set_option tactic.hygienic false
set_option maxRecDepth 100000
namespace Mine
structure GM (W : Wk) : Prop where
  sm : ∀ x v, nsIn W.K mainGlobals x = some (some v) → W.mg x = some v
  nn : ∀ x, nsIn W.K mainGlobals x = some none → W.mg x = none
  bl : ∀ x v, bootBuiltins x = some v → x ≠ "__name__" → W.mb x = some v
inductive AllP {α : Type} (P : α → Prop) : List α → Prop
  | nil : AllP P []
  | cons {x l} : P x → AllP P l → AllP P (x :: l)
theorem AllP.mem {α : Type} {P : α → Prop} {l : List α} (h : AllP P l) : ∀ {x : α}, x ∈ l → P x := by
  induction h with
  | nil => intro x hx; cases hx
  | cons p _ ih => intro x hx; rcases List.mem_cons.mp hx with rfl | hx; exact p; exact ih hx
noncomputable abbrev GP (W : Wk) (p : Str × SV) : Prop := ∃ v', (W.mg p.1 = some v' ∨ (W.mg p.1 = none ∧ W.mb p.1 = some v')) ∧ ∀ γ n d, VR W.K γ n d p.2 v'
noncomputable abbrev topsT : List (Str × Nat) := [(Str.ofString "is_named", 78), (Str.ofString "is_untyped", 85), (Str.ofString "is_interface", 99), (Str.ofString "is_truth", 120), (Str.ofString "underlying_of", 71), (Str.ofString "type_text", 64), (Str.ofString "own_methods", 259), (Str.ofString "members_at", 264), (Str.ofString "embedded_in", 271), (Str.ofString "start_type", 306), (Str.ofString "find_member", 313), (Str.ofString "names_of_methods", 320), (Str.ofString "member_or_none", 327), (Str.ofString "is_in_set", 332), (Str.ofString "method_set", 339), (Str.ofString "lack_of", 346), (Str.ofString "implements", 353), (Str.ofString "want_possible", 381), (Str.ofString "is_like_chan", 490), (Str.ofString "meets_face", 497), (Str.ofString "is_assignable", 505), (Str.ofString "is_blank_name", 876), (Str.ofString "truth_as", 888), (Str.ofString "begun_loop", 916), (Str.ofString "place_led_to", 923), (Str.ofString "known_rows", 1313), (Str.ofString "_law_plain", 1384), (Str.ofString "_law_checker", 1391), (Str.ofString "_law_tree", 1398), (Str.ofString "_law_truth_right", 1405), (Str.ofString "_law_loops_right", 1410), (Str.ofString "_law_way_right", 1415), (Str.ofString "_law_cases_right", 1420), (Str.ofString "law", 1425), (Str.ofString "has_calls", 881), (Str.ofString "_law_reel", 1356), (Str.ofString "_law_wound", 1363), (Str.ofString "_law_one", 1370), (Str.ofString "_law_tried", 1377), (Str.ofString "Reached", 234), (Str.ofString "Levels", 295), (Str.ofString "LoopRow", 905), (Str.ofString "Breakable", 1066), (Str.ofString "Scope", 1160), (Str.ofString "Checker", 1278), (Str.ofString "NamedRow", 1302), (Str.ofString "World", 1345), (Str.ofString "NameFault", 178), (Str.ofString "ConstFault", 202), (Str.ofString "FlowFault", 214), (Str.ofString "TypeFault", 190)]
noncomputable abbrev bfsT : List (Str × Bf) := [("len", .len), ("isinstance", .isinstance), ("sorted", .sorted), ("tuple", .tuple), ("list", .list), ("range", .range), ("enumerate", .enumerate)]
theorem topsG (P : Params) : topsT.map (fun p => nsIn (kn P) mainGlobals p.1) = topsT.map fun p => some (some (.ref p.2)) := by kernel_rfl
theorem bfsG (P : Params) : bfsT.map (fun p => (nsIn (kn P) mainGlobals p.1, bootBuiltins p.1)) = bfsT.map fun p => (some none, some (bfV p.2)) := by kernel_rfl
theorem bfsN : bfsT.all (fun p => !sB p.1 "__name__") = true := by kernel_rfl
theorem tupsG (P : Params) : nsIn (kn P) mainGlobals "NIL" = some (some (.ref 26)) ∧ nsIn (kn P) mainGlobals "NILABLE" = some (some (.ref 28)) ∧ nsIn (kn P) mainGlobals "WHOLE_check_loops" = some (some (.ref 864)) ∧ nsIn (kn P) mainGlobals "LOOPS" = some (some (.ref 866)) ∧ nsIn (kn P) mainGlobals "PLAIN" = some (some (.ref 1285)) := ⟨by kernel_rfl, by kernel_rfl, by kernel_rfl, by kernel_rfl, by kernel_rfl⟩
theorem sV {K : Frag} {γ : G} {n d : Nat} {x : Str} {k : Nat} (h : okS x = true) : VR K γ n d (.str x) (.str x k) := .str k (okS_ok h)
theorem gl51 (W : Wk) (P : Params) (hK : W.K = kn P) (hG : GM W) : GP W (Str.ofString "NIL", SV.tup [.str "nil"]) := ⟨.ref 26, .inl (hG.sm _ _ (by rw [hK]; exact (tupsG P).1)), fun γ n d => .tup (vs := [.str (Str.ofString "nil") 206]) (k := 0) (.inr (by rw [hK]; kernel_rfl)) (.cons (.str 206 (by kernel_rfl)) .nil)⟩
theorem gl52 (W : Wk) (P : Params) (hK : W.K = kn P) (hG : GM W) : GP W (Str.ofString "NILABLE", SV.tup [.str "ptr", .str "func", .str "slice", .str "map", .str "chan", .str "interface"]) := ⟨.ref 28, .inl (hG.sm _ _ (by rw [hK]; exact (tupsG P).2.1)), fun γ n d => .tup (vs := [.str (Str.ofString "ptr") 217, .str (Str.ofString "func") 218, .str (Str.ofString "slice") 219, .str (Str.ofString "map") 220, .str (Str.ofString "chan") 221, .str (Str.ofString "interface") 222]) (k := 0) (.inr (by rw [hK]; kernel_rfl)) (.cons (.str 217 (by kernel_rfl)) (.cons (.str 218 (by kernel_rfl)) (.cons (.str 219 (by kernel_rfl)) (.cons (.str 220 (by kernel_rfl)) (.cons (.str 221 (by kernel_rfl)) (.cons (.str 222 (by kernel_rfl)) .nil))))))⟩
theorem gl53 (W : Wk) (P : Params) (hK : W.K = kn P) (hG : GM W) : GP W (Str.ofString "WHOLE_check_loops", SV.tup [.str "int", .str "int"]) := ⟨.ref 864, .inl (hG.sm _ _ (by rw [hK]; exact (tupsG P).2.2.1)), fun γ n d => .tup (vs := [.str (Str.ofString "int") 1522, .str (Str.ofString "int") 1523]) (k := 0) (.inr (by rw [hK]; kernel_rfl)) (.cons (.str 1522 (by kernel_rfl)) (.cons (.str 1523 (by kernel_rfl)) .nil))⟩
theorem gl54 (W : Wk) (P : Params) (hK : W.K = kn P) (hG : GM W) : GP W (Str.ofString "LOOPS", SV.tup [.str "for", .str "range"]) := ⟨.ref 866, .inl (hG.sm _ _ (by rw [hK]; exact (tupsG P).2.2.2.1)), fun γ n d => .tup (vs := [.str (Str.ofString "for") 1528, .str (Str.ofString "range") 1529]) (k := 0) (.inr (by rw [hK]; kernel_rfl)) (.cons (.str 1528 (by kernel_rfl)) (.cons (.str 1529 (by kernel_rfl)) .nil))⟩
theorem gl55 (W : Wk) (P : Params) (hK : W.K = kn P) (hG : GM W) : GP W (Str.ofString "PLAIN", SV.tup [.str "func", .tup [], .tup [], .bool false]) := ⟨.ref 1285, .inl (hG.sm _ _ (by rw [hK]; exact (tupsG P).2.2.2.2)), fun γ n d => .tup (vs := [.str (Str.ofString "func") 2199, .ref 1283, .ref 1284, .bool false]) (k := 0) (.inr (by rw [hK]; kernel_rfl)) (.cons (.str 2199 (by kernel_rfl)) (.cons (.tup (vs := []) (k := 0) (.inr (by rw [hK]; kernel_rfl)) (.nil)) (.cons (.tup (vs := []) (k := 0) (.inr (by rw [hK]; kernel_rfl)) (.nil)) (.cons (.bool _) .nil))))⟩
theorem globT_is : globT = topsT.map (fun p => (p.1, SV.top p.2)) ++ [(Str.ofString "NIL", SV.tup [.str "nil"]), (Str.ofString "NILABLE", SV.tup [.str "ptr", .str "func", .str "slice", .str "map", .str "chan", .str "interface"]), (Str.ofString "WHOLE_check_loops", SV.tup [.str "int", .str "int"]), (Str.ofString "LOOPS", SV.tup [.str "for", .str "range"]), (Str.ofString "PLAIN", SV.tup [.str "func", .tup [], .tup [], .bool false])] ++ bfsT.map fun p => (p.1, SV.fn p.2) := by kernel_rfl
theorem glAll (W : Wk) (P : Params) (hK : W.K = kn P) (hG : GM W) (q : Str × SV) (h : q ∈ globT) : GP W q := by
  rw [globT_is] at h
  rcases List.mem_append.mp h with h | h
  · rcases List.mem_append.mp h with h | h
    · refine x12 (List.mem_map.mp h) fun p hp er2 => ?_; subst er2
      exact ⟨.ref p.2, .inl (hG.sm _ _ (by rw [hK]; exact List.map_inj_left.mp (topsG P) p hp)), fun γ n d => .top _⟩
    · exact AllP.mem (P := GP W) (.cons (gl51 W P hK hG) (.cons (gl52 W P hK hG) (.cons (gl53 W P hK hG) (.cons (gl54 W P hK hG) (.cons (gl55 W P hK hG) .nil))))) h
  · refine x12 (List.mem_map.mp h) fun p hp er2 => ?_; subst er2
    have e := List.map_inj_left.mp (bfsG P) p hp
    exact ⟨bfV p.2, .inr ⟨hG.nn _ (by rw [hK]; exact congrArg Prod.fst e), hG.bl _ _ (congrArg Prod.snd e) (sB_false.mp (notm (List.all_eq_true.mp bfsN p hp)))⟩, fun γ n d => .fn _⟩
theorem clsChk (P : Params) : clsT.map (fun p => (makesIn (kn P) p.1, findIn (kn P) (.ref p.1) "__init__", isFn (kn P) (.ref p.2.init), keepIn (kn P) (.ref p.1))) = clsT.map fun p => (true, some (some (.ref p.2.init)), true, true) := by kernel_rfl
theorem methChk (P : Params) : clsT.map (fun p => p.2.meths.map fun q => (plainGet (kn P) p.1 q.1, findIn (kn P) (.ref p.1) q.1, isFn (kn P) (.ref q.2))) = clsT.map fun p => p.2.meths.map fun q => (true, some (some (.ref q.2)), true) := by kernel_rfl
theorem fldChk (P : Params) : clsT.map (fun p => p.2.flds.map fun x => (plainGet (kn P) p.1 x, hasDictIn (kn P) p.1, findIn (kn P) (.ref p.1) x, findIn (kn P) (.ref p.1) "__setattr__", plainOver (kn P) p.1, takerIn (kn P) p.1 x)) = clsT.map fun p => p.2.flds.map fun x => (true, true, some none, some (some (.builtin "object.__setattr__")), true, some none) := by kernel_rfl
theorem p2 {α β : Type} {a c : α} {b d : β} (h : (a, b) = (c, d)) : a = c ∧ b = d := Prod.mk.inj h
theorem clAll (W : Wk) (P : Params) (hK : W.K = kn P) (hT : TabsIn W) {C : Cfg} (hC : C.fns = fnsT) (p : Nat × ClsRec) (h : p ∈ clsT) : ClsOK W C p.1 p.2 ∧ keepIn W.K (.ref p.1) = true := by
  refine x02 (p2 (List.map_inj_left.mp (clsChk P) p h)) fun h1 e => ?_
  refine x02 (p2 e) fun h2 e => ?_
  refine x02 (p2 e) fun h3 h4 => ?_
  rw [← hK] at h1 h2 h3 h4
  exact ⟨⟨h1, h2, h3, fun fr q => (fnAll W P hK hT (_, fr) (lkN_mem (by rw [hC] at q; exact q))).1⟩, h4⟩
theorem globOK (W : Wk) (P : Params) (hK : W.K = kn P) (hG : GM W) {C : Cfg} (hC : C.glob = globT) : GlobOK W C := fun x v h => glAll W P hK hG (x, v) (lkS_mem (by rw [hC] at h; exact h))
theorem methOK (W : Wk) (P : Params) (hK : W.K = kn P) {C : Cfg} (hC : C.cls = clsT) : MethOK W C := fun c r name f h1 h2 => by
  (refine x02 (p2 (List.map_inj_left.mp (List.map_inj_left.mp (methChk P) (c, r) (lkN_mem (by rw [hC] at h1; exact h1))) (name, f) (lkS_mem h2))) fun k1 e => ?_)
  rw [hK]
  exact ⟨k1, p2 e⟩
theorem memS_mem {x : Str} {l : List Str} (h : memS x l = true) : x ∈ l := by
  induction l with
  | nil => exact tf h
  | cons y r ih =>
    replace h : (match sB x y with | true => true | false => memS x r) = true := h
    refine bc (b := sB x y) (fun q => ?_) fun q => ?_
    · rw [sB_iff.mp q]; exact .head _
    · rw [q] at h; exact .tail _ (ih h)
theorem setOK (W : Wk) (P : Params) (hK : W.K = kn P) {C : Cfg} (hC : C.cls = clsT) : SetOK W C := fun c x h => by
  unfold hasFld at h
  refine oc (o := lkN c C.cls) (fun hr => ?_) fun r hr => ?_
  · rw [hr] at h; exact ft h.symm
  · rw [hr] at h
    refine x02 (p2 (List.map_inj_left.mp (List.map_inj_left.mp (fldChk P) (c, r) (lkN_mem (by rw [hC] at hr; exact hr))) x (memS_mem h))) fun k1 e => ?_
    refine x02 (p2 e) fun k2 e => ?_
    refine x02 (p2 e) fun k3 e => ?_
    rw [hK]
    exact ⟨⟨k1, k2, none, k3, rfl⟩, p2 e |>.imp id p2⟩
end Mine
end
section
open PySem PySem.W PyProof.Rows PySem.Calls
set_option tactic.hygienic false
namespace Mine
section
variable {prog : Program} {w : World} {A : Around} {E : Value → Shared → Prop} {s : Shared} {h : Heap} {C fI e : Addr} {oe : Obj} {vs : Array Value}
theorem super_init (L : ExcL (model prog w) h C fI) (k : ∀ b o, h.get? b = some o → s.heap.get? b = some o) {dct : Option Addr} (he : s.heap.get? e = some ⟨.ref C, dct, .fields vs, #[]⟩) (h0 : 0 < vs.size) {m : Value} {Q : Value → Shared → Prop}
    (hq : ∀ h', (∀ b o, @Ne Nat b e → s.heap.get? b = some o → h'.get? b = some o) → h'.get? e = some ⟨.ref C, dct, .fields (vs.setIfInBounds 0 (.ref s.heap.objs.size)), #[]⟩ → Q .none { s with heap := h' }) :
    wpAny (model prog w) A (call (.builtin "Exception.__init__") [.ref e, m]) Q E s := by
  have F := PySem.F.excBase_Exception
  have t1 : Looks (model prog w) s.heap (typeOf (.ref e)) (.ref C) := (Looks.ld he).andThen .now
  have s1 := L.sub.keeps k
  have hi : Looks (model prog w) s.heap (isInstance (.ref e) (.type "Exception")) true := t1.andThen s1
  have chk : ∀ {A : Around} {Q : Unit → Shared → Prop} {E : Value → Shared → Prop}, Q () s → wpAny (model prog w) A (checkBuiltinCall "Exception.__init__" ⟨[.ref e, m], []⟩) Q E s := fun {A Q E} q => by
    have hshort := F.noStar
    skip
    refine wpAny_bind (hi.here ?_)
    refine x12 L.data fun cd lc _ => ?_
    have lc' := lc.keeps k
    repeat (first | with_reducible refine wpAny_bind (lc'.here ?_) | wp_step)
    exact q
  refine wpAny_call (codeAny_call_builtin F.init.plain F.initEntry (chk ?_))
  skip
  show wpAny _ _ (newTuple [m] >>= _) _ _ _
  refine wpAny_bind (wpAny_newTuple ?_)
  have he1 : (s.heap.push (tupO [m] 0)).get? e = some ⟨.ref C, dct, .fields vs, #[]⟩ := Heap.get?_push_of_some _ he
  obtain ⟨v0, hv0⟩ : ∃ v0, vs[0]? = some v0 := ⟨vs[0], by simp [h0]⟩
  refine wpAny_bind ?_
  skip
  refine wpAny_bind (wpAny_field he1 rfl hv0 ?_)
  refine wpAny_bind (wpAny_setField he1 rfl h0 ?_)
  have fin : ∀ (t : Sem Unit), t = pure () ∨ (∃ l k, t = letGo l k) → wpAny (model prog w) A.in1 t (fun _ s' => wpAny (model prog w) A.in1 (ret .none) (fun fin s' => match fin with
      | .done f => (match (Except.ok f : Result) with | .ok (.ret v) => Q v s' | .ok _ => False | .error e => E e s')
      | .again c' => c'.quiet = true ∧ codeAny (model prog w) A c' (fun r s' => match r with | .ok (.ret v) => Q v s' | .ok _ => False | .error e => E e s') s') (fun e s' => E e s') s') (fun e s' => E e s') { s with heap := (s.heap.push (tupO [m] 0)).update e (Obj.mapFields (·.setIfInBounds 0 (.ref s.heap.objs.size))) } := by
    intro t ht
    have q := hq ((s.heap.push (tupO [m] 0)).update e (Obj.mapFields (·.setIfInBounds 0 (.ref s.heap.objs.size)))) (fun b o hb g => (Heap.get?_update_other _ _ (Ne.symm hb)).trans (Heap.get?_push_of_some _ g)) (Heap.get?_update_self _ he1 rfl)
    rcases ht with rfl | ⟨l, kk, rfl⟩
    · exact wpAny_pure (wpAny_pure q)
    · exact wpAny_letGo (wpAny_pure q)
  cases v0 <;> exact fin _ (by first | exact .inl rfl | exact .inr ⟨_, _, rfl⟩)
end
end Mine
end
section
open PySem PySem.W PyProof.Rows PySem.Calls
set_option tactic.hygienic false
namespace Mine
open Builtin Builtin.ObjectAttr
section
variable {prog : Program} {w : World} {A : Around} {E : Value → Shared → Prop} {s : Shared} {h : Heap} {C fI e dx : Addr} {vs : Array Value}
set_option tactic.hygienic true in
theorem store_in {es : List DictEntry} {n : Nat} {name : Str} {tk : Tok} {v : Value} {P : PySem.Fin → Shared → Prop} (D : s.heap.get? dx = some (dictOf es n)) (hl : (getL name es).isSome = true) (hz : es.length ≤ 900)
    (hq : ∀ h', (∀ b o, @Ne Nat b dx → s.heap.get? b = some o → h'.get? b = some o) → h'.get? dx = some (dictOf (PySem.W.putL name (PyData.keyHash w.params name) (.str name s.toks) v es) (putN name es n)) → P (.done (.ret .none)) { s with heap := h', toks := s.toks + 1 }) :
    wpAny (model prog w) A (storeInDict dx (.str name tk) name v) P E s := by
  have e1 := putName_dict name (PyData.keyHash w.params name) (.str name s.toks) v es n
  have D' : (s.heap.update dx (Obj.putName name (PyData.keyHash w.params name) (.str name s.toks) v)).get? dx = some (dictOf (PySem.W.putL name (PyData.keyHash w.params name) (.str name s.toks) v es) (putN name es n)) := by
    rw [Heap.get?_update_self _ D (by rw [e1]; rfl), e1]
  have hlen : ∀ l : List DictEntry, (PySem.W.putL name (PyData.keyHash w.params name) (.str name s.toks) v l).length ≤ l.length + 1 := by
    intro l
    induction l with
    | nil => exact Nat.le_refl _
    | cons x r ih =>
      unfold PySem.W.putL
      split
      · exact Nat.le_succ _
      · exact Nat.succ_le_succ ih
  refine wpAny_bind (wpAny_pure (wpAny_bind ?_))
  skip
  refine wpAny_bind (wpAny_bind (wpAny_askSetting (wpAny_pure (wpAny_bind (wpAny_mkText (wpAny_bind (wpAny_loadPart D ?_)))))))
  dsimp only
  have c : (!es.toArray.any (·.key.isStr name) && es.toArray.any (·.refKey)) = false := by
    rw [← Array.any_toList, ← Array.any_toList]
    unfold getL at hl
    split at hl
    · rename_i en he
      rw [List.any_eq_true.mpr ⟨en, List.mem_of_find?_eq_some he, List.find?_some he⟩]; rfl
    · split at hl
      · exact tf hl
      · rename_i z; rw [Bool.not_eq_true] at z; rw [z, Bool.and_false]
  rw [aRefKeyMayBeTheName_at, c]
  refine wpAny_updatePart D ?_
  refine wpAny_bind (wpAny_lookBehind D' (pastItsLine_dict (by rw [List.size_toArray, sizeLine_eq]; have := hlen es; exact Nat.le_trans (by assumption) (Nat.le_trans (Nat.succ_le_succ (by assumption)) (by decide)))) ?_)
  exact wpAny_pure (hq _ (fun b o hb g => (Heap.get?_update_other _ _ (Ne.symm hb)).trans g) D')
theorem exc_open (L : ExcL (model prog w) h C fI) (k : ∀ b o, h.get? b = some o → s.heap.get? b = some o) {dct : Option Addr} (he : s.heap.get? e = some ⟨.ref C, dct, .fields vs, #[]⟩) {name : Str} {v : Value} (hn : Looks (model prog w) h (typeLookup (.ref C) name) none) {Q : Unit → Shared → Prop}
    (hq : wpAny (model prog w) A.in1 (storeInOwnDict (.ref e) (.ref C) (.str name s.toks) name v false) (fun fin s' => match fin with
      | .done f => (match (Except.ok f : Result) with | .ok (.ret _) => Q () s' | .ok _ => False | .error e => E e s')
      | .again c' => c'.quiet = true ∧ codeAny (model prog w) A c' (fun r s' => match r with | .ok (.ret _) => Q () s' | .ok _ => False | .error e => E e s') s') (fun e s' => E e s') { s with toks := s.toks + 1 }) :
    wpAny (model prog w) A (setAttr (.ref e) name v) Q E s := by
  have SF := PySem.F.store_object
  have t0 : Looks (model prog w) s.heap (typeOf (.ref e)) (.ref C) := (Looks.ld he).andThen .now
  have sub : Looks (model prog w) s.heap (isInstance (.ref e) (.type "object")) true := t0.andThen (L.top.keeps k)
  refine x12 L.refuse fun l hm hr => ?_
  refine wpAny_bind (wpAny_mkText (wpAny_bind (wpAny_bind (wpAny_bind (t0 _ _ _ _ (fun _ _ e => e) ((L.sattr.keeps k) _ _ _ _ (fun _ _ e => e) (wpAny_holding ?_)))))))
  rw [PySem.F.store_object.slot.bind]
  refine wpAny_bind (wpAny_pure (wpAny_bind (wpAny_call (codeAny_mono (R := fun r s' => match r with | .ok (.ret _) => Q () s' | .ok _ => False | .error e => E e s') ?_ fun r s' z => ?_))))
  · refine codeAny_call_builtin SF.slot.plain SF.entry (@check_slot (model prog w) _ _ _ "object.__setattr__" "object" "__setattr__" (.ref e) [.str name s.toks, v] [] _ SF.kind SF.split sub (SF.args (.ref e) (.str name s.toks) v) ?_)
    show wpAny _ _ (Builtin.«object.__setattr__» ⟨[.ref e, .str name s.toks, v], []⟩) _ _ _
    rw [osa_eq, refuse_eq]
    refine wpAny_bind (wpAny_bind (t0.here (s := { s with toks := s.toks + 1 }) (wpAny_bind ((hm.keeps k).here (s := { s with toks := s.toks + 1 }) (((hr _).keeps k).here (s := { s with toks := s.toks + 1 }) ?_)))))
    refine wpAny_bind (t0.here (s := { s with toks := s.toks + 1 }) (wpAny_bind ((hn.keeps k).here (s := { s with toks := s.toks + 1 }) ?_)))
    exact wpAny_bind (wpAny_pure hq)
  · rcases r with e | (v | _ | _ | _) <;> first | exact z | exact wpAny_pure (wpAny_pure z)
end
end Mine
end
section
open PySem PySem.W PyProof.Rows PySem.Calls
set_option tactic.hygienic false
namespace Mine
open Builtin Builtin.ObjectAttr
section
variable {prog : Program} {w : World} {A : Around} {E : Value → Shared → Prop} {s : Shared} {h : Heap} {C fI e dx : Addr} {vs : Array Value}
theorem exc_set1 (L : ExcL (model prog w) h C fI) (k : ∀ b o, h.get? b = some o → s.heap.get? b = some o) (he : s.heap.get? e = some ⟨.ref C, some dx, .fields vs, #[]⟩) {es : List DictEntry} {n : Nat} (D : s.heap.get? dx = some (dictOf es n)) {name : Str} {v : Value} (hn : Looks (model prog w) h (typeLookup (.ref C) name) none)
    (hl : (getL name es).isSome = true) (hz : es.length ≤ 900) {Q : Unit → Shared → Prop}
    (hq : ∀ h' tk, (∀ b o, @Ne Nat b dx → s.heap.get? b = some o → h'.get? b = some o) → (∃ t, h'.get? dx = some (dictOf (PySem.W.putL name (PyData.keyHash w.params name) (.str name t) v es) (putN name es n))) → Q () { s with heap := h', toks := tk }) :
    wpAny (model prog w) A (setAttr (.ref e) name v) Q E s := by
  refine x12 L.data fun cd lc hcd => ?_
  refine exc_open L k he hn ?_
  refine wpAny_bind (wpAny_pure ?_)
  show wpAny _ _ (instanceDict e true >>= _) _ _ _
  refine wpAny_bind ?_
  skip
  refine wpAny_bind (wpAny_loadPart (s := { s with toks := s.toks + 1 }) he ?_)
  refine wpAny_bind ((lc.keeps k).here (s := { s with toks := s.toks + 1 }) ?_)
  rw [hcd]
  refine wpAny_pure (a := some dx) ?_
  exact store_in (s := { s with toks := s.toks + 1 }) D hl hz fun h' k' d' => hq h' _ k' ⟨_, d'⟩
theorem exc_set0 (L : ExcL (model prog w) h C fI) (k : ∀ b o, h.get? b = some o → s.heap.get? b = some o) (he : s.heap.get? e = some ⟨.ref C, none, .fields vs, #[]⟩) {name : Str} {v : Value} (hn : Looks (model prog w) h (typeLookup (.ref C) name) none) {Q : Unit → Shared → Prop}
    (hq : ∀ h' tk, (∀ b o, @Ne Nat b e → s.heap.get? b = some o → h'.get? b = some o) → h'.get? e = some ⟨.ref C, some s.heap.objs.size, .fields vs, #[]⟩ → (∃ t, h'.get? s.heap.objs.size = some (dictOf [⟨PyData.keyHash w.params name, .str name t, v⟩] 1)) → Q () { s with heap := h', toks := tk }) :
    wpAny (model prog w) A (setAttr (.ref e) name v) Q E s := by
  refine x12 L.data fun cd lc hcd => ?_
  refine exc_open L k he hn ?_
  refine wpAny_bind (wpAny_pure ?_)
  show wpAny _ _ (instanceDict e true >>= _) _ _ _
  refine wpAny_bind ?_
  skip
  refine wpAny_bind (wpAny_loadPart (s := { s with toks := s.toks + 1 }) he ?_)
  refine wpAny_bind ((lc.keeps k).here (s := { s with toks := s.toks + 1 }) ?_)
  rw [hcd]
  have hne : @Ne Nat s.heap.objs.size e := Nat.ne_of_gt (Heap.lt_size he)
  have he1 : (s.heap.push (dictOf [] 0)).get? e = some ⟨.ref C, none, .fields vs, #[]⟩ := Heap.get?_push_of_some _ he
  refine wpAny_bind (wpAny_alloc ?_)
  refine wpAny_bind (wpAny_update he1 ?_)
  refine wpAny_pure (a := some s.heap.objs.size) ?_
  have he2 : ((s.heap.push (dictOf [] 0)).update e fun o => { o with dict := some s.heap.objs.size }).get? e = some ⟨.ref C, some s.heap.objs.size, .fields vs, #[]⟩ := Heap.get?_update_self _ he1 rfl
  have D : ((s.heap.push (dictOf [] 0)).update e fun o => { o with dict := some s.heap.objs.size }).get? s.heap.objs.size = some (dictOf [] 0) := (Heap.get?_update_other _ _ (Ne.symm hne)).trans (Heap.get?_push_size _ rfl)
  refine store_in (s := { s with heap := (s.heap.push (dictOf [] 0)).update e fun o => { o with dict := some s.heap.objs.size }, toks := s.toks + 1 }) D rfl (Nat.zero_le _) fun h' k' d' => ?_
  refine hq h' _ (fun b o hb g => ?_) (k' _ _ (Ne.symm hne) he2) ⟨_, d'⟩
  refine k' _ _ (Nat.ne_of_lt (Heap.lt_size g)) ?_
  exact (Heap.get?_update_other _ _ (Ne.symm hb)).trans (Heap.get?_push_of_some _ g)
end
end Mine
end
section
open PySem PySem.W PyProof.Rows PySem.Calls
set_option tactic.hygienic false
set_option maxRecDepth 100000
namespace Mine
open Builtin Builtin.ObjectAttr
noncomputable abbrev ceSt : Stmt := (getAt 0 (bodyOf (stAt 30))).getD (.Pass ⟨0, 0, 0, 0⟩)
noncomputable abbrev ceFd : FuncData := fdOf ceSt (Str.ofString "ChanError.__init__") (.ref 155) (.none) (.none) (.str (Str.ofString "chancore.errors") 367) none (.ref 161) (.none)
noncomputable def ceSc : Stmt → Scope
  | .FunctionDef _ _ _ _ _ _ sc _ _ _ => sc
  | _ => ⟨.function, [], false, false, []⟩
noncomputable def cePs : Stmt → Arguments
  | .FunctionDef _ args _ _ _ _ _ _ _ _ => args
  | _ => ⟨[], [], none, [], [], none, []⟩
noncomputable def ceBody : List Stmt := [
  .Expr (.Call (.Attribute (.Name "Exception" ⟨112, 8, 112, 17⟩) "__init__" ⟨112, 8, 112, 26⟩) [.Name "self" ⟨112, 27, 112, 31⟩, .Name "message" ⟨112, 33, 112, 40⟩] [] ⟨112, 8, 112, 41⟩) ⟨112, 8, 112, 41⟩,
  .Assign [.Attribute (.Name "self" ⟨113, 8, 113, 12⟩) "message" ⟨113, 8, 113, 20⟩] (.Name "message" ⟨113, 23, 113, 30⟩) ⟨113, 8, 113, 30⟩,
  .Assign [.Attribute (.Name "self" ⟨114, 8, 114, 12⟩) "spot" ⟨114, 8, 114, 17⟩] (.Name "spot" ⟨114, 20, 114, 24⟩) ⟨114, 8, 114, 24⟩]
theorem ce_fd : ceFd = fnX "__init__" (Str.ofString "ChanError.__init__") (cePs ceSt) ceBody (ceSc ceSt) [] (.ref 155) .none .none (.str (Str.ofString "chancore.errors") 367) none (.ref 161) .none := by kernel_rfl
theorem ce_lk (P : Params) : (kn P).lookup 162 = some ⟨.type "function", none, .func ceFd, #[]⟩ := by kernel_rfl
theorem ce_cd (P : Params) : codeIn (kn P) (.ref 161) (Str.ofString "ChanError.__init__") = true := by kernel_rfl
theorem ce_bd (P : Params) (S : Setting) (x0 x1 x2 : Value) : peek (kn P) S (PySem.bindArgs ceFd ⟨[x0, x1, x2], []⟩) = some ([(("self" : Str), x0), (("message" : Str), x1), (("spot" : Str), x2)] : List (Str × Value)) := by kernel_rfl
theorem ce_kind : (ceSc ceSt).kind = .function := by kernel_rfl
theorem ce_co : (ceSc ceSt).isCoroutine = false := by kernel_rfl
theorem ce_gen : (ceSc ceSt).isGenerator = false := by kernel_rfl
theorem ce_n1 : (ceSc ceSt).names.lookup ("self" : Str) = some .local := by kernel_rfl
theorem ce_n2 : (ceSc ceSt).names.lookup ("message" : Str) = some .local := by kernel_rfl
theorem ce_n3 : (ceSc ceSt).names.lookup ("spot" : Str) = some .local := by kernel_rfl
theorem ce_n4 : (ceSc ceSt).names.lookup ("Exception" : Str) = some .globalImplicit := by kernel_rfl
noncomputable def noCellB : List (Str × NameKind) → Bool
  | [] => true
  | (_, .cell) :: _ => false
  | _ :: r => noCellB r
theorem noCellB_ok : ∀ {l : List (Str × NameKind)}, noCellB l = true → ∀ x ∈ l, x.2 ≠ .cell
  | [], _, _, hm => nomatch hm
  | (y, k) :: r, h, x, hm => by
    rcases List.mem_cons.mp hm with rfl | hm
    · intro e
      have e : k = .cell := e
      subst e
      exact tf h
    · exact noCellB_ok (l := r) (by cases k <;> first | exact h | exact tf h) x hm
theorem ce_nc : noCellB (ceSc ceSt).names = true := by kernel_rfl
theorem ce_ex (P : Params) : nsIn (kn P) mainGlobals "Exception" = some none := by kernel_rfl
theorem ce_bt : bootBuiltins "Exception" = some (.type "Exception") := by kernel_rfl
theorem ce_in (P : Params) : findCls (kn P) (.type "Exception") (.type "type") "__init__" = some (.val (.builtin "Exception.__init__")) := by kernel_rfl
theorem ce_ty : typeOf (.type "Exception") = pure (.type "type") := by kernel_rfl
theorem ce_hd : handedIn (.builtin "Exception.__init__") = true := by kernel_rfl
theorem ce_st : Manifest.isStub "Exception" = false := by decide +kernel
theorem ns_at {h h' : Heap} {L : Addr} {m : Str → Option Value} (x : h.Ns L m) (k : ∀ o, h.get? L = some o → h'.get? L = some o) : h'.Ns L m := x32 x fun o es ep e r => ⟨o, es, ep, k o e, r⟩
theorem inter_no {env : Env} (h : env.scope.kind = .function) : interactive env = false := by unfold interactive; rw [h]; rfl
section
variable {W : Wk} {A : Around} {R : Result → Shared → Prop} {s : Shared} {h : Heap} {C e : Addr} {vs : Array Value} {p : Program} {loose : List Str} {mg mb : Str → Option Value} {P : Params}
theorem exc_init (Ex : ExcL (model W.prog W.w) h C 162) (X : (kn P).In h) (T : TopRead p loose mg mb h) (room : A.depth < recursionLimit) (k : ∀ b o, h.get? b = some o → s.heap.get? b = some o) (hsz : h.objs.size ≤ s.heap.objs.size)
    (hn : h.get? e = none) (he : s.heap.get? e = some ⟨.ref C, none, .fields vs, #[]⟩) (h0 : 0 < vs.size) {m sp : Value}
    (hq : ∀ h' tk dx es n vs', (∀ b o, @Ne Nat b e → s.heap.get? b = some o → h'.get? b = some o) → h'.get? e = some ⟨.ref C, some dx, .fields vs', #[]⟩ → vs'[1]? = vs[1]? → h'.get? dx = some (dictOf es n) → @LT.lt Nat _ s.heap.objs.size dx → getL (Str.ofString "spot") es = some (some sp) →
      R (.ok (.ret .none)) { s with heap := h', toks := tk }) :
    codeAny (model W.prog W.w) A (.call (.ref 162) ⟨[.ref e, m, sp], []⟩) R s := by
  have X' : (kn P).In s.heap := X.keeps k
  have hfd := ce_fd
  refine codeAny_call_def (fd := ceFd) (body := ceBody) (binds := [(("self" : Str), .ref e), (("message" : Str), m), (("spot" : Str), sp)]) room (X' _ _ (ce_lk P)) rfl (T.nolimit.keeps k) (codeRec_of X' (by rw [hfd]; exact ce_cd P)) (by rw [hfd]) (kp_binds X' fun S => ce_bd P S _ _ _) (by rw [hfd]; exact noCellB_ok ce_nc) ?_ ?_ (by rw [hfd]; exact ce_co) (by rw [hfd]; exact ce_gen) (by rw [hfd]; exact ce_kind)
  · intro x hx
    rw [hfd]
    simp only [List.mem_cons, List.not_mem_nil, or_false] at hx
    rcases hx with rfl | rfl | rfl
    · exact ce_n1
    · exact ce_n2
    · exact ce_n3
  intro h₁ hns k1
  have henv : callEnv ceFd s.heap.objs.size 162 = envX (Str.ofString "ChanError.__init__") (ceSc ceSt) s.heap.objs.size 162 (.ref 161) [] := by rw [hfd]; rfl
  rw [henv]
  have hL : ∀ b o, h.get? b = some o → @Ne Nat b s.heap.objs.size := fun b o g => Nat.ne_of_lt (Heap.lt_size (k b o g))
  have F1 : Fr h s.heap.objs.size h₁ (fun x => ([(("self" : Str), (.ref e : Value)), (("message" : Str), m), (("spot" : Str), sp)] : List (Str × Value)).reverse.lookup x) := ⟨hns, fun b o g => k1 b o (k b o g), hsz⟩
  have he1 := k1 _ _ he
  have heL : @Ne Nat e s.heap.objs.size := Nat.ne_of_lt (Heap.lt_size he)
  skip
  refine wpAny_execs_cons ?_
  refine wpAny_Expr_any ?_ (inter_no ce_kind) (notComp_swaps (by rfl) _ _)
  · refine meth_node (W := W) (by rfl) (by rfl) (by rfl) ?_
    refine nameX_B F1 X T (ce_ex P) ce_bt (by decide) ?_ ce_kind ce_n4
    intro pl
    refine method_type (T := "Exception") (v := .builtin "Exception.__init__") F1 X ce_ty ?h1 (ce_in P) ce_hd ?_
    case h1 => exact ce_st
    refine callWith_any (k := 28) (Pr := fun _ => True) (by rfl) (fun _ _ => kept_builtin) ?_
    refine args_cons (nameX_L F1 rfl ?_ ce_kind ce_n1) rfl
    refine args_cons (nameX_L F1 rfl ?_ ce_kind ce_n2) rfl
    refine args_nil ⟨trivial, ?_⟩
    refine super_init (s := { s with heap := h₁, toks := _ }) Ex F1.keep he1 h0 fun h2 k2 he2 => ?_
    have ne_h : ∀ b o, h.get? b = some o → @Ne Nat b e := fun b o g q => by subst q; rw [hn] at g; exact ns g
    have F2 : Fr h s.heap.objs.size h2 _ := ⟨ns_at hns fun o g => k2 _ o (Ne.symm heL) g, fun b o g => k2 b o (ne_h b o g) (F1.keep b o g), hsz⟩
    refine wpAny_execs_cons (plainObj_wpAny_Assign_Attribute (nameX_L F2 rfl (nameX_L F2 rfl ?_ ce_kind ce_n1) ce_kind ce_n2) (by rfl))
    refine exc_set0 Ex F2.keep he2 Ex.nAttr fun h3 tk3 k3 he3 ⟨t3, D3⟩ => ?_
    have F3 : Fr h s.heap.objs.size h3 _ := ⟨ns_at F2.ns fun o g => k3 _ o (Ne.symm heL) g, fun b o g => k3 b o (ne_h b o g) (F2.keep b o g), hsz⟩
    refine wpAny_execs_cons (plainObj_wpAny_Assign_Attribute (nameX_L F3 rfl (nameX_L F3 rfl ?_ ce_kind ce_n1) ce_kind ce_n3) (by rfl))
    refine exc_set1 Ex F3.keep he3 D3 Ex.nSpot (by rfl) (by show 1 ≤ 900; decide) fun h4 tk4 k4 ⟨t4, D4⟩ => ?_
    refine wpAny_execs_nil ?_
    have hdx : @LT.lt Nat _ s.heap.objs.size h2.objs.size := F2.ns.lt
    refine hq h4 tk4 _ _ _ _ (fun b o hb g => k4 b o ?_ (k3 b o hb (k2 b o hb (k1 b o g)))) (k4 _ _ ?_ he3) ?_ D4 hdx rfl
    · exact Nat.ne_of_lt (Nat.lt_trans (Heap.lt_size g) hdx)
    · exact Nat.ne_of_lt (Nat.lt_trans (Heap.lt_size he) hdx)
    · exact Array.getElem?_setIfInBounds_ne (by decide)
end
end Mine
end
section
open PySem PySem.W PyProof.Rows PySem.Calls
set_option tactic.hygienic false
namespace Mine
structure ExcT (M : Model) (h : Heap) (C : Addr) : Prop where
  mt : Looks M h (typeOf (.ref C)) (.type "type")
  base : Looks M h (isSubtype (.ref C) (.type "BaseException")) true
theorem tc_weight (a : Addr) (args : List Value) : (Code.builtin "type.__call__" ⟨.ref a :: args, []⟩).weight = 1 := rfl
section
variable {W : Wk} {c : Cx} {σ : St} {γ : G} {A : Around} {s : Shared} {h : Heap} {C e : Addr} {oe : Obj} {vs : Array Value}
theorem exc_tail {M : Model} (T : ExcT M h C) (k : ∀ b o, h.get? b = some o → s.heap.get? b = some o) (hh : A.handled = none) (he : s.heap.get? e = some oe) (hc : oe.cls = .ref C) (hd : oe.data = .fields vs) (h1 : vs[1]? = some .none) {env : Env} {Q : Flow → Shared → Prop} {E : Value → Shared → Prop} (hE : E (.ref e) s) :
    wpAny M A (raiseStmt env (some (pure (.ref e))) none) Q E s := by
  have hm : Looks M s.heap (typeOf (.ref e)) oe.cls := (Looks.ld he).andThen .now
  have t1 : Looks M s.heap (typeOf (.ref e)) (.ref C) := hc ▸ hm
  have iB : Looks M s.heap (isInstance (.ref e) (.type "BaseException")) true := t1.andThen (T.base.keeps k)
  have ty : ∀ {A : Around} {Q : Bool → Shared → Prop} {E : Value → Shared → Prop}, Q false s → wpAny M A (isType (.ref e)) Q E s := fun {A Q E} q => by
    skip
    refine wpAny_bind (wpAny_loadPart_at he ?_)
    rw [hd]
    exact wpAny_pure q
  skip
  refine wpAny_bind (wpAny_pure (wpAny_bind (wpAny_pure ?_)))
  refine wpAny_bind (wpAny_holding ?_)
  skip
  refine wpAny_bind (wpAny_bind (ty ?_))
  refine wpAny_pure ?_
  refine wpAny_bind (iB.here ?_)
  refine wpAny_pure ?_
  refine wpAny_bind (ty ?_)
  skip
  refine wpAny_bind (wpAny_bind (t1.here ?_))
  refine wpAny_bind ((T.mt.keeps k).here ?_)
  refine wpAny_pure ?_
  skip
  refine wpAny_bind (wpAny_bind (wpAny_field (i := 1) (x := Value.none) he hd h1 ?_))
  rw [if_neg (by decide)]
  refine wpAny_pure ?_
  exact wpAny_raiseNew_none hh hE
theorem excOK_of {a : Addr} {P : Params} {W : Wk} (hK : W.K = kn P) (hp : keepIn W.K (.ref a) = true) (L : ∀ h, W.K.In h → ExcL (model W.prog W.w) h a 162) (T : ∀ h, W.K.In h → ExcT (model W.prog W.w) h a) : ExcOK W a := by
  refine ⟨hp, fun c σ γ s m' v v' hG hR hS hv Q E hq => ?_, fun c σ γ s v e env hG hT Q E hE => ?_⟩
  · refine x12 (hS.fr) fun m F Ev => ?_
    have X := hS.K hG
    refine wpAny_call (exc_make (L s.heap X) ?_)
    have hX : (kn P).In c.h₀ := hK ▸ hG.X
    refine exc_init (W := W) (h := c.h₀) (s := ⟨(s.heap.push (tupO [m', v'] 0)).push (excObj a s.heap.objs.size), s.gens, s.drawn, s.toks, s.os⟩) (L c.h₀ hG.X) hX (topRead_of hG.T) ?_ (fun b o g => Heap.get?_push_of_some _ (Heap.get?_push_of_some _ (F.keep b o g))) ?_ ?_ (vs := #[.ref s.heap.objs.size, .none, .none, .none, .bool false, .none]) (he := ?_) ?_ ?_
    · have := hR.d; show c.dp + (Code.builtin "type.__call__" _).weight < recursionLimit; rw [tc_weight]; exact lo4 (by assumption) (by decide)
    · show c.h₀.objs.size ≤ ((s.heap.push _).push _).objs.size
      rw [Heap.size_push, Heap.size_push]
      exact Nat.le_trans F.above (Nat.le_trans (Nat.le_of_lt F.ns.lt) (Nat.le_add_right _ 2))
    · cases q : c.h₀.get? (s.heap.objs.size + 1) with
      | none => rfl
      | some o => exact absurd (Heap.lt_size (F.keep _ _ q)) (Nat.not_lt.mpr (Nat.le_succ _))
    · heap_get
    · show 0 < 6; decide
    · intro h' tk dx es n vs' kk he' h1 hdx hlt hsp
      refine And.intro rfl ?_
      have hlt' : @LT.lt Nat _ (s.heap.objs.size + 2) dx := by
        have : ((s.heap.push (tupO [m', v'] 0)).push (excObj a s.heap.objs.size)).objs.size = s.heap.objs.size + 2 := by rw [Heap.size_push, Heap.size_push]
        rw [this] at hlt; exact hlt
      obtain ⟨S2, ap⟩ := SR.gain (its := [(s.heap.objs.size + 1, ⟨.ref a, some dx, .fields vs', #[]⟩), (dx, dictOf es n)]) (h' := h') (tk := tk) hS
        (fun b o g => kk b o (Nat.ne_of_lt (Nat.lt_succ_of_lt (Heap.lt_size g))) (Heap.get?_push_of_some _ (Heap.get?_push_of_some _ g)))
        (fun p hp => by
          simp only [List.mem_cons, List.not_mem_nil, or_false] at hp
          rcases hp with rfl | rfl
          · exact ⟨he', Nat.le_succ _⟩
          · exact ⟨hdx, Nat.le_of_lt (Nat.lt_of_le_of_lt (Nat.le_add_right _ 2) hlt')⟩)
      refine hq _ _ ⟨_, _, vs', dx, es, n, v', rfl, rfl, rfl, rfl, hsp, hv, ?_, h1, S2, ap⟩
      exact Nat.ne_of_lt (Nat.lt_of_succ_lt hlt')
  · refine y7_10 hT fun ea oe vs dx es n v' er7 hc hdt hd hsp hv hne h1 S2 ap => ?_; subst er7
    refine x12 (S2.fr) fun m F Ev => ?_
    exact exc_tail (T c.h₀ hG.X) F.keep rfl (S2.itGet (.head _)).1 hc hd h1 (hE _ ⟨_, ⟨ea, oe, vs, dx, es, n, v', rfl, hc, hdt, hd, hsp, hv, hne, .inl ⟨h1, rfl⟩⟩, S2, ap⟩)
end
end Mine
end
section
open PySem PySem.W PyProof.Rows PySem.Calls
set_option tactic.hygienic false
set_option maxRecDepth 100000
namespace Mine
section
variable {M : Model} {P : Params} {h : Heap}
theorem data_of {K : Frag} {a : Addr} (X : K.In h) (e : (match peek K ⟨M.prog, M.w.params⟩ (classData a) with | some cd => cd.hasDict | none => false) = true) : ∃ cd, Looks M h (classData a) cd ∧ cd.hasDict = true := by
  refine oc (o := peek K ⟨M.prog, M.w.params⟩ (classData a)) (fun q => ?_) fun cd q => ?_
  · rw [q] at e; exact tf e
  · rw [q] at e; exact ⟨cd, .of_peek X q, e⟩
theorem exL178 (X : (kn P).In h) : ExcL M h 178 162 where
  call m sp := .of_peek X (by kernel_rfl)
  check m sp := .of_peek X (by kernel_rfl)
  mro := ⟨.ref 178, [.ref 165, .type "Exception", .type "BaseException", .type "object"], .of_peek X (by kernel_rfl)⟩
  made := .of_peek X (by kernel_rfl)
  ncheck m sp := .of_peek X (by kernel_rfl)
  ty := .of_peek X (by kernel_rfl)
  sub := .of_peek X (by kernel_rfl)
  noA := .of_peek X (by kernel_rfl)
  noN := .of_peek X (by kernel_rfl)
  here := .of_peek X (by kernel_rfl)
  self := .of_peek X (by kernel_rfl)
  init := .of_peek X (by kernel_rfl)
  bind v := bind_fn X v (by kernel_rfl)
  noDel := .of_peek X (by kernel_rfl)
  sattr := .of_peek X (by kernel_rfl)
  top := .of_peek X (by kernel_rfl)
  refuse := ⟨[.ref 178, .ref 165, .type "Exception", .type "BaseException", .type "object"], .of_peek X (by kernel_rfl), fun v => .of_peek X (by kernel_rfl)⟩
  nAttr := .of_peek X (by kernel_rfl)
  nSpot := .of_peek X (by kernel_rfl)
  data := data_of X (by kernel_rfl)
theorem exT178 (X : (kn P).In h) : ExcT M h 178 where
  mt := .of_peek X (by kernel_rfl)
  base := .of_peek X (by kernel_rfl)
theorem exK178 (P : Params) : keepIn (kn P) (.ref 178) = true := by kernel_rfl
theorem exL190 (X : (kn P).In h) : ExcL M h 190 162 where
  call m sp := .of_peek X (by kernel_rfl)
  check m sp := .of_peek X (by kernel_rfl)
  mro := ⟨.ref 190, [.ref 165, .type "Exception", .type "BaseException", .type "object"], .of_peek X (by kernel_rfl)⟩
  made := .of_peek X (by kernel_rfl)
  ncheck m sp := .of_peek X (by kernel_rfl)
  ty := .of_peek X (by kernel_rfl)
  sub := .of_peek X (by kernel_rfl)
  noA := .of_peek X (by kernel_rfl)
  noN := .of_peek X (by kernel_rfl)
  here := .of_peek X (by kernel_rfl)
  self := .of_peek X (by kernel_rfl)
  init := .of_peek X (by kernel_rfl)
  bind v := bind_fn X v (by kernel_rfl)
  noDel := .of_peek X (by kernel_rfl)
  sattr := .of_peek X (by kernel_rfl)
  top := .of_peek X (by kernel_rfl)
  refuse := ⟨[.ref 190, .ref 165, .type "Exception", .type "BaseException", .type "object"], .of_peek X (by kernel_rfl), fun v => .of_peek X (by kernel_rfl)⟩
  nAttr := .of_peek X (by kernel_rfl)
  nSpot := .of_peek X (by kernel_rfl)
  data := data_of X (by kernel_rfl)
theorem exT190 (X : (kn P).In h) : ExcT M h 190 where
  mt := .of_peek X (by kernel_rfl)
  base := .of_peek X (by kernel_rfl)
theorem exK190 (P : Params) : keepIn (kn P) (.ref 190) = true := by kernel_rfl
theorem exL202 (X : (kn P).In h) : ExcL M h 202 162 where
  call m sp := .of_peek X (by kernel_rfl)
  check m sp := .of_peek X (by kernel_rfl)
  mro := ⟨.ref 202, [.ref 165, .type "Exception", .type "BaseException", .type "object"], .of_peek X (by kernel_rfl)⟩
  made := .of_peek X (by kernel_rfl)
  ncheck m sp := .of_peek X (by kernel_rfl)
  ty := .of_peek X (by kernel_rfl)
  sub := .of_peek X (by kernel_rfl)
  noA := .of_peek X (by kernel_rfl)
  noN := .of_peek X (by kernel_rfl)
  here := .of_peek X (by kernel_rfl)
  self := .of_peek X (by kernel_rfl)
  init := .of_peek X (by kernel_rfl)
  bind v := bind_fn X v (by kernel_rfl)
  noDel := .of_peek X (by kernel_rfl)
  sattr := .of_peek X (by kernel_rfl)
  top := .of_peek X (by kernel_rfl)
  refuse := ⟨[.ref 202, .ref 165, .type "Exception", .type "BaseException", .type "object"], .of_peek X (by kernel_rfl), fun v => .of_peek X (by kernel_rfl)⟩
  nAttr := .of_peek X (by kernel_rfl)
  nSpot := .of_peek X (by kernel_rfl)
  data := data_of X (by kernel_rfl)
theorem exT202 (X : (kn P).In h) : ExcT M h 202 where
  mt := .of_peek X (by kernel_rfl)
  base := .of_peek X (by kernel_rfl)
theorem exK202 (P : Params) : keepIn (kn P) (.ref 202) = true := by kernel_rfl
theorem exL214 (X : (kn P).In h) : ExcL M h 214 162 where
  call m sp := .of_peek X (by kernel_rfl)
  check m sp := .of_peek X (by kernel_rfl)
  mro := ⟨.ref 214, [.ref 165, .type "Exception", .type "BaseException", .type "object"], .of_peek X (by kernel_rfl)⟩
  made := .of_peek X (by kernel_rfl)
  ncheck m sp := .of_peek X (by kernel_rfl)
  ty := .of_peek X (by kernel_rfl)
  sub := .of_peek X (by kernel_rfl)
  noA := .of_peek X (by kernel_rfl)
  noN := .of_peek X (by kernel_rfl)
  here := .of_peek X (by kernel_rfl)
  self := .of_peek X (by kernel_rfl)
  init := .of_peek X (by kernel_rfl)
  bind v := bind_fn X v (by kernel_rfl)
  noDel := .of_peek X (by kernel_rfl)
  sattr := .of_peek X (by kernel_rfl)
  top := .of_peek X (by kernel_rfl)
  refuse := ⟨[.ref 214, .ref 165, .type "Exception", .type "BaseException", .type "object"], .of_peek X (by kernel_rfl), fun v => .of_peek X (by kernel_rfl)⟩
  nAttr := .of_peek X (by kernel_rfl)
  nSpot := .of_peek X (by kernel_rfl)
  data := data_of X (by kernel_rfl)
theorem exT214 (X : (kn P).In h) : ExcT M h 214 where
  mt := .of_peek X (by kernel_rfl)
  base := .of_peek X (by kernel_rfl)
theorem exK214 (P : Params) : keepIn (kn P) (.ref 214) = true := by kernel_rfl
theorem raise_ok {W : Wk} {P : Params} {C : Cfg} (hK : W.K = kn P) (hC : C.excs = excsT) : RaiseOK W C := by
  intro a nm h
  rw [hC] at h
  have key : ∀ (l : List (Nat × Str)), (∀ p ∈ l, ExcOK W p.1) → lkN a l = some nm → ExcOK W a := by
    intro l
    induction l with
    | nil => intro _ e; exact ns e
    | cons p r ih =>
      intro hp e
      obtain ⟨i, q⟩ := p
      rw [lkN_cons] at e
      by_cases g : a = i
      · subst g; exact hp _ (.head _)
      · rw [if_neg g] at e; exact ih (fun p hq => hp p (.tail _ hq)) e
  refine key excsT (fun p hp => ?_) h
  simp only [excsT, List.mem_cons, List.not_mem_nil, or_false] at hp
  rcases hp with rfl | rfl | rfl | rfl
  · exact excOK_of hK (by rw [hK]; exact exK178 P) (fun h X => exL178 (hK ▸ X)) fun h X => exT178 (hK ▸ X)
  · exact excOK_of hK (by rw [hK]; exact exK202 P) (fun h X => exL202 (hK ▸ X)) fun h X => exT202 (hK ▸ X)
  · exact excOK_of hK (by rw [hK]; exact exK214 P) (fun h X => exL214 (hK ▸ X)) fun h X => exT214 (hK ▸ X)
  · exact excOK_of hK (by rw [hK]; exact exK190 P) (fun h X => exL190 (hK ▸ X)) fun h X => exT190 (hK ▸ X)
end
end Mine
end
section
open PySem PySem.W PyProof.Rows PySem.Calls
set_option tactic.hygienic false
namespace Mine
section
variable {W : Wk} {A : Around} {s : Shared} {K : Frag} {C x : Addr} {ox od : Obj} {name : Str} {v : Value} {expr : Bool} {Q : Value → Shared → Prop} {E : Value → Shared → Prop}
theorem bga_entry : entryFor table "BaseException.__getattribute__" = some Builtin.«object.__getattribute__» := PySem.F.entry_bexc_ga
theorem exc_get {prog : Program} {w : World} (X : K.In s.heap) (I : InstAt s.heap x ox C (some od)) (hga : findIn K (.ref C) "__getattribute__" = some (some (.builtin "BaseException.__getattribute__"))) (hgt : findIn K (.ref C) "__getattr__" = some none)
    (hb : Looks (model prog w) s.heap (isSubtype (.ref C) (.type "BaseException")) true) (hf : findObj K C (some od) name = some (.value v)) (hh : handedIn v = true) (h : Q v { s with toks := s.toks + 1 }) :
    wpAny (model prog w) A (getAttr (.ref x) name expr) Q E s := by
  have FX := PySem.F.attr_Exception
  have L0 := I.type (M := model prog w)
  have L1 := looks_find (M := model prog w) X I hf
  have L2 := looks_findIn (M := model prog w) X hga
  have L3 := looks_findIn (M := model prog w) X hgt
  have hi : Looks (model prog w) s.heap (isInstance (.ref x) (.type "BaseException")) true := L0.andThen hb
  have hx2 : (Value.builtin "BaseException.__getattribute__" == Value.builtin "object.__getattribute__") = false := by decide +kernel
  have hx1 : (onTheHeap (Value.ref C) && Value.builtin "BaseException.__getattribute__" == Value.builtin "object.__getattribute__") = false := by rw [hx2]; rfl
  have hx0 : (expr && onTheHeap (Value.builtin "BaseException.__getattribute__")) = false := by cases expr <;> rfl
  skip
  refine wpAny_bind (wpAny_mkText ?_)
  skip
  refine wpAny_holding ?_
  refine wpAny_bind (L0.here (s := { s with toks := s.toks + 1 }) (wpAny_bind (L2.here (s := { s with toks := s.toks + 1 }) ?_)))
  show wpAny _ _ (if (onTheHeap (Value.ref C) && Value.builtin "BaseException.__getattribute__" == Value.builtin "object.__getattribute__") = true then _ else _) _ _ _
  rw [hx1, if_neg (by decide)]
  skip
  refine wpAny_bind (L3.here (s := { s with toks := s.toks + 1 }) ?_)
  refine wpAny_bind (wpAny_attempt (wpAny_holding ?_))
  unfold callGetattribute
  rw [hx0, if_neg (by decide)]
  unfold boundAndCalled
  rw [FX.ga.bind]
  refine wpAny_bind (wpAny_pure (wpAny_call (codeAny_mono (R := fun r s' => r = .ok (.ret v) ∧ s' = { s with toks := s.toks + 1 }) ?_ fun r s' z => ?_)))
  · refine codeAny_call_builtin FX.ga.plain bga_entry ?_
    have hk : builtinKind "BaseException.__getattribute__" = some .slot := by decide +kernel
    have hsplit : splitId "BaseException.__getattribute__" = some ("BaseException", "__getattribute__") := by decide +kernel
    have ha := PySem.F.args_bexc_ga (.ref x) (.str name s.toks)
    refine @check_slot (model prog w) _ _ { s with toks := s.toks + 1 } "BaseException.__getattribute__" "BaseException" "__getattribute__" (.ref x) [.str name s.toks] [] _ hk hsplit hi ha ?_
    skip
    refine wpAny_bind (wpAny_pure (wpAny_bind (wpAny_pure ?_)))
    refine wpAny_bind (L0.here (s := { s with toks := s.toks + 1 }) (wpAny_bind (L1.here (s := { s with toks := s.toks + 1 }) ?_)))
    exact wpAny_pure ⟨rfl, rfl⟩
  · obtain ⟨rfl, rfl⟩ := z
    show wpAny _ _ (handedOut v) _ _ _
    rw [handedOut_of hh]
    exact wpAny_pure h
end
end Mine
end
section
open PySem PySem.W PyProof.Rows PySem.Calls
set_option tactic.hygienic false
namespace Mine
structure CatchL (M : Model) (h : Heap) (cc x : Addr) (b : Bool) : Prop where
  tup : Looks M h (isInstance (.ref x) (.type "tuple")) false
  exc : Looks M h (isExcClass (.ref x)) true
  sub : Looks M h (isSubtype (.ref cc) (.ref x)) b
theorem exc_matches {M : Model} {A : Around} {s : Shared} {Q : Bool → Shared → Prop} {E : Value → Shared → Prop} {h : Heap} {cc x e : Addr} {b : Bool} {oe : Obj} (L : CatchL M h cc x b) (k : ∀ b o, h.get? b = some o → s.heap.get? b = some o) (he : s.heap.get? e = some oe) (hc : oe.cls = .ref cc) (q : Q b s) :
    wpAny M A (excMatches (.ref e) (.ref x)) Q E s := by
  have hm : Looks M s.heap (typeOf (.ref e)) oe.cls := (Looks.ld he).andThen .now
  have t1 : Looks M s.heap (typeOf (.ref e)) (.ref cc) := hc ▸ hm
  have l1 := L.tup.keeps k
  have l2 := L.exc.keeps k
  have l3 := L.sub.keeps k
  skip
  refine wpAny_bind (l1.here ?_)
  refine wpAny_bind (wpAny_pure ?_)
  skip
  refine wpAny_bind (wpAny_bind (wpAny_bind (l2.here ?_)))
  refine wpAny_pure (wpAny_pure ?_)
  refine wpAny_bind (t1.here ?_)
  refine wpAny_bind (wpAny_bind (wpAny_bind (l3.here ?_)))
  cases b
  · exact wpAny_pure (wpAny_pure (wpAny_pure q))
  · exact wpAny_pure (wpAny_pure (wpAny_pure q))
section
variable {W : Wk} {c : Cx} {σ : St} {γ : G} {s : Shared} {E : Value → Shared → Prop}
theorem SR.other {m' : Str → Option Value} {h' : Heap} {tk : Nat} (S : W.SR c σ γ s) (hm : c.mf = none) (he : σ.env = []) (hn : h'.Ns c.L m') (hs : Heap.SameBut c.L s.heap h') : W.SR c σ γ { s with heap := h', toks := tk } := by
  refine x12 (S.fr) fun m F Ev => ?_
  refine x14 (S.nw) fun H hH N nd ap => ?_
  exact S.grown (m := m') ⟨(fun x v e => by rw [he] at e; exact ns e), (fun mf e => by rw [hm] at e; exact ns e)⟩ hH nd ap (F.set hn hs) (N.set hs)
noncomputable def trHandler (nm word : Str) (p1 p2 p3 p4 p5 p6 p7 : Pos) : ExceptHandler := .ExceptHandler (some (.Name nm p1)) (some "fault") [.Return (some (.Tuple [.Constant (.str word) 0 p2, .Attribute (.Name "fault" p3) "spot" p4] 0 p5)) p6] p7
structure SpotL (W : Wk) (h : Heap) (cc : Addr) : Prop where
  ga : findIn W.K (.ref cc) "__getattribute__" = some (some (.builtin "BaseException.__getattribute__"))
  gt : findIn W.K (.ref cc) "__getattr__" = some none
  hd : hasDictIn W.K cc = true
  sp : findIn W.K (.ref cc) "spot" = some none
  ng : noGet W.K none = true
  base : Looks (model W.prog W.w) h (isSubtype (.ref cc) (.type "BaseException")) true
theorem handler_ok {cc x : Addr} {b : Bool} {v : SV} {nm word : Str} {p1 p2 p3 p4 p5 p6 p7 : Pos} {rest : List ExceptHandler} {e : Value} {Q : Flow → Shared → Prop} (hk : c.cs.kind = .function) (hm : c.mf = none) (he : σ.env = []) (hG : Good W c)
    (kn1 : c.cs.names.lookup nm = some .globalImplicit) (kn2 : c.cs.names.lookup ("fault" : Str) = some .local) (dbg : (nm == ("__debug__" : Str)) = false) (gx : nsIn W.K mainGlobals nm = some (some (.ref x))) (L : CatchL (model W.prog W.w) c.h₀ cc x b) (D : SpotL W c.h₀ cc)
    (ow : PyData.strOk word = true) (hT : Thrown W c cc v γ σ e s) (k0 : b = false → wpAny (model W.prog W.w) c.A (handleBy e c.env rest) Q E s)
    (k1 : b = true → ∀ a o s', W.SR c σ (γ.tup a o) s' → VR W.K (γ.tup a o) σ.next σ.doms.length (.tup [.str word, v]) (.ref a) → Q (.ret (.ref a)) s') :
    wpAny (model W.prog W.w) c.A (handleBy e c.env (trHandler nm word p1 p2 p3 p4 p5 p6 p7 :: rest)) Q E s := by
  refine hT.opened fun its ea oe _ _ _ _ _ er hc _ _ _ _ _ _ hin _ S _ => ?_; subst er
  refine x12 (S.fr) fun m F Ev => ?_
  have hL : c.env.kindOf ("fault" : Str) = some .local := kn2
  refine wpAny_handleBy_cons (codeAny_handlers_test ?_) (by intro q; exact cd Value.ctorIdx q rfl)
  refine nameX_K F hG.X (topRead_of hG.T) gx ?_ hk kn1 dbg
  refine exc_matches L F.keep (S.itGet hin).1 hc ?_
  cases b with
  | false => exact k0 rfl
  | true =>
  refine codeAny_handlers_suite_as ?_
  refine flight_ok hT fun s1 hT1 => ?_
  refine hT1.opened fun its1 ea1 oe vs dx es k v' q hc hdct hd hg hv _ _ i1 i2 S1 _ => ?_
  cases q
  have hp : (c.env.scope.kind == .class || (c.env.scope.kind == .module && c.env.locals != c.env.globals)) = false := by show (c.cs.kind == .class || (c.cs.kind == .module && _)) = false; rw [hk]; rfl
  refine x12 (S1.fr) fun m1 F1 Ev1 => ?_
  refine wpAny_storeName_local hL F1.ns (fun h2 hn2 hs2 => ?_) hp
  have S2 := SR.other (c := c.more its1) (tk := s1.toks + 1) S1 hm he hn2 hs2
  have F2 := Fr.set F1 hn2 hs2
  refine wpAny_execs_cons (wpAny_Return_some (Tuple_ (args_cons (wpAny_Constant_str ?_) rfl)))
  refine args_cons (attr_node rfl ?_) rfl
  refine nameX_L F2 (if_pos rfl) ?_ hk kn2
  have S3 := S2.toks (s1.toks + 1 + 1)
  have I : InstAt h2 ea oe cc (some (dictOf es k)) := ⟨(S3.itGet i1).1, hc, by unfold notCls; rw [hd], by rw [hdct]; exact (S3.itGet i2).1⟩
  refine exc_get (s := { s1 with heap := h2, toks := _ }) (hG.X.keeps F2.keep) I D.ga D.gt (D.base.keeps F2.keep) (findObj_own D.hd D.sp D.ng (by rw [lookIn_dict]; exact hg)) (handed_VR hv) ?_
  refine args_nil ?_
  have S4 := S2.toks (s1.toks + 1 + 1 + 1)
  refine x12 (S4.fr) fun m4 F4 Ev4 => ?_
  refine x14 (S4.nw) fun H hH N nd ap => ?_
  refine kup_newTuple F4 N (fun _ h' F' N' fresh => ?_) (by show 2 ≤ sizeLine; decide)
  have S5 := S4.tuple (tk := s1.toks + 1 + 1 + 1) (k := 0) Ev4 hH nd ap F' N' fresh
  refine wpAny_nameGoes hL F'.ns hp fun h6 m6 hn6 hs6 => ?_
  refine k1 rfl _ _ _ (SR.less (SR.other (c := c.more its1) S5 hm he hn6 hs6)) (.tup (.inl (.head _)) (.cons (.str _ ow) (.cons (hv.later later_tup) .nil)))
end
end Mine
end
section
open PySem PySem.W PyProof.Rows PySem.Calls
set_option tactic.hygienic false
set_option maxRecDepth 100000
namespace Mine
structure TrRow where
  x : Addr
  nm : Str
  word : Str
  p1 : Pos
  p2 : Pos
  p3 : Pos
  p4 : Pos
  p5 : Pos
  p6 : Pos
  p7 : Pos
noncomputable abbrev TrRow.handler (r : TrRow) : ExceptHandler := trHandler r.nm r.word r.p1 r.p2 r.p3 r.p4 r.p5 r.p6 r.p7
noncomputable def trRows : List TrRow := [
  ⟨178, "NameFault", "name fault", ⟨1357, 11, 1357, 20⟩, ⟨1358, 16, 1358, 28⟩, ⟨1358, 30, 1358, 35⟩, ⟨1358, 30, 1358, 40⟩, ⟨1358, 15, 1358, 41⟩, ⟨1358, 8, 1358, 41⟩, ⟨1357, 4, 1358, 41⟩⟩,
  ⟨202, "ConstFault", "const fault", ⟨1359, 11, 1359, 21⟩, ⟨1360, 16, 1360, 29⟩, ⟨1360, 31, 1360, 36⟩, ⟨1360, 31, 1360, 41⟩, ⟨1360, 15, 1360, 42⟩, ⟨1360, 8, 1360, 42⟩, ⟨1359, 4, 1360, 42⟩⟩,
  ⟨214, "FlowFault", "flow fault", ⟨1361, 11, 1361, 20⟩, ⟨1362, 16, 1362, 28⟩, ⟨1362, 30, 1362, 35⟩, ⟨1362, 30, 1362, 40⟩, ⟨1362, 15, 1362, 41⟩, ⟨1362, 8, 1362, 41⟩, ⟨1361, 4, 1362, 41⟩⟩,
  ⟨190, "TypeFault", "type fault", ⟨1363, 11, 1363, 20⟩, ⟨1364, 16, 1364, 28⟩, ⟨1364, 30, 1364, 35⟩, ⟨1364, 30, 1364, 40⟩, ⟨1364, 15, 1364, 41⟩, ⟨1364, 8, 1364, 41⟩, ⟨1363, 4, 1364, 41⟩⟩]
noncomputable def trBody : List Stmt := [.Try [.Return (some (.Call (.Name "call" ⟨1356, 15, 1356, 19⟩) [] [] ⟨1356, 15, 1356, 21⟩)) ⟨1356, 8, 1356, 21⟩] (trRows.map TrRow.handler) [] [] ⟨1355, 4, 1364, 41⟩]
noncomputable abbrev trFd : FuncData := fdOf (stAt 156) (Str.ofString "_law_tried") (.none) (.none) (.none) (.str (Str.ofString "law_xm0202_01") 2314) none (.ref 1376) (.none)
noncomputable abbrev trSc : Scope := ceSc (stAt 156)
theorem tr_fd : trFd = fnX "_law_tried" (Str.ofString "_law_tried") (cePs (stAt 156)) trBody trSc [] .none .none .none (.str (Str.ofString "law_xm0202_01") 2314) none (.ref 1376) .none := by kernel_rfl
theorem tr_lk (P : Params) : (kn P).lookup 1377 = some ⟨.type "function", none, .func trFd, #[]⟩ := by kernel_rfl
theorem tr_cd (P : Params) : codeIn (kn P) (.ref 1376) (Str.ofString "_law_tried") = true := by kernel_rfl
theorem tr_bd (P : Params) (S : Setting) (x0 : Value) : peek (kn P) S (PySem.bindArgs trFd ⟨[x0], []⟩) = some ([(("call" : Str), x0)] : List (Str × Value)) := by kernel_rfl
theorem tr_kind : trSc.kind = .function := by kernel_rfl
theorem tr_co : trSc.isCoroutine = false := by kernel_rfl
theorem tr_gen : trSc.isGenerator = false := by kernel_rfl
theorem tr_n1 : trSc.names.lookup ("call" : Str) = some .local := by kernel_rfl
theorem tr_n2 : trSc.names.lookup ("fault" : Str) = some .local := by kernel_rfl
theorem tr_nc : noCellB trSc.names = true := by kernel_rfl
theorem tr_kp (P : Params) : keepIn (kn P) (.ref 1377) = true := by kernel_rfl
structure TrOK (K : Frag) (r : TrRow) : Prop where
  n : trSc.names.lookup r.nm = some .globalImplicit
  d : (r.nm == ("__debug__" : Str)) = false
  g : nsIn K mainGlobals r.nm = some (some (.ref r.x))
  w : PyData.strOk r.word = true
theorem tr_rows (P : Params) : ∀ r ∈ trRows, TrOK (kn P) r := by
  intro r hr
  simp only [trRows, List.mem_cons, List.not_mem_nil, or_false] at hr
  rcases hr with rfl | rfl | rfl | rfl
  all_goals exact ⟨by kernel_rfl, by kernel_rfl, by kernel_rfl, by kernel_rfl⟩
section
variable {M : Model} {P : Params} {h : Heap}
theorem catchL {cc x : Addr} (X : (kn P).In h) (h1 : cc ∈ [178, 190, 202, 214]) (h2 : x ∈ [178, 190, 202, 214]) : CatchL M h cc x (Nat.beq cc x) := by
  simp only [List.mem_cons, List.not_mem_nil, or_false] at h1 h2
  rcases h1 with rfl | rfl | rfl | rfl <;> rcases h2 with rfl | rfl | rfl | rfl
  all_goals exact ⟨.of_peek X (by kernel_rfl), .of_peek X (by kernel_rfl), .of_peek X (by kernel_rfl)⟩
theorem spotL {W : Wk} {cc : Addr} (hK : W.K = kn P) (X : (kn P).In h) (h1 : cc ∈ [178, 190, 202, 214]) : SpotL W h cc := by
  simp only [List.mem_cons, List.not_mem_nil, or_false] at h1
  rcases h1 with rfl | rfl | rfl | rfl
  all_goals exact ⟨by rw [hK]; kernel_rfl, by rw [hK]; kernel_rfl, by rw [hK]; kernel_rfl, by rw [hK]; kernel_rfl, by rw [hK]; kernel_rfl, .of_peek X (by kernel_rfl)⟩
end
end Mine
end
section
open PySem PySem.W PyProof.Rows PySem.Calls
set_option tactic.hygienic false
namespace Mine
section
variable {W : Wk} {c : Cx} {σ : St} {γ : G} {s : Shared} {E : Value → Shared → Prop}
theorem chain_ok {cc : Addr} {v : SV} {e : Value} {Q : Flow → Shared → Prop} {word : Str} (hk : c.cs.kind = .function) (hm : c.mf = none) (he : σ.env = []) (hG : Good W c) (hcs : c.cs = trSc) (D : SpotL W c.h₀ cc) (hT : Thrown W c cc v γ σ e s)
    (k1 : ∀ a o s', W.SR c σ (γ.tup a o) s' → VR W.K (γ.tup a o) σ.next σ.doms.length (.tup [.str word, v]) (.ref a) → Q (.ret (.ref a)) s') :
    ∀ rows : List TrRow, (∀ r ∈ rows, TrOK W.K r ∧ CatchL (model W.prog W.w) c.h₀ cc r.x (Nat.beq cc r.x)) → lkN cc (rows.map fun r => (r.x, r.word)) = some word → wpAny (model W.prog W.w) c.A (handleBy e c.env (rows.map TrRow.handler)) Q E s
  | [], _, h => by exact ns h
  | r :: rows, H, h => by
    refine x02 (H r (.head _)) fun T L => ?_
    refine handler_ok hk hm he hG (by rw [hcs]; exact T.n) (by rw [hcs]; exact tr_n2) T.d T.g L D T.w hT (fun hb => ?_) fun hb a o s' S r' => ?_
    · refine chain_ok hk hm he hG hcs D hT k1 rows (fun q hq => H q (.tail _ hq)) ?_
      rw [List.map_cons, lkN_cons, if_neg (fun q => by subst q; rw [Nat.beq_refl] at hb; exact ft hb)] at h
      exact h
    · rw [List.map_cons, lkN_cons, if_pos (Nat.eq_of_beq_eq_true hb)] at h
      have hw : r.word = word := Option.some.inj h
      rw [hw] at r'
      exact k1 a o s' S r'
theorem triedAll_mem {C : Cfg} : ∀ {l o : Out SV}, triedAll C l = some o → (∀ v τ, (.ok v, τ) ∈ l → (.ok v, τ) ∈ o) ∧ ∀ cc v τ, (.ex cc v, τ) ∈ l → ∃ nm, lkN cc C.excs = some nm ∧ (.ok (.tup [.str nm, v]), τ) ∈ o
  | [], o, h => ⟨(fun _ _ h => (nomatch h)), (fun _ _ _ h => (nomatch h))⟩
  | (.ok u, υ) :: r, o, h => by
    refine x12 (om h) fun o1 e1 h1 => ?_
    obtain rfl := ss h1
    refine x02 (triedAll_mem e1) fun a b => ?_
    refine ⟨fun v τ hm => ?_, fun cc v τ hm => ?_⟩
    · refine Or.elim (List.mem_cons.mp hm) (fun q => ?_) fun q => ?_
      · cases q; exact .head _
      · exact .tail _ (a v τ q)
    · rcases List.mem_cons.mp hm with q | q
      · cases q
      · refine x12 (b cc v τ q) fun nm x y => ?_
        exact ⟨nm, x, .tail _ y⟩
  | (.ex c0 u, υ) :: r, o, h => by
    refine x12 (om h) fun nm e0 h0 => ?_
    refine x12 (om h0) fun o1 e1 h1 => ?_
    obtain rfl := ss h1
    refine x02 (triedAll_mem e1) fun a b => ?_
    refine ⟨fun v τ hm => ?_, fun cc v τ hm => ?_⟩
    · refine Or.elim (List.mem_cons.mp hm) (fun q => ?_) fun q => ?_
      · cases q
      · exact .tail _ (a v τ q)
    · rcases List.mem_cons.mp hm with q | q
      · cases q; exact ⟨nm, e0, .head _⟩
      · refine x12 (b cc v τ q) fun nm x y => ?_
        exact ⟨nm, x, .tail _ y⟩
theorem excs_all : ∀ x ∈ excsT.map (·.1), x ∈ [178, 190, 202, 214] := by decide +kernel
theorem excs_in {cc : Addr} {nm : Str} (h : lkN cc excsT = some nm) : cc ∈ [178, 190, 202, 214] := by
  have hm : cc ∈ excsT.map (·.1) := List.mem_map_of_mem (lkN_mem h)
  exact excs_all _ hm
end
section
variable {W : Wk} {c : Cx} {σ : St} {γ : G} {s : Shared} {n : Nat} {S : Sems} {C : Cfg} {out : Out SV}
theorem tried_ok {P : Params} (hK : W.K = kn P) (hC : C.excs = excsT) (IH : SemsOK W n S) {args : List SV} {args' : List Value} (h : triedR C S args σ = some out) (hG : Good W c) (hS : W.SR c σ γ s) (hR : Room (n + 1) c) (ha : VRs W.K γ σ.next σ.doms.length args args') :
    Desc W c σ γ s (call (.ref 1377) args') (VRel W) out := by
  intro Q E P0
  refine x12 (om h) fun g hg1 h2 => ?_
  obtain rfl := single_some hg1
  refine x12 (om h2) fun l hl h3 => ?_
  (refine x12 (backR_some h3) fun o1 h1 er2 => ?_; subst er2)
  refine x02 (triedAll_mem h1) fun hok hex => ?_
  (refine x23 ha.view fun g' _ er2 hg hn => ?_; subst er2)
  cases hn
  have X : (kn P).In s.heap := hK ▸ hS.K hG
  have hfd := tr_fd
  refine x12 (hS.fr) fun m0 F0 Ev0 => ?_
  refine wpAny_call (codeAny_call_def (fd := trFd) (body := trBody) (binds := [(("call" : Str), g')]) (lo2 hR.d) (X _ _ (tr_lk P)) rfl (hG.T.nolimit.keeps F0.keep) (codeRec_of X (by rw [hfd]; exact tr_cd P)) (by rw [hfd]) (kp_binds X fun S => tr_bd P S _)
    (by rw [hfd]; exact noCellB_ok tr_nc) (fun x hx => by rw [hfd]; rcases List.mem_singleton.mp hx with rfl; exact tr_n1) ?_ (by rw [hfd]; exact tr_co) (by rw [hfd]; exact tr_gen) (by rw [hfd]; exact tr_kind))
  intro h₁ hns k1
  have henv : callEnv trFd s.heap.objs.size 1377 = envX (Str.ofString "_law_tried") trSc s.heap.objs.size 1377 (.ref 1376) [] := by rw [hfd]; rfl
  rw [henv]
  refine x27 (enter_frame (cn := Str.ofString "_law_tried") (cs := trSc) (a := 1377) (ccd := .ref 1376) (cl := []) (ev := []) hS hG.k k1 hns (fun m x v e => by exact ns e)) fun m H Ev ab K0 F1 N1 ap1 lt1 => ?_
  have hS1 : W.SR (c.callee (Str.ofString "_law_tried") trSc s.heap.objs.size 1377 (.ref 1376) []) { framed σ with env := [] } (γ.call σ.next c.L m) { s with heap := h₁, toks := s.toks + 1 } := by
    rw [hs_of hS]
    exact Core.sr (c := c.callee (Str.ofString "_law_tried") trSc s.heap.objs.size 1377 (.ref 1376) []) K0 F1 N1 ap1
  have hG1 : Good W (c.callee (Str.ofString "_law_tried") trSc s.heap.objs.size 1377 (.ref 1376) []) := ⟨hG.X, hG.T, tr_kind, hG.tb, hG.ex⟩
  have hR1 : Room n (c.callee (Str.ofString "_law_tried") trSc s.heap.objs.size 1377 (.ref 1376) []) := ⟨rs hR.d (by decide), rs hR.u (by decide)⟩
  have fin : ∀ τ γ' s' v v', Ext { framed σ with env := [] } (γ.call σ.next c.L m) γ' τ → W.SR (c.callee (Str.ofString "_law_tried") trSc s.heap.objs.size 1377 (.ref 1376) []) τ γ' s' → VR W.K γ' τ.next τ.doms.length v v' → (.ok v, { τ with env := σ.env, froz := σ.froz }) ∈ backTo σ.env σ.froz o1 → Q v' s' := by
    intro τ γ' s' v v' x S' hv hm
    have e1 : τ.froz = (σ.next, .frame) :: σ.froz := x.fz
    have e2 : γ'.ρ σ.next = c.L := (x.ρ σ.next (Nat.lt_succ_self _)).trans call_ρ
    have e3 : γ'.fm c.L = m := by rw [x.fm]; exact call_fm
    have e4 : ∀ a, @Ne Nat a c.L → γ'.fm a = γ.fm a := fun a ha => by rw [x.fm]; exact call_fm_ne ha
    have lt2 : Later γ γ' σ.next σ.doms.length τ.next τ.doms.length := later_call.trans x.later
    have S2 := SR.leave S' e1 e2 e3 e4 (Ev.later lt2) ab (hS.ou.later lt2)
    refine P0 (.ok v) _ hm { γ' with fm := γ.fm } s' ⟨lt2.ln, lt2.ld, lt2.lδ, lt2.lρ, lt2.lZ, rfl, rfl⟩ S2 v' ?_
    exact VR.later (γ := γ') (γ' := { γ' with fm := γ.fm }) ⟨Nat.le_refl _, Nat.le_refl _, fun _ _ => rfl, fun _ _ => rfl, fun _ h => h⟩ hv
  have hg1 : VR W.K (γ.call σ.next c.L m) (σ.next + 1) σ.doms.length g g' := hg.later later_call
  skip
  refine wpAny_execs_cons (wpAny_Try_except ?_)
  refine wpAny_execs_cons (wpAny_Return_some (Call_ (nameX_L F1 rfl ?_ tr_kind tr_n1)))
  refine callWith_any (k := 0) (Pr := Kept (model W.prog W.w) g') (by rfl) (fun _ h => h) (args_nil ⟨kept_ok IH hS1 hG1 hl hg1, ?_⟩)
  refine IH.cl _ _ _ _ hl _ _ _ _ _ hG1 hS1 hR1 hg1 .nil _ _ ?_
  intro r τ hm γ2 s2 x S2
  cases r with
  | ok u =>
    intro b hb
    exact fin τ γ2 s2 u b x S2 hb (backTo_mem (hok _ _ hm))
  | ex cc v =>
    intro e he
    refine x12 (hex _ _ _ hm) fun nm hn hmem => ?_
    refine note_ok (c := c.callee (Str.ofString "_law_tried") trSc s.heap.objs.size 1377 (.ref 1376) []) tr_kind he fun s3 he3 => ?_
    have he4 : Thrown W (c.callee (Str.ofString "_law_tried") trSc s.heap.objs.size 1377 (.ref 1376) []) cc v γ2 { τ with env := [] } e s3 := by
      refine x13 he3 fun its f S5 ap => ?_
      refine x12 (S5.fr) fun m5 F5 Ev5 => ?_
      exact ⟨its, f, ⟨S5.sm, ⟨m5, F5, ⟨(fun y w q => by exact ns q), (fun mf q => by exact ns q)⟩⟩, S5.nw, S5.tz, S5.dm, S5.ou⟩, ap⟩
    rw [hC] at hn
    have hin := excs_in hn
    have X0 : (kn P).In c.h₀ := hK ▸ hG.X
    refine chain_ok (c := c.callee (Str.ofString "_law_tried") trSc s.heap.objs.size 1377 (.ref 1376) []) (word := nm) tr_kind rfl rfl hG1 rfl (spotL hK X0 hin) he4 (fun a o s' S6 hv => ?_) trRows (fun r hr => ⟨hK ▸ tr_rows P r hr, ?_⟩) (by exact hn)
    · have x2 : Ext τ γ2 (γ2.tup a o) { τ with env := [] } := ⟨Nat.le_refl _, Nat.le_refl _, fun _ _ => rfl, fun _ _ => rfl, fun _ h => .tail _ h, rfl, rfl⟩
      exact fin { τ with env := [] } _ s' _ _ (x.trans x2) S6 hv (backTo_mem (τ := τ) hmem)
    · refine catchL X0 hin ?_
      simp only [trRows, List.mem_cons, List.not_mem_nil, or_false] at hr
      rcases hr with rfl | rfl | rfl | rfl <;> simp
end
end Mine
end
section
open PySem PySem.W PyProof.Rows PySem.Calls
set_option tactic.hygienic false
namespace Mine
theorem storeAllH {prog : Program} {w : World} {A : Around} {E : Value → Shared → Prop} {d : Addr} (hu : A.units + 8 < cLine) : ∀ (vs : List (Value × Value)) (ys xs : List (NKey × Addr × Value)) (s : Shared) (Q : PUnit → Shared → Prop),
    vs = ys.map (fun y => (Value.ref y.2.1, y.2.2)) → (∀ y ∈ ys, NIs prog w s.heap y.1 y.2.1) → s.heap.DictOfH (nKind prog w) d xs → (xs.map (·.1) ++ ys.map (·.1)).Nodup → xs.length + ys.length ≤ 15 →
    (∀ h' tk, h'.DictOfH (nKind prog w) d (xs ++ ys) → Heap.SameBut d s.heap h' → Q PUnit.unit { s with heap := h', toks := tk }) →
    wpAny (model prog w) A (forIn vs PUnit.unit fun (x : Value × Value) (_ : PUnit) => (do dictSet d x.1 x.2; pure (ForInStep.yield PUnit.unit) : Sem (ForInStep PUnit))) Q E s
  | _, [], xs, s, Q, rfl, _, hm, _, _, hQ => by
    rw [List.map_nil, List.forIn_nil]
    exact wpAny_pure (hQ s.heap s.toks (by simpa using hm) (Heap.SameBut.refl _ _))
  | _, y :: ys, xs, s, Q, rfl, his, hm, hnd, hsz, hQ => by
    refine x34 (id hm) fun o es ep ho _ hd _ => ?_
    rw [List.map_cons, List.forIn_cons]
    refine wpAny_bind (wpAny_bind (wpAny_dictSet_heap (knd := nKind prog w) (hsz := by rw [sizeLine_eq]; simp at hsz; exact Nat.le_trans (Nat.le_add_right _ _) (Nat.le_trans (by assumption) (by decide))) hu (his y (.head _)) hm fun h₁ hm₁ hs₁ => wpAny_pure ?_))
    have hno : y.1 ∉ xs.map (·.1) := fun q => by
      rw [List.nodup_append] at hnd
      exact hnd.2.2 _ q _ (by simp) rfl
    have hat : atKey xs y.1 = none := by
      unfold atKey
      rw [Option.map_eq_none_iff, List.find?_eq_none]
      intro x hx
      simp only [decide_eq_true_eq]
      exact fun q => hno (q ▸ List.mem_map_of_mem hx)
    rw [storedH_new hat] at hm₁
    refine storeAllH hu _ ys _ _ Q rfl (fun z hz => (his z (.tail _ hz)).keeps ho hd hs₁) hm₁ (by simpa using hnd) (by simp at hsz ⊢; omega) fun h' tk hm' hs' => ?_
    exact hQ h' tk (by simpa using hm') (hs₁.trans hs')
theorem Dict_H {prog : Program} {w : World} {A : Around} {E : Value → Shared → Prop} {s : Shared} {env : Env} {keys : List (Option PySem.Expr)} {values : List PySem.Expr} {pos : Pos} {Q : Value → Shared → Prop} (hu : A.units + 8 < cLine)
    (hall : keys.all (·.isSome) = true) (hl : keys.length = values.length) (h0 : keys ≠ []) (hlen : keys.length ≤ 15)
    (h : wpAny (model prog w) A (evalPairs (pairTrees keys values env pos)) (fun vs s₁ => ∃ ys : List (NKey × Addr × Value), vs = ys.map (fun y => (Value.ref y.2.1, y.2.2)) ∧ (∀ y ∈ ys, NIs prog w s₁.heap y.1 y.2.1) ∧ s₁.heap.DictOfH (nKind prog w) s.heap.objs.size [] ∧ (ys.map (·.1)).Nodup ∧
      ∀ h' tk, h'.DictOfH (nKind prog w) s.heap.objs.size ys → Heap.SameBut s.heap.objs.size s₁.heap h' → Q (.ref s.heap.objs.size) { s₁ with heap := h', toks := tk }) E
      { s with heap := s.heap.push { cls := .type "dict", data := .dict #[] } }) :
    wpAny (model prog w) A (eval (.Dict keys values pos) env) Q E s := by
  have hn := pairTrees_length keys values env pos hall hl
  rw [arm_eval_Dict, zip_pairTrees keys values env pos hall hl, dictDisplay_pairs _ (fun he => h0 (List.length_eq_zero_iff.mp (by rw [← hn, he]; rfl))) (by omega)]
  refine wpAny_bind (wpAny_standAt (wpAny_bind ?_))
  skip
  refine wpAny_bind (wpAny_alloc ?_)
  refine wpAny_bind (wpAny_holding ?_)
  rw [if_pos (by exact Nat.le_trans (Nat.le_of_eq (by assumption)) (Nat.le_trans (by assumption) (by decide)))]
  refine wpAny_bind (wpAny_mono (wpAny_evalPairs_len h) (fun vs s₁ h₁ => ?_) fun _ _ e => e)
  obtain ⟨hvl, ys, rfl, his, hm, hnd, hQ⟩ := h₁
  refine wpAny_holding ?_
  refine wpAny_bind (storeAllH hu _ ys [] s₁ _ rfl his hm (by exact hnd) (by simp at hvl ⊢; omega) fun h' tk hm' hs' => wpAny_pure (wpAny_pure (wpAny_pure (hQ h' tk (by exact hm') hs'))))
theorem exprsOf_some : ∀ {ks : List (Option PySem.Expr)} {kes : List PySem.Expr}, exprsOf ks = some kes → ks.all (·.isSome) = true ∧ ks.length = kes.length ∧ ks = kes.map some
  | [], kes, h => by obtain rfl := ss h; exact ⟨rfl, rfl, rfl⟩
  | e :: r, kes, h => by
    refine x12 (om h) fun e er1 h1 => ?_; subst er1
    refine x12 (om h1) fun es h2 h3 => ?_
    obtain rfl := ss h3
    refine x03 (exprsOf_some h2) fun a b c => ?_
    exact ⟨by exact a, by simp [b], by rw [List.map_cons, ← c]⟩
section
variable {W : Wk} {n : Nat} {S : Sems} {c : Cx} {fm : Fm} {σ : St} {γ : G} {s : Shared} {env : Env} {E : Value → Shared → Prop}
inductive PV (K : Frag) (γ : G) (n d : Nat) : List (SV × SV) → List (Value × Value) → Prop
  | nil : PV K γ n d [] []
  | cons {x v x' v' l l'} : VR K γ n d x x' → VR K γ n d v v' → PV K γ n d l l' → PV K γ n d ((x, v) :: l) ((x', v') :: l')
theorem pairsT_ok (IH : SemsOK W n S) (hG : Good W c) (hR : Room n c) {pos : Pos} : ∀ {kes es : List PySem.Expr} {σ : St} {γ : G} {s : Shared} {o : Out (List (SV × SV))} {Q : List (Value × Value) → Shared → Prop},
    kes.length = es.length → interleave S fm kes es σ = some o → FmOK W c fm γ σ.next σ.doms.length env → W.SR c σ γ s →
      Post W c o σ γ (fun kvs γ n d ps => PV W.K γ n d kvs ps) Q E → wpAny (model W.prog W.w) c.A (evalPairs (pairTrees (kes.map some) es env pos)) Q E s
  | [], [], σ, γ, s, o, Q, hl, h, hF, hS, P => pairTrees_nil_walk (post_ok h P hS .nil)
  | [], _ :: _, σ, γ, s, o, Q, hl, h, hF, hS, P => by cases hl
  | _ :: _, [], σ, γ, s, o, Q, hl, h, hF, hS, P => by cases hl
  | k :: kes, e :: es, σ, γ, s, o, Q, hl, h, hF, hS, P => by
    refine x12 (bind_spec h) fun l1 e1 h1 => ?_
    refine pairTrees_cons_walk (IH.ev _ _ _ _ e1 c γ s env hG hF hS hR _ _ (post_bind h1 P fun x τ o1 e2 γ1 s1 x1 S1 P1 x' hx => ?_))
    refine x12 (bind_spec e2) fun l2 e3 h3 => ?_
    refine IH.ev _ _ _ _ e3 c γ1 s1 env hG (hF.later x1.later) S1 hR _ _ (post_bind h3 P1 fun v τ2 o2 e4 γ2 s2 x2 S2 P2 v' hv => ?_)
    refine x12 (bind_spec e4) fun l3 e5 h5 => ?_
    refine pairsT_ok IH hG hR (by simpa using hl) e5 ((hF.later x1.later).later x2.later) S2 (post_bind h5 P2 fun r τ3 o3 e6 γ3 s3 x3 S3 P3 ps hps => ?_)
    exact post_ok e6 P3 S3 (.cons ((hx.later x2.later).later x3.later) (hv.later x3.later) hps)
theorem PV.keys (X : W.K.In c.h₀) (hS : W.SR c σ γ s) : ∀ {kvs : List (SV × SV)} {ps : List (Value × Value)} {ks : List NKey}, PV W.K γ σ.next σ.doms.length kvs ps → tkKeys kvs = some ks →
    ∃ ys : List (NKey × Addr × Value), ps = ys.map (fun y => (Value.ref y.2.1, y.2.2)) ∧ TK W.K γ σ.next σ.doms.length kvs ys ∧ ys.map (·.1) = ks ∧ ∀ y ∈ ys, NIs W.prog W.w s.heap y.1 y.2.1
  | _, _, _, .nil, h => by obtain rfl := ss h; exact ⟨[], rfl, .nil, rfl, fun _ h => nomatch h⟩
  | _, _, _, .cons (x := x) hx hv r, h => by
    refine x12 (om h) fun k h1 h0 => ?_
    refine x12 (om h0) fun l h2 h3 => ?_
    obtain rfl := ss h3
    refine x14 (r.keys X hS h2) fun ys er1 a b d => ?_; subst er1
    have hx0 := hx
    cases x <;> try (exact ns h1; done)
    refine x33 hx.view fun b' _ _ er3 ht hr => ?_; subst er3
    refine ⟨(k, b', _) :: ys, rfl, .cons h1 hx0 hv a, by rw [List.map_cons, b], fun y hy => ?_⟩
    rcases List.mem_cons.mp hy with rfl | hy
    · exact hS.tkIs X hx0 h1
    · exact d y hy
theorem tkIn_false {x : NKey} : ∀ {l : List NKey}, tkIn x l = false → x ∉ l
  | [], _ => List.not_mem_nil
  | y :: r, h => by
    skip
    refine mc h (fun q h => ?_) fun q h => ?_
    · exact ft h
    · intro hm
      rcases List.mem_cons.mp hm with rfl | hm
      · rw [tkB_iff.mpr rfl] at q; exact ft q
      · exact tkIn_false h hm
theorem tkNodup_ok : ∀ {l : List NKey}, tkNodup l = true → l.Nodup
  | [], _ => List.nodup_nil
  | x :: r, h => by
    skip
    refine mc h (fun q h => ?_) fun q h => ?_
    · exact tf h
    · exact List.nodup_cons.mpr ⟨tkIn_false q, tkNodup_ok h⟩
theorem putT_some {σ : St} {j : Nat} {kvs : List (SV × SV)} {out : Out SV} (h : putT j kvs σ = some out) : ∃ ks, lkN j σ.heap = some (.tdict []) ∧ tkKeys kvs = some ks ∧ tkNodup ks = true ∧ okR (.obj j) { σ with heap := ptN j (.tdict kvs) σ.heap } = some out := by
  refine x12 (om h) fun l h1 h2 => ?_
  refine x02 (bm h2) fun b h3 => ?_
  refine x12 (om h3) fun ks h4 h5 => ?_
  refine x02 (bm h5) fun b2 h6 => ?_
  rw [isNil_eq b] at h1
  exact ⟨ks, asTd_some h1, h4, b2, h6⟩
end
theorem td_ok (W : Wk) : TdOK W := by
  intro n S IH c hG hR fm σ γ s env Q E out ks kes es pos hk h hF hS P
  cases kes with
  | nil => exact ns h
  | cons ke kr =>
  refine x02 (bm h) fun _ h0 => ?_
  refine x02 (bm h0) fun hl h2 => ?_
  refine x02 (bm h2) fun hle h3 => ?_
  refine x03 (exprsOf_some hk) fun k1 k2 k3 => ?_
  refine x12 (bind_spec h3) fun l1 e1 h1 => ?_
  refine x12 (hS.fr) fun m F Ev => ?_
  refine x14 (hS.nw) fun H hH N nd ap => ?_
  have hlen := Nat.eq_of_beq_eq_true hl
  have hle' := Nat.le_of_ble_eq_true hle
  refine Dict_H (by have := hR.u; show c.un + 8 < cLine; exact lo5 (by assumption) (by decide)) k1 (by rw [k2, hlen]) (by rw [k3]; simp) (by rw [k2]; exact hle') ?_
  have hlo : (s.heap.objs.size == sysModules) = false := F.notModules (modules_low hG.T.nolimit)
  have hT0 : TObj W.prog W.w ({ cls := .type "dict", data := .dict #[] } : Obj) [] := ⟨⟨rfl, rfl, rfl⟩, ⟨#[], 0, rfl, rfl⟩, List.nodup_nil⟩
  have S' := hS.alloc1 (tk := s.toks) (o := .tdict []) Ev hH nd ap (F.push _) (News.push F N { cls := .type "dict", data := .dict #[] } rfl) (.tdict .nil hT0 hlo) (fun p hp => Heap.lt_size (N p hp).1)
  have x := ext_new (σ := σ) (γ := γ) (a := s.heap.objs.size) (o := .tdict [])
  rw [k3]
  refine pairsT_ok IH hG hR hlen e1 (hF.later x.later) S' ?_
  intro r τ hm γ2 s2 y S2
  refine x02 (h1 r τ hm) fun ha hb => ?_
  cases r with
  | ex cc v => exact P _ _ (hb cc v rfl) γ2 s2 (x.trans y) S2
  | ok kvs =>
    intro ps hps
    refine x12 (ha kvs rfl) fun o1 e2 sub => ?_
    refine x14 (putT_some e2) fun ks0 hj hks hnd e2 => ?_
    refine x14 (hps.keys hG.X S2 hks) fun ys er1 hTK hys his => ?_; subst er1
    refine x13 (S2.turn hj) fun l ho N2 upd => ?_
    have hρ : γ2.ρ σ.next = s.heap.objs.size := by
      rw [y.ρ _ (Nat.lt_succ_self _)]
      exact if_pos rfl
    refine x24 ho.form fun xs0 o2 er2 hk0 T0 hs0 => ?_; subst er2
    cases hk0
    have g0 := (N2 _ (.head _)).1
    rw [hρ] at g0
    have ndK : (ys.map (·.1)).Nodup := by rw [hys]; exact tkNodup_ok hnd
    refine ⟨ys, rfl, his, T0.at hG.X S2 .nil g0, ndK, fun h'' tk hm'' hs'' => ?_⟩
    refine x36 hm'' fun o'' es'' ep'' ho'' hex hdt hes _ _ => ?_
    have nt : NT o2 := by
      refine x22 T0.dt fun es ep he _ => ?_
      exact nt_of fun vs k => .inl (by rw [he]; exact fun q => by cases q)
    have S3 := upd [] [] _ o'' h'' tk (.tdict kvs) rfl nt (by rw [hρ]; exact hs'') (by rw [hρ]; exact ho'') (.tdict hTK ⟨hex, ⟨_, _, hdt, hes⟩, ndK⟩ hs0)
    have := P (.ok (.obj σ.next)) _ (sub _ (by obtain rfl := ss e2; exact .head _)) γ2 _ ((x.trans y).trans ext_put) S3 (.ref (γ2.ρ σ.next)) (.obj (Nat.lt_of_lt_of_le (Nat.lt_succ_self _) y.n))
    rw [hρ] at this
    exact this
end Mine
end
section
open PySem PySem.W PyProof.Rows PySem.Calls
set_option tactic.hygienic false
set_option maxRecDepth 100000
namespace Mine
theorem my_item {prog : Program} {w : World} {A : Around} {E : Value → Shared → Prop} {s : Shared} {value slice : PySem.Expr} {l : Addr} {vs : List Value} {k : Int} {u : Tok} {v : Value} {Q : Value → Shared → Prop}
    (hl : s.heap.IsList l vs.toArray) (h0 : 0 ≤ k) (hhi : k < 2 ^ 63) (hx : vs[k.toNat]? = some v) (h : Q v s)
    (hs : subscripted slice false (.ref l) (.int k u) = operate [.ref l, .int k u] (getItem (.ref l) (.int k u)) := by with_unfolding_all rfl) :
    wpAny (model prog w) A (subscriptTail value slice (.ref l) (.int k u)) Q E s :=
  tail_any hl.typeIs slot_list_getitem.lookup (wpAny_getItem_list hl h0 hhi (by simpa using hx) h) hs
theorem allNe_of_lt {d : Addr} {l : List (Addr × Obj)} (h : AllLt d l) : ∀ p ∈ l, p.1 ≠ d := by
  induction l with
  | nil => intro p hp; cases hp
  | cons q r ih =>
    intro p hp
    rcases List.mem_cons.mp hp with rfl | hp
    · exact Nat.ne_of_lt h.1
    · exact ih h.2 p hp
theorem fmod_in {x k : Int} (hk : 0 < k) : 0 ≤ x.fmod k ∧ x.fmod k < k := by
  rw [Int.fmod_eq_emod_of_nonneg _ (Int.le_of_lt hk)]
  exact ⟨Int.emod_nonneg _ (by omega), Int.emod_lt_of_pos _ hk⟩
theorem fdiv_in {x k : Int} (hx : 0 ≤ x) (hk : 0 < k) : 0 ≤ x.fdiv k ∧ x.fdiv k ≤ x := by
  rw [Int.fdiv_eq_ediv_of_nonneg _ (Int.le_of_lt hk)]
  exact ⟨Int.ediv_nonneg hx (Int.le_of_lt hk), Int.ediv_le_self _ hx⟩
theorem News.sub {h₀ h : Heap} {L : Addr} {l l' : List (Addr × Obj)} (N : News h₀ L h l) (hs : ∀ p ∈ l', p ∈ l) : News h₀ L h l' := fun p hp => N p (hs p hp)
theorem one_item {prog : Program} {w : World} {A : Around} {E : Value → Shared → Prop} {s : Shared} {value slice : PySem.Expr} {l : Addr} {vs : List Value} {k : Int} {u : Tok} {Q : Value → Shared → Prop}
    (hl : s.heap.IsList l vs.toArray) (h0 : 0 ≤ k) (h1 : k < vs.length) (h2 : vs.length < 100) (h : ∀ (j : Nat) v, vs[j]? = some v → Q v s)
    (hs : subscripted slice false (.ref l) (.int k u) = operate [.ref l, .int k u] (getItem (.ref l) (.int k u)) := by with_unfolding_all rfl) :
    wpAny (model prog w) A (subscriptTail value slice (.ref l) (.int k u)) Q E s := by
  have hk : k.toNat < vs.length := by omega
  exact my_item hl h0 (by omega) (List.getElem?_eq_getElem hk) (h _ _ (List.getElem?_eq_getElem hk)) hs
local macro_rules | `(tactic| k_all) => `(tactic| first | assumption | exact allNe_of_lt (by assumption) | exact fun p9 h9 => Nat.ne_of_lt ((by assumption : ∀ p ∈ _, p.1 < _) p9 h9))
local macro_rules | `(tactic| k_mem) => `(tactic| assumption)
noncomputable def body154 : List Stmt := (fnAt 154 [] false).body
noncomputable abbrev sc154 : Scope := ⟨.function, [("reel", .local), ("many", .local), ("found", .local)], false, false, []⟩
noncomputable def body155 : List Stmt := (fnAt 155 [] false).body
noncomputable abbrev sc155 : Scope := ⟨.function, [("reel", .local), ("some", .local), ("_law_wound", .globalImplicit), ("len", .globalImplicit)], false, false, []⟩
section
variable {prog : Program} {w : World} {p : Program} {loose : List Str} {mean : ExcName → Option Value} {mg mb : Str → Option Value} {dp un : Nat} {gd : Option (List Code)} {cn : Str} {a : Addr} {ccd : Value} {outer : List Env} {h₀ : Heap} {L : Addr} {s : Shared} {Q : Flow → Shared → Prop} {E : Value → Shared → Prop}
set_option maxHeartbeats 4000000 in
theorem wound_body {r : Addr} {x y mn : Int} {tx ty tm n0 : Nat} {rest : List (Addr × Obj)} (hr : ∀ p ∈ rest, p.1 ≠ r)
   (X : (kn w.params).In h₀) (F : Fr h₀ L s.heap fun x => ([(("reel" : Str), (.ref r : Value)), (("many" : Str), .int mn tm)] : List (Str × Value)).reverse.lookup x) (N : News h₀ L s.heap ((r, reelOb x y tx ty n0) :: rest)) (hx : 0 ≤ x) (hy : 0 ≤ y) (hy2 : y < 2147483647) (hm : 0 < mn) (hm2 : mn < 100)
   (ret : ∀ k x' y' t tx' ty' n' h' tk' m', 0 ≤ k → k < mn → 0 ≤ x' → 0 ≤ y' → y' < 2147483647 → Fr h₀ L h' m' → News h₀ L h' ((r, reelOb x' y' tx' ty' n') :: rest) → Q (.ret (.int k t)) { s with heap := h', toks := tk' }) :
   wpAny (model prog w) (ktrTop dp un gd cn sc154 L a ccd [] outer) (execs body154 (envX cn sc154 L a ccd [])) Q E s := by
  conv => arg 3; arg 1; whnf
  repeat' (first | (k_unfold; (try dsimp only)) | (k_end; wrow_close) | ((with_reducible show wpAny _ _ (subscriptTail _ _ (Value.ref _) (Value.int _ _)) _ _ _); with_unfolding_all refine' my_item ?k1 ?k2 ?k3 ?k4 ?_ ?k6; (case k1 => is_list); (case k2 => decide); (case k3 => decide); (case k4 => rfl); (case k6 => with_unfolding_all rfl); k_whole) | walk1 | (dsimp only; walk1) | (leave1; try dsimp only))
  · exact ret _ _ _ _ _ _ _ _ _ _ (fmod_in hm).1 (fmod_in hm).2 (fdiv_in hx hm).1 hy hy2 (by k_asm) (by k_asm)
  · exact ret _ _ _ _ _ _ _ _ _ _ (fmod_in hm).1 (fmod_in hm).2 hx (fmod_in (by decide)).1 (fmod_in (by decide)).2 (by k_asm) (by k_asm)
end
end Mine
end
section
open PySem PySem.W PyProof.Rows PySem.Calls
set_option tactic.hygienic false
namespace Mine
section
variable {prog : Program} {w : World} {K : Frag} {c : Cx} {σ τ : St} {γ γ' : G} {s : Shared}
theorem SR.turnE (S : SR prog w K c σ γ s) {j : Nat} {o : MO} (hj : lkN j σ.heap = some o) :
    ∃ l, OR prog w K γ σ.next σ.doms.length (γ.ρ j) o l ∧ News c.h₀ c.L s.heap l ∧ ∀ (p : Addr × Obj) (ob' : Obj) (h' : Heap) (tk : Nat) (o' : MO), l = [p] → NT p.2 → (∀ b o, @Ne Nat b p.1 → s.heap.get? b = some o → h'.get? b = some o) → h'.get? p.1 = some ob' →
      OR prog w K γ σ.next σ.doms.length (γ.ρ j) o' [(p.1, ob')] → SR prog w K c { σ with heap := ptN j o' σ.heap } γ { s with heap := h', toks := tk } := by
  refine x12 (S.fr) fun m F Ev => ?_
  refine x14 (S.nw) fun H hH N nd ap => ?_
  (refine x23 hH.append fun H₁ H₂ er2 hh hf => ?_; subst er2)
  obtain ⟨hn, pre, l, post, rfl, ho, upd⟩ := hh.split hj
  refine ⟨l, ho, fun p hp => N p (by simp only [List.mem_append]; exact .inr (.inl (.inl (.inr (.inl hp))))), ?_⟩
  intro p ob' h' tk o' el hnt hs hg ho'
  subst el
  have e : pre ++ ([p] ++ post) ++ H₂ = pre ++ ([p] ++ (post ++ H₂)) := by simp only [List.append_assoc]
  refine x02 (S.apart e N nd ap (List.mem_singleton.mpr rfl) hnt) fun d1 d2 => ?_
  have z := N p (by simp)
  have F' : Fr c.h₀ c.L h' m := ⟨ns_at F.ns fun o g => hs _ o (Ne.symm z.2.1) g, fun b o g => hs b o (fun q => by rw [q, z.2.2] at g; exact ns g) (F.keep b o g), F.above⟩
  refine S.put (tk := tk) Ev hf (upd o' _ ho') nd ap rfl F' fun q hq => ?_
  have key : ∀ q, (q ∈ c.xt ++ pre ∨ q ∈ post ++ H₂ ++ γ.Z) → h'.get? q.1 = some q.2 ∧ q.1 ≠ c.L ∧ c.h₀.get? q.1 = none := fun q hq => by
    have hq' : q ∈ c.xt ++ ((pre ++ ([p] ++ post) ++ H₂) ++ γ.Z) := by
      simp only [List.mem_append] at hq ⊢
      rcases hq with (hq | hq) | (hq | hq) | hq
      · exact .inl hq
      · exact .inr (.inl (.inl (.inl hq)))
      · exact .inr (.inl (.inl (.inr (.inr hq))))
      · exact .inr (.inl (.inr hq))
      · exact .inr (.inr hq)
    have g := N q hq'
    refine ⟨hs _ _ ?_ g.1, g.2⟩
    refine Or.elim hq (fun hq => ?_) fun hq => ?_
    · exact d1 q hq
    · exact d2 q hq
  simp only [List.mem_append, List.mem_singleton] at hq
  rcases hq with hq | ((hq | (rfl | hq)) | hq) | hq
  · exact key q (.inl (by simp [hq]))
  · exact key q (.inl (by simp [hq]))
  · exact ⟨hg, z.2⟩
  · exact key q (.inr (by simp [hq]))
  · exact key q (.inr (by simp [hq]))
  · exact key q (.inr (by simp [hq]))
end
end Mine
end
section
open PySem PySem.W PyProof.Rows PySem.Calls
set_option tactic.hygienic false
namespace Mine
set_option maxRecDepth 100000
noncomputable abbrev wdFd : FuncData := fdOf (stAt 154) (Str.ofString "_law_wound") (.none) (.none) (.none) (.str (Str.ofString "law_xm0202_01") 2314) none (.ref 1362) (.none)
theorem wd_fd : wdFd = fnX "_law_wound" (Str.ofString "_law_wound") (cePs (stAt 154)) body154 sc154 [] .none .none .none (.str (Str.ofString "law_xm0202_01") 2314) none (.ref 1362) .none := by kernel_rfl
theorem wd_lk (P : Params) : (kn P).lookup 1363 = some ⟨.type "function", none, .func wdFd, #[]⟩ := by kernel_rfl
theorem wd_cd (P : Params) : codeIn (kn P) (.ref 1362) (Str.ofString "_law_wound") = true := by kernel_rfl
theorem wd_bd (P : Params) (S : Setting) (x0 x1 : Value) : peek (kn P) S (PySem.bindArgs wdFd ⟨[x0, x1], []⟩) = some ([(("reel" : Str), x0), (("many" : Str), x1)] : List (Str × Value)) := by kernel_rfl
theorem hide_in {K : Frag} {h₀ h : Heap} {r : Addr} (X : K.In h₀) (k : ∀ b o, h₀.get? b = some o → h.get? b = some o) (hr : h₀.get? r = none) : K.In (hideAll h [r]) := fun b o e => hideAll_get _ (k b o (X b o e)) fun q => by
  have := List.mem_singleton.mp q
  subst this
  replace hr := (X _ _ e) ▸ hr; exact sn hr
section
variable {W : Wk} {c : Cx} {σ : St} {γ : G} {s : Shared} {Q : Value → Shared → Prop} {E : Value → Shared → Prop}
theorem wound_ok (hK : W.K = kn W.w.params) (hG : Good W c) (hS : W.SR c σ γ s) (hR : Room 0 c) {r n : Nat} {t : Tok} (hj : lkN r σ.heap = some .reel) (h1 : 1 ≤ n) (h2 : n ≤ 99) (ret : ∀ k t s', k < n → W.SR c σ γ s' → Q (.int (.ofNat k) t) s') :
    wpAny (model W.prog W.w) c.A (call (.ref 1363) [.ref (γ.ρ r), .int (.ofNat n) t]) Q E s := by
  refine x12 (hS.fr) fun m0 F0 Ev0 => ?_
  refine x13 (SR.turnE hS hj) fun l ho N0 upd => ?_
  (refine x54 ho.form fun x y tx ty k er5 hx hy hy2 => ?_; subst er5)
  have z := N0 _ (.head _)
  have X : (kn W.w.params).In s.heap := hK ▸ hS.K hG
  have X0 : (kn W.w.params).In c.h₀ := hK ▸ hG.X
  have hfd := wd_fd
  refine wpAny_call (codeAny_call_def (fd := wdFd) (body := body154) (binds := [(("reel" : Str), .ref (γ.ρ r)), (("many" : Str), .int (.ofNat n) t)]) (by have := hR.d; show c.dp < recursionLimit; exact lo1 (by assumption)) (X _ _ (wd_lk _)) rfl (hG.T.nolimit.keeps F0.keep) (codeRec_of X (by rw [hfd]; exact wd_cd _)) (by rw [hfd]) (kp_binds X fun S => wd_bd _ S _ _)
    (by rw [hfd]; exact noCellB_ok (by rfl)) (fun x hx => by rw [hfd]; simp only [List.mem_cons, List.not_mem_nil, or_false] at hx; rcases hx with rfl | rfl <;> rfl) ?_ (by rw [hfd]) (by rw [hfd]) (by rw [hfd]))
  intro h₁ hns k1
  have henv : callEnv wdFd s.heap.objs.size 1363 = envX (Str.ofString "_law_wound") sc154 s.heap.objs.size 1363 (.ref 1362) [] := by rw [hfd]; rfl
  rw [henv]
  have hrL : @Ne Nat (γ.ρ r) s.heap.objs.size := Nat.ne_of_lt (Heap.lt_size z.1)
  refine wound_body (prog := W.prog) (w := W.w) (dp := c.dp + 1) (un := c.un + 3) (gd := c.gd) (cn := Str.ofString "_law_wound") (a := 1363) (ccd := .ref 1362) (outer := c.env :: c.outer) (h₀ := hideAll s.heap [γ.ρ r]) (L := s.heap.objs.size) (rest := []) (tx := tx) (ty := ty) (n0 := k) (fun p hp => nomatch hp) (hide_in X0 F0.keep z.2.2)
    ⟨hns, fun b o g => k1 b o (of_hideAll _ g), by rw [hideAll_size]; exact Nat.le_refl _⟩ (N := fun p hp => ?_) hx hy hy2 (by show (0 : Int) < (n : Int); omega) (by show (n : Int) < 100; exact io (by assumption) (by decide)) ?_
  · rw [List.mem_singleton.mp hp]
    exact ⟨k1 _ _ z.1, hrL, hideAll_none _ (.head _)⟩
  · intro k' x' y' t' tx' ty' n' h' tk' m' a1 a2 a3 a4 a5 F' N'
    refine x11 (Int.eq_ofNat_of_zero_le a1) fun k0 er1 => ?_; subst er1
    have S2 := upd _ _ h' tk' .reel rfl (nt_of fun vs k => .inr (by show Value.type "list" ≠ Value.type "tuple"; decide)) (fun b o hb g => F'.keep b o (hideAll_get _ g fun q => hb (List.mem_singleton.mp q))) (N' _ (.head _)).1 (.reel a3 a4 a5)
    replace S2 := (ptN_same hj) ▸ S2
    exact ret k0 t' _ (by have : (k0 : Int) < (n : Int) := a2; omega) S2
end
end Mine
end
section
open PySem PySem.W PyProof.Rows PySem.Calls
set_option tactic.hygienic false
namespace Mine
set_option maxRecDepth 100000
noncomputable abbrev onFd : FuncData := fdOf (stAt 155) (Str.ofString "_law_one") (.none) (.none) (.none) (.str (Str.ofString "law_xm0202_01") 2314) none (.ref 1369) (.none)
theorem on_fd : onFd = fnX "_law_one" (Str.ofString "_law_one") (cePs (stAt 155)) body155 sc155 [] .none .none .none (.str (Str.ofString "law_xm0202_01") 2314) none (.ref 1369) .none := by kernel_rfl
theorem on_lk (P : Params) : (kn P).lookup 1370 = some ⟨.type "function", none, .func onFd, #[]⟩ := by kernel_rfl
theorem on_cd (P : Params) : codeIn (kn P) (.ref 1369) (Str.ofString "_law_one") = true := by kernel_rfl
theorem on_bd (P : Params) (S : Setting) (x0 x1 : Value) : peek (kn P) S (PySem.bindArgs onFd ⟨[x0, x1], []⟩) = some ([(("reel" : Str), x0), (("some" : Str), x1)] : List (Str × Value)) := by kernel_rfl
theorem on_g1 (P : Params) : nsIn (kn P) mainGlobals "_law_wound" = some (some (.ref 1363)) := by kernel_rfl
theorem on_g2 (P : Params) : nsIn (kn P) mainGlobals "len" = some none := by kernel_rfl
theorem on_bt : bootBuiltins "len" = some (.builtin "len") := by kernel_rfl
theorem on_kp (P : Params) : keepIn (kn P) (.ref 1363) = true := by kernel_rfl
noncomputable def allGround : List SV → Bool
  | [] => true
  | x :: r => match ground x with | true => allGround r | false => false
theorem allGround_ok : ∀ {l : List SV}, allGround l = true → ∀ x ∈ l, ground x = true
  | [], _, _, hm => nomatch hm
  | y :: r, h, x, hm => by
    skip
    refine mk' h (fun q h => ?_) fun q h => ?_
    · exact tf h
    · rcases List.mem_cons.mp hm with rfl | hm
      · exact q
      · exact allGround_ok h x hm
theorem VRs_get {K : Frag} {γ : G} {n d : Nat} {l : List SV} {vs : List Value} (h : VRs K γ n d l vs) : ∀ {j : Nat} {v : Value}, vs[j]? = some v → ∃ x ∈ l, VR K γ n d x v :=
  fun {j} {v} => VRs.ind K (P := fun l vs => ∀ (j : Nat) (v : Value), vs[j]? = some v → ∃ x ∈ l, VR K γ n d x v) (fun j v e => by exact ns e) (fun a _ ih j v e => by
    cases j with
    | zero => obtain rfl := ss e; exact ⟨_, .head _, a⟩
    | succ j =>
      refine x12 (ih j v e) fun x hx hv => ?_
      exact ⟨x, .tail _ hx, hv⟩) h j v
noncomputable def G.letter (γ : G) (d : Nat) (x : SV) : G := { γ with δ := fun i => if i = d then x else γ.δ i }
section
variable {W : Wk} {c : Cx} {σ : St} {γ : G} {s : Shared} {Q : Value → Shared → Prop} {E : Value → Shared → Prop}
theorem later_letter {n d : Nat} {x : SV} : Later γ (γ.letter d x) n d n (d + 1) := ⟨Nat.le_refl _, Nat.le_succ _, fun i h => if_neg (Nat.ne_of_lt h), fun _ _ => rfl, fun _ h => h⟩
theorem getAt_snoc {α : Type} {x : α} : ∀ {l : List α} {i : Nat} {y : α}, getAt i (l ++ [x]) = some y → getAt i l = some y ∨ (i = l.length ∧ y = x)
  | [], 0, y, h => by simp [getAt] at h; exact .inr ⟨rfl, h.symm⟩
  | [], i + 1, y, h => by simp [getAt] at h
  | a :: l, 0, y, h => .inl h
  | a :: l, i + 1, y, h => by
    rcases getAt_snoc (l := l) (i := i) h with q | ⟨rfl, rfl⟩
    · exact .inl q
    · exact .inr ⟨rfl, rfl⟩
theorem getAt_lt {α : Type} : ∀ {l : List α} {i : Nat} {y : α}, getAt i l = some y → i < l.length
  | [], _, _, h => by simp [getAt] at h
  | a :: l, 0, y, h => Nat.succ_pos _
  | a :: l, i + 1, y, h => Nat.succ_lt_succ (getAt_lt (l := l) h)
theorem SR.drawn (S : W.SR c σ γ s) {l : List SV} {x : SV} (hx : x ∈ l) (hg : allGround l = true) : W.SR c { σ with doms := σ.doms ++ [l] } (γ.letter σ.doms.length x) s ∧ Ext σ γ (γ.letter σ.doms.length x) { σ with doms := σ.doms ++ [l] } := by
  have hl : (σ.doms ++ [l]).length = σ.doms.length + 1 := by simp
  have lt : Later γ (γ.letter σ.doms.length x) σ.next σ.doms.length σ.next (σ.doms ++ [l]).length := by rw [hl]; exact later_letter
  refine x12 (S.fr) fun m F Ev => ?_
  refine x14 (S.nw) fun H hH N nd ap => ?_
  refine ⟨⟨S.sm, ⟨m, F, Ev.later lt⟩, ⟨H, hH.later lt, N, nd, ap⟩, S.tz, fun i r e => ?_, S.ou.later (d := 0) (d' := 0) ⟨Nat.le_refl _, Nat.le_refl _, fun i h => absurd h (Nat.not_lt_zero _), fun _ _ => rfl, fun _ h => h⟩⟩, ⟨lt.ln, lt.ld, lt.lδ, lt.lρ, lt.lZ, rfl, rfl⟩⟩
  rcases getAt_snoc e with q | ⟨rfl, rfl⟩
  · have := S.dm i r q
    have hne : i ≠ σ.doms.length := Nat.ne_of_lt (getAt_lt q)
    exact ⟨by show (if i = σ.doms.length then x else γ.δ i) ∈ r; rw [if_neg hne]; exact this.1, this.2⟩
  · exact ⟨by show (if σ.doms.length = σ.doms.length then x else γ.δ _) ∈ r; rw [if_pos rfl]; exact hx, allGround_ok hg⟩
theorem one_core (hK : W.K = kn W.w.params) (hG : Good W c) (hS : W.SR c σ γ s) (hR : Room 1 c) {r j : Nat} {l : List SV} (hr : lkN r σ.heap = some .reel) (hj : lkN j σ.heap = some (.list l)) (h1 : 1 ≤ l.length) (h2 : l.length ≤ 99)
    (ret : ∀ x v s' γ', x ∈ l → W.SR c { σ with next := σ.next + 1 } γ' s' → Ext σ γ γ' { σ with next := σ.next + 1 } → VR W.K γ' (σ.next + 1) σ.doms.length x v → Q v s') : wpAny (model W.prog W.w) c.A (call (.ref 1370) [.ref (γ.ρ r), .ref (γ.ρ j)]) Q E s := by
  refine x12 (hS.fr) fun m0 F0 Ev0 => ?_
  have X : (kn W.w.params).In s.heap := hK ▸ hS.K hG
  have X0 : (kn W.w.params).In c.h₀ := hK ▸ hG.X
  have gj : σ.get j = some (.list l) := get_of hj
  have hfd := on_fd
  have hjn := (hS.thing gj).1
  refine x24 (hS.listAt (listAt_obj gj) (.obj hjn)) fun a0 vs0 e0 hl0 hv0 _ => ?_
  cases e0
  refine wpAny_call (codeAny_call_def (fd := onFd) (body := body155) (binds := [(("reel" : Str), .ref (γ.ρ r)), (("some" : Str), .ref (γ.ρ j))]) (by have := hR.d; show c.dp < recursionLimit; exact lo1 (by assumption)) (X _ _ (on_lk _)) rfl (hG.T.nolimit.keeps F0.keep) (codeRec_of X (by rw [hfd]; exact on_cd _)) (by rw [hfd]) (kp_binds X fun S => on_bd _ S _ _)
    (by rw [hfd]; exact noCellB_ok (by rfl)) (fun x hx => by rw [hfd]; simp only [List.mem_cons, List.not_mem_nil, or_false] at hx; rcases hx with rfl | rfl <;> rfl) ?_ (by rw [hfd]) (by rw [hfd]) (by rw [hfd]))
  intro h₁ hns k1
  have henv : callEnv onFd s.heap.objs.size 1370 = envX (Str.ofString "_law_one") sc155 s.heap.objs.size 1370 (.ref 1369) [] := by rw [hfd]; rfl
  rw [henv]
  refine x27 (enter_frame (cn := Str.ofString "_law_one") (cs := sc155) (a := 1370) (ccd := .ref 1369) (cl := []) (ev := []) hS hG.k k1 hns (fun m x v e => by exact ns e)) fun m H Ev ab K0 F1 N1 ap1 lt1 => ?_
  have hS1 : W.SR (c.callee (Str.ofString "_law_one") sc155 s.heap.objs.size 1370 (.ref 1369) []) { framed σ with env := [] } (γ.call σ.next c.L m) { s with heap := h₁, toks := s.toks + 2 } := by
    rw [hs_of hS]
    exact Core.sr (c := c.callee (Str.ofString "_law_one") sc155 s.heap.objs.size 1370 (.ref 1369) []) K0 F1 N1 ap1
  have hG1 : Good W (c.callee (Str.ofString "_law_one") sc155 s.heap.objs.size 1370 (.ref 1369) []) := ⟨hG.X, hG.T, rfl, hG.tb, hG.ex⟩
  have T0 := topRead_of hG.T
  skip
  refine wpAny_execs_cons (wpAny_Return_some (Subscript_ (nameX_L F1 rfl ?_)))
  refine Call_ (nameX_K F1 X0 T0 (on_g1 _) ?_)
  refine callWith_any (k := 28) (Pr := fun h => (kn W.w.params).In h) (by rfl) (fun h X' => kept_top (on_kp _) X') ?_
  refine args_cons (nameX_L F1 rfl ?_) rfl
  refine args_cons (Call_ (nameX_B F1 X0 T0 (on_g2 _) on_bt (by decide) ?_)) rfl
  refine callWith_any (k := 28) (Pr := fun _ => True) (by rfl) (fun _ _ => kept_builtin) (args_cons (nameX_L F1 rfl ?_) rfl)
  have hl1 : h₁.IsList (γ.ρ j) vs0.toArray := (let ⟨o, a, b, c, d⟩ := hl0; ⟨o, k1 _ _ a, b, c, d⟩)
  have hlen : vs0.toArray.size = l.length := by rw [List.size_toArray]; exact hv0.len
  refine args_nil ⟨trivial, len_list (s := { s with heap := h₁, toks := _ }) hl1 (by rw [hlen]; exact io (by assumption) (by decide)) ?_⟩
  refine args_nil ⟨X.keeps k1, ?_⟩
  have er : (γ.call σ.next c.L m).ρ r = γ.ρ r := later_call.lρ (d := 0) (d' := 0) r (hS.thing (get_of hr)).1
  have ej : (γ.call σ.next c.L m).ρ j = γ.ρ j := later_call.lρ (d := 0) (d' := 0) j hjn
  rw [← er]
  refine wound_ok (n := vs0.toArray.size) hK hG1 (hS1.toks _) ⟨by have := hR.d; show c.dp + 1 + 3 * 0 + 8 < recursionLimit; exact rs (by assumption) (by decide), by have := hR.u; show c.un + 3 + 64 * 0 + 300 < cLine; exact rs (by assumption) (by decide)⟩ (r := r) hr (by rw [hlen]; exact h1) (by rw [hlen]; exact h2) fun k t s' hk S' => ?_
  have gj1 : ({ framed σ with env := [] } : St).get j = some (.list l) := get_of hj
  refine x24 (S'.listAt (listAt_obj gj1) (.obj (Nat.lt_succ_of_lt hjn))) fun a2 vs2 e2 hl2 hv2 _ => ?_
  replace e2 := ej ▸ e2
  cases e2
  have hlen2 : vs2.length = l.length := hv2.len
  have hk2 : (k : Int) < (vs2.length : Int) := by rw [hlen2, ← hlen]; exact Int.ofNat_lt.mpr hk
  refine one_item hl2 (Int.natCast_nonneg _) hk2 (by omega) fun i v hv => ?_
  refine x12 (VRs_get hv2 hv) fun x hx hxv => ?_
  have S2 := SR.leave (k := σ.next) S' rfl call_ρ call_fm (fun b hb => call_fm_ne hb) (Ev.later later_call) ab (hS.ou.later (d := 0) (d' := 0) later_call)
  have lt : Later γ { γ.call σ.next c.L m with fm := γ.fm } σ.next σ.doms.length (σ.next + 1) σ.doms.length := ⟨Nat.le_succ _, Nat.le_refl _, fun _ _ => rfl, (later_call (m := m) (d := 0)).lρ, fun _ h => h⟩
  exact ret x v s' _ hx S2 ⟨Nat.le_succ _, Nat.le_refl _, lt.lδ, lt.lρ, lt.lZ, rfl, rfl⟩ (VR.later (γ := γ.call σ.next c.L m) (γ' := { γ.call σ.next c.L m with fm := γ.fm }) ⟨Nat.le_refl _, Nat.le_refl _, fun _ _ => rfl, fun _ _ => rfl, fun _ h => h⟩ hxv)
theorem one_ok {out : Out SV} (hK : W.K = kn W.w.params) (hG : Good W c) (hS : W.SR c σ γ s) (hR : Room 1 c) {r j : Nat} {l : List SV} (hr : lkN r σ.heap = some .reel) (hj : lkN j σ.heap = some (.list l)) (h1 : 1 ≤ l.length) (h2 : l.length ≤ 99) (hgr : allGround l = true)
    (P : Post W c out σ γ (VRel W) Q E) (hm : (.ok (.var σ.doms.length), { σ with doms := σ.doms ++ [l], next := σ.next + 1 }) ∈ out) : wpAny (model W.prog W.w) c.A (call (.ref 1370) [.ref (γ.ρ r), .ref (γ.ρ j)]) Q E s := by
  refine one_core hK hG hS hR hr hj h1 h2 fun x v s' γ' hx S2 x2 hxv => ?_
  refine x02 (SR.drawn S2 hx hgr) fun S3 x3 => ?_
  refine P _ _ hm _ s' (x2.trans x3) S3 v ?_
  have e : (γ'.letter σ.doms.length x).δ σ.doms.length = x := if_pos rfl
  refine VR.var (γ := γ'.letter σ.doms.length x) (by simp) ?_
  rw [e]
  exact VR.later (γ := γ') (γ' := γ'.letter σ.doms.length x) ⟨Nat.le_refl _, by simp, fun i hi => if_neg (Nat.ne_of_lt hi), fun _ _ => rfl, fun _ h => h⟩ hxv
end
end Mine
end
section
open PySem PySem.W PyProof.Rows PySem.Calls
set_option tactic.hygienic false
set_option maxRecDepth 100000
namespace Mine
noncomputable def ListIn (h₀ : Heap) (q : Addr) (vs : List Value) : Prop := ∀ h : Heap, (∀ b o, h₀.get? b = some o → h.get? b = some o) → h.IsList q vs.toArray
theorem int_item {prog : Program} {w : World} {A : Around} {E : Value → Shared → Prop} {s : Shared} {value slice : PySem.Expr} {l : Addr} {vs : List Value} {u : Tok} {Q : Value → Shared → Prop}
    (hl : s.heap.IsList l vs.toArray) (h1 : 0 < vs.length) (hv : ∀ v ∈ vs, ∃ i t, v = .int i t) (h : ∀ i t, Q (.int i t) s)
    (hs : subscripted slice false (.ref l) (.int 0 u) = operate [.ref l, .int 0 u] (getItem (.ref l) (.int 0 u)) := by with_unfolding_all rfl) :
    wpAny (model prog w) A (subscriptTail value slice (.ref l) (.int 0 u)) Q E s := by
  cases vs with
  | nil => cases h1
  | cons v r =>
    refine x21 (hv _ (.head _)) fun i t er2 => ?_; subst er2
    exact my_item hl (by decide) (by decide) rfl (h i t) hs
local macro_rules | `(tactic| walk_at "eval Name") => `(tactic| (refine' nameX_B ?F ?X ?T ?e ?v ?n ?_ ?a ?b; (case F => k_asm); (case X => k_asm); (case T => assumption); (case a => rfl); (case b => rfl); (case e => kernel_rfl); (case v => boot_fast); (case n => decide); k_whole))
noncomputable def body153 : List Stmt := (fnAt 153 [] false).body
noncomputable abbrev sc153 : Scope := ⟨.function, [("script", .local), ("told", .local), ("size", .local), ("len", .globalImplicit), ("max", .globalImplicit)], false, false, []⟩
section
variable {prog : Program} {w : World} {p : Program} {loose : List Str} {mean : ExcName → Option Value} {mg mb : Str → Option Value} {dp un : Nat} {gd : Option (List Code)} {cn : Str} {a : Addr} {ccd : Value} {outer : List Env} {h₀ : Heap} {L : Addr} {s : Shared} {Q : Flow → Shared → Prop} {E : Value → Shared → Prop}
set_option maxHeartbeats 4000000 in
theorem reel_body {q : Addr} {vs : List Value} (hl : vs.length < 100) (hv : ∀ v ∈ vs, ∃ i t, v = .int i t) (T : TopRead p loose mg mb h₀)
   (X : (kn w.params).In h₀) (F : Fr h₀ L s.heap fun x => ([(("script" : Str), (.ref q : Value))] : List (Str × Value)).reverse.lookup x) (N : News h₀ L s.heap []) (hq : ListIn h₀ q vs)
   (ret : ∀ u x' y' tx' ty' n' h' tk' m' rest, 0 ≤ x' → 0 ≤ y' → y' < 2147483647 → Fr h₀ L h' m' → News h₀ L h' ((u, reelOb x' y' tx' ty' n') :: rest) → Q (.ret (.ref u)) { s with heap := h', toks := tk' }) :
   wpAny (model prog w) (ktrTop dp un gd cn sc153 L a ccd [] outer) (execs body153 (envX cn sc153 L a ccd [])) Q E s := by
  conv => arg 3; arg 1; whnf
  repeat' (first | (k_unfold; (try dsimp only)) | (k_end; wrow_close) | ((with_reducible show wpAny _ _ (subscriptTail _ _ (Value.ref _) (Value.int _ _)) _ _ _); with_unfolding_all refine' int_item ?k1 ?k2 ?k3 ?k4 ?k6; (case k1 => exact hq _ (Fr.keep (by assumption))); (case k2 => simp only [List.size_toArray] at *; omega); (case k3 => assumption); (case k6 => with_unfolding_all rfl); intro i9 t9; k_whole) | ((with_reducible show wpAny _ _ (PySem.call (Value.builtin "len") [Value.ref _]) _ _ _); k_dflt (refine' len_list ?l ?f ?_; (case l => exact hq _ (Fr.keep (by assumption))); (case f => simp only [List.size_toArray, List.length_cons]; omega)); k_whole) | walk1 | (dsimp only; walk1) | (leave1; try dsimp only))
  all_goals refine ret _ _ _ _ _ _ _ _ _ [] ?_ ?_ ?_ (by k_asm) (by k_asm)
  all_goals first | exact (fmod_in (by decide)).1 | exact (fmod_in (by decide)).2 | decide | (split <;> omega)
end
end Mine
end
section
open PySem PySem.W PyProof.Rows PySem.Calls
set_option tactic.hygienic false
namespace Mine
set_option maxRecDepth 100000
noncomputable abbrev rlFd : FuncData := fdOf (stAt 153) (Str.ofString "_law_reel") (.none) (.none) (.none) (.str (Str.ofString "law_xm0202_01") 2314) none (.ref 1355) (.none)
theorem rl_fd : rlFd = fnX "_law_reel" (Str.ofString "_law_reel") (cePs (stAt 153)) body153 sc153 [] .none .none .none (.str (Str.ofString "law_xm0202_01") 2314) none (.ref 1355) .none := by kernel_rfl
theorem rl_lk (P : Params) : (kn P).lookup 1356 = some ⟨.type "function", none, .func rlFd, #[]⟩ := by kernel_rfl
theorem rl_cd (P : Params) : codeIn (kn P) (.ref 1355) (Str.ofString "_law_reel") = true := by kernel_rfl
theorem rl_bd (P : Params) (S : Setting) (x0 : Value) : peek (kn P) S (PySem.bindArgs rlFd ⟨[x0], []⟩) = some ([(("script" : Str), x0)] : List (Str × Value)) := by kernel_rfl
section
variable {W : Wk} {c : Cx} {σ : St} {γ : G} {s : Shared} {Q : Value → Shared → Prop} {E : Value → Shared → Prop}
theorem reel_ok {out : Out SV} (hK : W.K = kn W.w.params) (hG : Good W c) (hS : W.SR c σ γ s) (hR : Room 0 c) {q : Addr} {vs : List Value} (hq : c.h₀.IsList q vs.toArray) (hv : ∀ v ∈ vs, ∃ i t, v = Value.int i t) (hl : vs.length < 100) (P : Post W c out σ γ (VRel W) Q E) (hm : (.ok (.obj σ.next), σ.new .reel) ∈ out) :
    wpAny (model W.prog W.w) c.A (call (.ref 1356) [.ref q]) Q E s := by
  refine x12 (hS.fr) fun m0 F0 Ev0 => ?_
  refine x14 (hS.nw) fun H hH N nd ap => ?_
  have X : (kn W.w.params).In s.heap := hK ▸ hS.K hG
  have hfd := rl_fd
  refine wpAny_call (codeAny_call_def (fd := rlFd) (body := body153) (binds := [(("script" : Str), .ref q)]) (by have := hR.d; show c.dp < recursionLimit; exact lo1 (by assumption)) (X _ _ (rl_lk _)) rfl (hG.T.nolimit.keeps F0.keep) (codeRec_of X (by rw [hfd]; exact rl_cd _)) (by rw [hfd]) (kp_binds X fun S => rl_bd _ S _)
    (by rw [hfd]; exact noCellB_ok (by rfl)) (fun x hx => by rw [hfd]; simp only [List.mem_cons, List.not_mem_nil, or_false] at hx; rcases hx with rfl <;> rfl) ?_ (by rw [hfd]) (by rw [hfd]) (by rw [hfd]))
  intro h₁ hns k1
  have henv : callEnv rlFd s.heap.objs.size 1356 = envX (Str.ofString "_law_reel") sc153 s.heap.objs.size 1356 (.ref 1355) [] := by rw [hfd]; rfl
  rw [henv]
  refine reel_body (prog := W.prog) (w := W.w) (dp := c.dp + 1) (un := c.un + 3) (gd := c.gd) (cn := Str.ofString "_law_reel") (a := 1356) (ccd := .ref 1355) (outer := c.env :: c.outer) (h₀ := s.heap) (L := s.heap.objs.size) (q := q) hl hv ((topRead_of hG.T).keeps F0.keep) X ⟨hns, k1, Nat.le_refl _⟩ (fun p hp => nomatch hp) (fun h kh => x12 hq fun o e r => ⟨o, kh _ _ (F0.keep _ _ e), r⟩) ?_
  intro u x' y' tx' ty' n' h' tk' m' rest a3 a4 a5 F' N'
  have hu := N' _ (.head _)
  have hold := F'.keep
  have fresh : ∀ p ∈ c.xt ++ (H ++ γ.Z), @Ne Nat p.1 u := fun p hp e => by
    have g := (N p hp).1
    replace g := hu.2.2 ▸ e ▸ g; exact ns g
  have huh : c.h₀.get? u = none := by
    cases e : c.h₀.get? u with
    | none => rfl
    | some o => replace hu := (F0.keep _ _ e) ▸ hu; cases hu.2.2
  have F2 : Fr c.h₀ c.L h' m0 := F0.keeps hold
  have S2 := SR.alloc (tk := tk') (a := u) (o := .reel) (l := [(u, reelOb x' y' tx' ty' n')]) hS Ev0 hH nd ap F2 (fun p hp => ?_) (.reel a3 a4 a5) (fun p hp q hq => by rw [List.mem_singleton.mp hq]; exact fresh p hp) (by simp)
  · have e : (γ.at σ.next u).ρ σ.next = u := if_pos rfl
    have h : VR W.K (γ.at σ.next u) (σ.next + 1) σ.doms.length (.obj σ.next) (.ref ((γ.at σ.next u).ρ σ.next)) := .obj (Nat.lt_succ_self _)
    replace h := e ▸ h
    exact P _ _ hm (γ.at σ.next u) _ ext_new S2 (.ref u) h
  · rcases List.mem_append.mp hp with hp | hp
    · rw [List.mem_singleton.mp hp]
      refine ⟨hu.1, fun e => ?_, huh⟩
      refine x32 F0.ns fun o es ep e0 _ => ?_
      have e : u = c.L := e
      replace e0 := hu.2.2 ▸ e.symm ▸ e0; exact ns e0
    · have := N p hp
      exact ⟨hold _ _ this.1, this.2⟩
end
end Mine
end
section
open PySem PySem.W PyProof.Rows PySem.Calls
set_option tactic.hygienic false
namespace Mine
/-! equality of what the walk writes -/
noncomputable def numOf : SV → Option (Nat × Nat)
  | .none => some (0, 0)
  | .bool b => some (1, match b with | true => 1 | false => 0)
  | .top a => some (2, a)
  | .obj j => some (3, j)
  | .var i => some (4, i)
  | .tree k => some (5, k)
  | _ => none
noncomputable def unNum (k n : Nat) : SV := match k with
  | 0 => .none
  | 1 => .bool (Nat.beq n 1)
  | 2 => .top n
  | 3 => .obj n
  | 4 => .var n
  | _ => .tree n
set_option tactic.hygienic true in
theorem numOf_some {a : SV} {p : Nat × Nat} (h : numOf a = some p) : a = unNum p.1 p.2 := by
  cases a <;> first | ((first | exact ns h | obtain rfl := ss h); rfl) | (rename_i b; cases b <;> (first | exact ns h | obtain rfl := ss h) <;> rfl) | cases h
mutual
noncomputable def svB (a b : SV) : Bool := match a with
  | .int x => match intOf b with | some y => iB x y | none => false
  | .str x => match strOf b with | some y => sB x y | none => false
  | .tup l => match tupOf b with | some r => svsB l r | none => false
  | a => match numOf a, numOf b with
    | some p, some q => match Nat.beq p.1 q.1 with | true => Nat.beq p.2 q.2 | false => false
    | _, _ => false
noncomputable def svsB : List SV → List SV → Bool
  | [], r => match r with | [] => true | _ => false
  | a :: l, r => match r with
    | [] => false
    | b :: r => match svB a b with | true => svsB l r | false => false
end
theorem numB_eq {a b : SV} (h : (match numOf a, numOf b with
    | some p, some q => match Nat.beq p.1 q.1 with | true => Nat.beq p.2 q.2 | false => false
    | _, _ => false) = true) : a = b := by
  refine oc (o := numOf a) (fun ha => ?_) fun p ha => ?_
  · rw [ha] at h; exact tf h
  · cases hb : numOf b with
    | none => rw [ha, hb] at h; exact tf h
    | some q =>
      rw [ha, hb] at h
      skip
      refine mk' h (fun e h => ?_) fun e h => ?_
      · exact tf h
      · rw [numOf_some ha, numOf_some hb, Nat.eq_of_beq_eq_true e, Nat.eq_of_beq_eq_true h]
mutual
theorem svB_eq : ∀ {a b : SV}, svB a b = true → a = b
  | .int x, b, h => by
    unfold svB at h
    refine oc (o := intOf b) (fun q => ?_) fun y q => ?_
    · simp only [q] at h; exact tf h
    · simp only [q] at h
      rw [iB_eq, beq_iff_eq] at h
      rw [intOf_some q, h]
  | .str x, b, h => by
    unfold svB at h
    refine oc (o := strOf b) (fun q => ?_) fun y q => ?_
    · simp only [q] at h; exact tf h
    · simp only [q] at h
      rw [strOf_some q, sB_iff.mp h]
  | .tup l, b, h => by
    unfold svB at h
    refine oc (o := tupOf b) (fun q => ?_) fun r q => ?_
    · simp only [q] at h; exact tf h
    · simp only [q] at h
      rw [tupOf_some q, svsB_eq h]
  | .none, b, h => numB_eq (by skip; exact h)
  | .bool _, b, h => numB_eq (by skip; exact h)
  | .top _, b, h => numB_eq (by skip; exact h)
  | .obj _, b, h => numB_eq (by skip; exact h)
  | .var _, b, h => numB_eq (by skip; exact h)
  | .tree _, b, h => numB_eq (by skip; exact h)
  | .fn _, b, h => numB_eq (by skip; exact h)
theorem svsB_eq : ∀ {l r : List SV}, svsB l r = true → l = r
  | [], [], _ => rfl
  | [], _ :: _, h => by skip; exact tf h
  | _ :: _, [], h => by skip; exact tf h
  | a :: l, b :: r, h => by
    unfold svsB at h
    refine bk (b := svB a b) (fun q => ?_) fun q => ?_
    · simp only [q] at h; exact tf h
    · simp only [q] at h; rw [svB_eq q, svsB_eq h]
end
noncomputable def kvsB : List (Str × SV) → List (Str × SV) → Bool
  | [], r => match r with | [] => true | _ => false
  | (x, a) :: l, r => match r with
    | [] => false
    | (y, b) :: r => match sB x y, svB a b with | true, true => kvsB l r | _, _ => false
theorem kvsB_eq : ∀ {l r : List (Str × SV)}, kvsB l r = true → l = r
  | [], [], _ => rfl
  | [], _ :: _, h => by exact tf h
  | _ :: _, [], h => by exact tf h
  | (x, a) :: l, (y, b) :: r, h => by
    unfold kvsB at h
    refine bk (b := sB x y) (fun q1 => ?_) fun q1 => ?_
    · simp only [q1] at h; exact tf h
    · cases q2 : svB a b with
      | false => simp only [q1, q2] at h; exact tf h
      | true => simp only [q1, q2] at h; rw [sB_iff.mp q1, svB_eq q2, kvsB_eq h]
noncomputable def moB (a b : MO) : Bool := match a with
  | .list l => match b with | .list r => svsB l r | _ => false
  | .dict l => match b with | .dict r => kvsB l r | _ => false
  | .inst C l => match b with | .inst D r => (match Nat.beq C D with | true => kvsB l r | false => false) | _ => false
  | .reel => match b with | .reel => true | _ => false
  | .tab x => match b with | .tab y => bB x y | _ => false
  | _ => false
set_option tactic.hygienic true in
theorem moB_eq {a b : MO} (h : moB a b = true) : a = b := by
  cases a <;> cases b <;> first
    | ((first | exact tf h | cases h); done)
    | rfl
    | exact congrArg MO.list (svsB_eq h)
    | exact congrArg MO.dict (kvsB_eq h)
    | (rename_i x y; cases x <;> cases y <;> first | rfl | exact tf h)
    | (rename_i C l D r
       have h : (match Nat.beq C D with | true => kvsB l r | false => false) = true := h
       refine mk' h (fun q h => ?_) fun q h => ?_
       · exact tf h
       · rw [Nat.eq_of_beq_eq_true q, kvsB_eq h])
noncomputable def heapB : List (Nat × MO) → List (Nat × MO) → Bool
  | [], r => match r with | [] => true | _ => false
  | (i, a) :: l, r => match r with
    | [] => false
    | (j, b) :: r => match Nat.beq i j, moB a b with | true, true => heapB l r | _, _ => false
theorem heapB_eq : ∀ {l r : List (Nat × MO)}, heapB l r = true → l = r
  | [], [], _ => rfl
  | [], _ :: _, h => by exact tf h
  | _ :: _, [], h => by exact tf h
  | (i, a) :: l, (j, b) :: r, h => by
    unfold heapB at h
    refine bk (b := Nat.beq i j) (fun q1 => ?_) fun q1 => ?_
    · simp only [q1] at h; exact tf h
    · cases q2 : moB a b with
      | false => simp only [q1, q2] at h; exact tf h
      | true => simp only [q1, q2] at h; rw [Nat.eq_of_beq_eq_true q1, moB_eq q2, heapB_eq h]
end Mine
end
section
open PySem PySem.W PyProof.Rows PySem.Calls
set_option tactic.hygienic false
namespace Mine
/-! values and things without a letter, their things below n -/
mutual
noncomputable def vB (n : Nat) : SV → Bool
  | .tup l => vsB n l
  | .obj j => Nat.blt j n
  | .var _ => false
  | _ => true
noncomputable def vsB (n : Nat) : List SV → Bool
  | [] => true
  | v :: r => match vB n v with | true => vsB n r | false => false
end
noncomputable def kvV (n : Nat) : List (Str × SV) → Bool
  | [] => true
  | (_, v) :: r => match vB n v with | true => kvV n r | false => false
noncomputable def moV (n : Nat) : MO → Bool
  | .list l => vsB n l
  | .dict l => kvV n l
  | .inst _ l => kvV n l
  | .reel => true
  | .tab _ => true
  | _ => false
noncomputable def heapV (n : Nat) : List (Nat × MO) → Bool
  | [] => true
  | (j, o) :: r => match Nat.blt j n, moV n o with | true, true => heapV n r | _, _ => false
noncomputable def sel (p : Nat → Bool) : List (Nat × MO) → List (Nat × MO)
  | [] => []
  | (j, o) :: r => match p j with | true => (j, o) :: sel p r | false => sel p r
mutual
theorem treeHas_vB {n : Nat} : ∀ {g : SV} {b : Bool}, treeHas g = some b → vB n g = true
  | .tup l, b, h => by
    skip
    unfold treeHas at h
    refine oc (o := treesHave l) (fun q => ?_) fun c q => ?_
    · simp only [q] at h; exact ns h
    · exact treesHave_vB q
  | .bool _, _, _ | .int _, _, _ | .str _, _, _ => rfl
  | .none, _, h | .top _, _, h | .obj _, _, h | .var _, _, h | .tree _, _, h | .fn _, _, h => by exact ns h
theorem treesHave_vB {n : Nat} : ∀ {l : List SV} {b : Bool}, treesHave l = some b → vsB n l = true
  | [], _, _ => rfl
  | v :: r, b, h => by
    unfold treesHave at h
    refine oc (o := treeHas v) (fun q1 => ?_) fun x q1 => ?_
    · simp only [q1] at h; exact ns h
    · cases q2 : treesHave r with
      | none => simp only [q1, q2] at h; exact ns h
      | some y =>
        unfold vsB
        rw [treeHas_vB q1, treesHave_vB q2]
end
section
variable {prog : Program} {w : World} {K : Frag} {γ γ' : G} {n d n' : Nat}
theorem VR.lower {v : SV} {x : Value} (h : VR K γ n d v x) : vB n' v = true → VR K γ n' 0 v x :=
  VR.rec (motive_1 := fun v x _ => vB n' v = true → VR K γ n' 0 v x) (motive_2 := fun l xs _ => vsB n' l = true → VRs K γ n' 0 l xs)
    (fun _ => .none) (fun b _ => .bool b) (fun i t _ => .int i t) (fun t q _ => .str t q) (fun t _ ih e => .tup t (ih e)) (fun a _ => .top a) (fun _ e => .obj (Nat.le_of_ble_eq_true e)) (fun _ _ _ e => by exact tf e)
    (fun a b c _ ih _ => .tree a b c (ih (treeHas_vB a))) (fun b _ => .fn b) (fun _ => .nil) (fun {v x l xs} _ _ h1 h2 e => by
      unfold vsB at e
      refine bk (b := vB n' v) (fun q => ?_) fun q => ?_
      · rw [q] at e; exact tf e
      · rw [q] at e; exact .cons (h1 q) (h2 e)) h
theorem VRs.lower {l : List SV} {xs : List Value} (h : VRs K γ n d l xs) : vsB n' l = true → VRs K γ n' 0 l xs :=
  VRs.ind K (P := fun l xs => vsB n' l = true → VRs K γ n' 0 l xs) (fun _ => .nil) (fun {x} {v} {l} {vs} h _ ih e => by
    skip
    refine mk' e (fun q e => ?_) fun q e => ?_
    · exact tf e
    · exact .cons (h.lower q) (ih e)) h
theorem kvV_lk : ∀ {l : List (Str × SV)} {x : Str} {v : SV}, kvV n l = true → lkS x l = some v → vB n v = true
  | [], _, _, _, e => by exact ns e
  | (y, u) :: r, x, v, h, e => by
    skip
    refine mk' h (fun q h => ?_) fun q h => ?_
    · exact tf h
    · unfold lkS at e
      refine bc (b := sB x y) (fun q2 => ?_) fun q2 => ?_
      · rw [q2] at e; obtain rfl := ss e; exact q
      · rw [q2] at e; exact kvV_lk h e
theorem KV.lower {l : List (Str × SV)} {xs : List (Str × Value)} (h : KV K γ n d l xs) : kvV n' l = true → KV K γ n' 0 l xs := by
  induction h with
  | nil => exact fun _ => .nil
  | @cons x v _ _ _ ok r _ ih =>
    intro e
    skip
    refine mk' e (fun q e => ?_) fun q e => ?_
    · exact tf e
    · exact .cons ok (r.lower q) (ih e)
theorem OR.lower {a : Addr} {o : MO} {l : List (Addr × Obj)} (h : OR prog w K γ n d a o l) (e : moV n' o = true) : OR prog w K γ n' 0 a o l := by
  cases h with
  | list h => exact .list (h.lower e)
  | dict h i s => exact .dict (h.lower e) i s
  | inst h f => exact .inst ⟨fun y v q => x12 (h.has y v q) fun v' e' r => ⟨v', e', r.lower (kvV_lk e q)⟩, h.no, h.len, h.nk⟩ f
  | tab q => exact .tab q
  | reel a b c => exact .reel a b c
  | _ => exact tf e
theorem HR.lower {hp : List (Nat × MO)} {H : List (Addr × Obj)} (h : HR prog w K γ n d hp H) : heapV n' hp = true → HR prog w K γ n' 0 hp H := by
  induction h with
  | nil => exact fun _ => .nil
  | @cons j o r l H _ ho _ ih =>
    intro e
    unfold heapV at e
    refine bk (b := Nat.blt j n') (fun q1 => ?_) fun q1 => ?_
    · rw [q1] at e; exact tf e
    · cases q2 : moV n' o with
      | false => rw [q1, q2] at e; exact tf e
      | true => rw [q1, q2] at e; exact .cons (Nat.le_of_ble_eq_true q1) (ho.lower q2) (ih e)
theorem HR.lt {hp : List (Nat × MO)} {H : List (Addr × Obj)} (h : HR prog w K γ n d hp H) : ∀ p ∈ hp, p.1 < n := by
  induction h with
  | nil => exact fun p hp => nomatch hp
  | cons hj _ _ ih => intro p hp; rcases List.mem_cons.mp hp with rfl | hp; exact hj; exact ih p hp
theorem HR.fr {d' : Nat} {hp : List (Nat × MO)} {H : List (Addr × Obj)} (h : HR prog w K γ n d hp H) : allFr hp = true → (∀ p ∈ hp, p.1 < n') → HR prog w K γ n' d' hp H := by
  induction h with
  | nil => exact fun _ _ => .nil
  | cons hj ho hr ih =>
    intro e lt
    cases ho with
    | frame h => exact .cons (lt _ (.head _)) (.frame h) (ih e fun p hp => lt p (.tail _ hp))
    | _ => exact tf e
theorem HR.sel (p : Nat → Bool) {hp : List (Nat × MO)} {H : List (Addr × Obj)} (h : HR prog w K γ n d hp H) : ∃ H', HR prog w K γ n d (sel p hp) H' ∧ H'.Sublist H := by
  induction h with
  | nil => exact ⟨[], .nil, .slnil⟩
  | @cons j o r l H hj ho _ ih =>
    refine x12 ih fun H' h1 h2 => ?_
    unfold Mine.sel
    cases q : p j with
    | true => exact ⟨l ++ H', .cons hj ho h1, h2.append_left l⟩
    | false => exact ⟨H', h1, h2.trans (List.sublist_append_right l H)⟩
theorem HR.part (p : Nat → Bool) {hp : List (Nat × MO)} {H : List (Addr × Obj)} (h : HR prog w K γ n d hp H) : ∃ H₁ H₂, HR prog w K γ n d (Mine.sel p hp) H₁ ∧ HR prog w K γ n d (Mine.sel (fun j => !p j) hp) H₂ ∧ H.Perm (H₁ ++ H₂) := by
  induction h with
  | nil => exact ⟨[], [], .nil, .nil, .refl _⟩
  | @cons j o r l H hj ho _ ih =>
    refine x23 ih fun H₁ H₂ h1 h2 h3 => ?_
    unfold Mine.sel
    cases q : p j with
    | true => exact ⟨l ++ H₁, H₂, .cons hj ho h1, h2, by rw [List.append_assoc]; exact h3.append_left l⟩
    | false =>
      refine ⟨H₁, l ++ H₂, h1, .cons hj ho h2, (h3.append_left l).trans ?_⟩
      rw [← List.append_assoc, ← List.append_assoc]
      exact (List.perm_append_comm).append_right H₂
theorem HR.unpart (p : Nat → Bool) : ∀ {hp : List (Nat × MO)} {H₁ H₂ : List (Addr × Obj)}, HR prog w K γ n d (Mine.sel p hp) H₁ → HR prog w K γ n d (Mine.sel (fun j => !p j) hp) H₂ → ∃ H, HR prog w K γ n d hp H ∧ H.Perm (H₁ ++ H₂)
  | [], _, _, .nil, .nil => ⟨[], .nil, .refl _⟩
  | (j, o) :: r, H₁, H₂, h1, h2 => by
    unfold Mine.sel at h1 h2
    refine bc (b := p j) (fun q => ?_) fun q => ?_
    · rw [q] at h1 h2
      cases h1 with
      | @cons _ _ _ l H hj ho hr =>
        refine x12 (HR.unpart p hr h2) fun H' h3 h4 => ?_
        exact ⟨l ++ H', .cons hj ho h3, by rw [List.append_assoc]; exact h4.append_left l⟩
    · rw [q] at h1 h2
      cases h2 with
      | @cons _ _ _ l H hj ho hr =>
        refine x12 (HR.unpart p h1 hr) fun H' h3 h4 => ?_
        refine ⟨l ++ H', .cons hj ho h3, (h4.append_left l).trans ?_⟩
        rw [← List.append_assoc, ← List.append_assoc]
        exact (List.perm_append_comm).append_right H
noncomputable def setT (t : Nat) : List (Nat × MO) → List (Nat × MO)
  | [] => []
  | (j, o) :: r => match Nat.beq j t with | true => (j, .tab false) :: setT t r | false => (j, o) :: setT t r
theorem sel_setT {p : Nat → Bool} {t : Nat} : ∀ (l : List (Nat × MO)), Mine.sel p (setT t l) = setT t (Mine.sel p l)
  | [] => rfl
  | (j, o) :: r => by
    have ih := sel_setT (p := p) (t := t) r
    cases hp : p j <;> cases hq : Nat.beq j t <;> simp only [Mine.sel, setT, hp, hq, ih]
theorem setT_no {p : Nat → Bool} {t : Nat} (ht : p t = false) : ∀ (l : List (Nat × MO)), setT t (Mine.sel p l) = Mine.sel p l
  | [] => rfl
  | (j, o) :: r => by
    have ih := setT_no ht r
    refine bk (b := p j) (fun hp => ?_) fun hp => ?_
    · simp only [Mine.sel, hp, ih]
    · have : Nat.beq j t = false := by
        cases q : Nat.beq j t with
        | false => rfl
        | true => rw [Nat.eq_of_beq_eq_true q, ht] at hp; exact tf hp
      simp only [Mine.sel, hp, setT, this, ih]
theorem heapV_setT {n t : Nat} : ∀ {l : List (Nat × MO)}, heapV n l = true → heapV n (setT t l) = true
  | [], h => h
  | (j, o) :: r, h => by
    unfold heapV at h
    refine bk (b := Nat.blt j n) (fun q1 => ?_) fun q1 => ?_
    · rw [q1] at h; exact tf h
    · cases q2 : moV n o with
      | false => rw [q1, q2] at h; exact tf h
      | true =>
        rw [q1, q2] at h
        unfold setT
        cases hq : Nat.beq j t with
        | true => unfold heapV; rw [q1]; exact heapV_setT h
        | false => unfold heapV; rw [q1, q2]; exact heapV_setT h
theorem sel_sel (p q : Nat → Bool) : ∀ (l : List (Nat × MO)), Mine.sel p (Mine.sel q l) = Mine.sel q (Mine.sel p l)
  | [] => rfl
  | (j, o) :: r => by
    have ih := sel_sel p q r
    cases hp : p j <;> cases hq : q j <;> simp only [Mine.sel, hp, hq, ih]
theorem sel_and (p q : Nat → Bool) : ∀ (l : List (Nat × MO)), Mine.sel (fun j => p j && q j) l = Mine.sel q (Mine.sel p l)
  | [] => rfl
  | (j, o) :: r => by
    have ih := sel_and p q r
    cases hp : p j <;> cases hq : q j <;> simp only [Mine.sel, hp, hq, ih, Bool.and_true, Bool.and_false, Bool.false_and, Bool.true_and]
end
end Mine
end
section
open PySem PySem.W PyProof.Rows PySem.Calls
set_option tactic.hygienic false
namespace Mine
section
variable {W : Wk} {c : Cx} {σ τ : St} {γ γ' : G} {s s' : Shared} {p q : Nat → Bool} {hW : List (Nat × MO)} {N k : Nat} {its it2 : List (Addr × Obj)} {m : Str → Option Value}
theorem OR.nt {n d : Nat} {a : Addr} {o : MO} {l : List (Addr × Obj)} (h : OR W.prog W.w W.K γ n d a o l) : ∀ x ∈ l, NT x.2 := by
  have dt : ∀ {o : Obj} {es ep}, o.data = .dict es ep → NT o := fun e => nt_of fun vs k => .inl (by rw [e]; exact fun q => by cases q)
  have ft : ∀ {o : Obj} {vs}, o.data = .fields vs → NT o := fun e => nt_of fun vs k => .inl (by rw [e]; exact fun q => by cases q)
  have one : ∀ {a : Addr} {o : Obj}, NT o → ∀ x ∈ [(a, o)], NT x.2 := fun h x hx => by rw [List.mem_singleton.mp hx]; exact h
  have two : ∀ {a b : Addr} {o q : Obj}, NT o → NT q → ∀ x ∈ [(a, o), (b, q)], NT x.2 := fun h i x hx => by
    rcases List.mem_cons.mp hx with rfl | hx
    · exact h
    · exact one i x hx
  cases h with
  | list _ => exact one nt_list
  | dict _ i _ => refine x22 i fun es ep hx _ => ?_; exact one (nt_exact hx)
  | tdict _ i _ => exact one (nt_exact i.ex)
  | inst _ _ => exact two (nt_of fun vs k => .inl fun q => by cases q) nt_dict
  | cell e _ => exact one (nt_of fun vs k => .inl (by rw [e]; exact fun q => by cases q))
  | tab _ => exact one (ft rfl)
  | lam _ _ e _ => exact two (nt_of fun vs k => .inl fun q => by cases q) (ft e)
  | hole => exact fun x hx => nomatch hx
  | frame e => refine x22 e fun _ _ e _ => ?_; exact one (dt e)
  | view _ => exact one (ft rfl)
  | reel _ _ _ => exact one nt_list
theorem HR.nt {n d : Nat} {hp : List (Nat × MO)} {H : List (Addr × Obj)} (h : HR W.prog W.w W.K γ n d hp H) : ∀ x ∈ H, NT x.2 := by
  induction h with
  | nil => exact fun x hx => nomatch hx
  | cons _ ho _ ih => intro x hx; rcases List.mem_append.mp hx with hx | hx; exact ho.nt x hx; exact ih x hx
noncomputable abbrev Cx.nar (c : Cx) (its : List (Addr × Obj)) (m : Str → Option Value) : Cx := { c with xt := its ++ c.xt, mf := some m }
structure Nar (W : Wk) (c : Cx) (σ : St) (γ : G) (p : Nat → Bool) (its : List (Addr × Obj)) (m : Str → Option Value) : Prop where
  ev : EnvM W.K c γ σ.next σ.doms.length σ.env m
  hr : HR W.prog W.w W.K γ σ.next σ.doms.length (sel (fun j => !p j) σ.heap) its
  nd : (its.map (·.1)).Nodup
  ap : ∀ r ∈ its, ∀ q ∈ c.xt, @Ne Nat q.1 r.1
  lt : ∀ r ∈ σ.froz, r.1 < σ.next
  dm : ∀ i l, getAt i σ.doms = some l → γ.δ i ∈ l ∧ ∀ x ∈ l, ground x = true
  ou : Ou c.outer c.tabs σ.next σ.froz γ
theorem SR.narrow (S : W.SR c σ γ s) (e : sel p σ.heap = hW) (hv : heapV k hW = true) (hk : k ≤ N) (hn : σ.next ≤ N) :
    ∃ its m, Nar W c σ γ p its m ∧ W.SR (c.nar its m) ⟨[], hW, N, [], σ.froz⟩ γ s := by
  refine x12 (S.fr) fun m F Ev => ?_
  refine x14 (S.nw) fun H hH NN nd ap => ?_
  (refine x23 hH.append fun Ha Hf er2 h1 h2 => ?_; subst er2)
  refine x23 (h1.part p) fun H₁ H₂ h3 h4 h5 => ?_
  rw [e] at h3
  have hlt : ∀ r ∈ σ.froz, r.1 < σ.next := h2.lt
  have nd' : ((H₁ ++ H₂ ++ Hf).map (·.1)).Nodup := ((h5.append_right Hf).map _).nodup_iff.mp nd
  rw [List.map_append, List.nodup_append] at nd'
  refine x03 nd' fun ndA ndF dA => ?_
  rw [List.map_append, List.nodup_append] at ndA
  refine x03 ndA fun nd1 nd2 d12 => ?_
  have mA : ∀ r, r ∈ Ha ↔ r ∈ H₁ ∨ r ∈ H₂ := fun r => by rw [h5.mem_iff, List.mem_append]
  have lt : Later γ γ σ.next 0 N 0 := ⟨hn, Nat.le_refl _, fun _ _ => rfl, fun _ _ => rfl, fun _ h => h⟩
  have lk : Later γ γ k 0 N 0 := ⟨hk, Nat.le_refl _, fun _ _ => rfl, fun _ _ => rfl, fun _ h => h⟩
  refine ⟨H₂, m, ⟨Ev, h4, nd2, fun r hr q hq => ap q hq r (List.mem_append.mpr (.inl (List.mem_append.mpr (.inl ((mA r).mpr (.inr hr)))))), hlt, S.dm, S.ou⟩, ⟨S.sm, ⟨m, F, fun x v e => (by exact ns e), fun mf e => by obtain rfl := ss e; rfl⟩, ⟨H₁ ++ Hf, ?_, fun r hr => NN r ?_, ?_, fun q hq r hr => ?_⟩, S.tz, fun i l e => ?_, S.ou.later (d := 0) (d' := 0) lt⟩⟩
  · exact ((h3.lower hv).later lk).both (h2.fr (d' := 0) S.ou.2.2 fun r hr => Nat.lt_of_lt_of_le (hlt r hr) hn)
  · simp only [List.mem_append] at hr ⊢
    rcases hr with (hr | hr) | (hr | hr) | hr
    · exact .inr (.inl (.inl ((mA r).mpr (.inr hr))))
    · exact .inl hr
    · exact .inr (.inl (.inl ((mA r).mpr (.inl hr))))
    · exact .inr (.inl (.inr hr))
    · exact .inr (.inr hr)
  · rw [List.map_append, List.nodup_append]
    exact ⟨nd1, ndF, fun a ha b hb => dA a (by rw [List.map_append]; exact List.mem_append.mpr (.inl ha)) b hb⟩
  · have hr' : r ∈ (Ha ++ Hf) ++ γ.Z ∧ ∀ x ∈ H₂, @Ne Nat x.1 r.1 := by
      simp only [List.mem_append] at hr ⊢
      rcases hr with (hr | hr) | hr
      · exact ⟨.inl (.inl ((mA r).mpr (.inl hr))), fun x hx => Ne.symm (d12 _ (List.mem_map_of_mem hr) _ (List.mem_map_of_mem hx))⟩
      · exact ⟨.inl (.inr hr), fun x hx => dA _ (by rw [List.map_append]; exact List.mem_append.mpr (.inr (List.mem_map_of_mem hx))) _ (List.mem_map_of_mem hr)⟩
      · refine ⟨.inr hr, fun x hx e => ?_⟩
        have g1 := (NN x (by simp only [List.mem_append]; exact .inr (.inl (.inl ((mA x).mpr (.inr hx)))))).1
        have g2 := (NN r (by simp only [List.mem_append]; exact .inr (.inr hr))).1
        refine x21 (S.tz r hr) fun vs k ht => ?_
        have e : x.1 = r.1 := e
        rw [e, g2, ht] at g1
        exact h4.nt x hx vs k (Option.some.inj g1).symm
    rcases List.mem_append.mp hq with hq | hq
    · exact hr'.2 q hq
    · exact ap q hq r hr'.1
  · cases i <;> exact ns e
theorem SR.widen (R : Nar W c σ γ p its m) (e : sel p σ.heap = hW) (hv : heapV k hW = true) (hk : k ≤ σ.next)
    {t : Nat} (ht : p t = true) (x : Ext ⟨[], hW, N, [], σ.froz⟩ γ γ' τ) (ex : sel (fun j => p j && q j) τ.heap = setT t (sel q hW)) (S : W.SR ((c.nar its m).more it2) τ γ' s') (ap2 : ∀ r ∈ it2, ∀ y ∈ (c.nar its m).xt, @Ne Nat y.1 r.1) (hn : σ.next ≤ N) :
    Ext σ γ { γ' with δ := γ.δ } { σ with heap := setT t (sel q σ.heap) } ∧ W.SR (c.more it2) { σ with heap := setT t (sel q σ.heap) } { γ' with δ := γ.δ } s' := by
  have l1 : Later γ { γ' with δ := γ.δ } σ.next σ.doms.length σ.next σ.doms.length := ⟨Nat.le_refl _, Nat.le_refl _, fun _ _ => rfl, fun j h => x.ρ j (Nat.lt_of_lt_of_le h hn), x.Z⟩
  have l2 : Later γ' { γ' with δ := γ.δ } k 0 σ.next σ.doms.length := ⟨hk, Nat.zero_le _, fun i h => absurd h (Nat.not_lt_zero _), fun _ _ => rfl, fun _ h => h⟩
  refine ⟨⟨Nat.le_refl _, Nat.le_refl _, fun _ _ => rfl, l1.lρ, x.Z, rfl, x.fm⟩, ?_⟩
  refine x12 (S.fr) fun m' F Ev => ?_
  obtain rfl : m' = m := Ev.f m rfl
  refine x14 (S.nw) fun H hH NN nd ap => ?_
  rw [x.fz] at hH
  (refine x23 hH.append fun Ha Hf er2 h1 h2 => ?_; subst er2)
  refine x12 (h1.sel fun j => p j && q j) fun H₁ h3 s1 => ?_
  rw [ex] at h3
  have hv2 : heapV k (sel q hW) = true := by
    clear x hH h1 h2 ex h3 e S
    induction hW with
    | nil => rfl
    | cons a r ih =>
      obtain ⟨j, o⟩ := a
      unfold heapV at hv
      refine bk (b := Nat.blt j k) (fun q1 => ?_) fun q1 => ?_
      · rw [q1] at hv; exact tf hv
      · cases q2 : moV k o with
        | false => rw [q1, q2] at hv; exact tf hv
        | true =>
          rw [q1, q2] at hv
          unfold sel
          cases hq : q j with
          | true => unfold heapV; rw [q1, q2]; exact ih hv
          | false => exact ih hv
  refine x12 (R.hr.sel q) fun H₂ h4 s2 => ?_
  have h4' : HR W.prog W.w W.K γ σ.next σ.doms.length (sel (fun j => !p j) (setT t (sel q σ.heap))) H₂ := by
    rw [sel_setT, setT_no (show (!p t) = false by rw [ht]; rfl), sel_sel]; exact h4
  have h3' : HR W.prog W.w W.K { γ' with δ := γ.δ } σ.next σ.doms.length (sel p (setT t (sel q σ.heap))) H₁ := by
    rw [sel_setT, sel_sel, e]; exact (h3.lower (heapV_setT hv2)).later l2
  refine x12 (HR.unpart p h3' (h4'.later l1 x.fm)) fun H' h5 pm => ?_
  have h6 : HR W.prog W.w W.K { γ' with δ := γ.δ } σ.next σ.doms.length σ.froz Hf := HR.later (γ := γ') (γ' := { γ' with δ := γ.δ }) (d := 0) (n := σ.next) (n' := σ.next) (d' := σ.doms.length) ⟨Nat.le_refl _, Nat.zero_le _, fun i h => absurd h (Nat.not_lt_zero _), fun _ _ => rfl, fun _ h => h⟩ (h2.fr (d' := 0) R.ou.2.2 R.lt)
  have mH : ∀ r, r ∈ H' → r ∈ Ha ∨ r ∈ its := fun r hr => by
    refine Or.elim (List.mem_append.mp (pm.mem_iff.mp hr)) (fun h => ?_) fun h => ?_
    · exact .inl (s1.subset h)
    · exact .inr (s2.subset h)
  rw [List.map_append, List.nodup_append] at nd
  refine x03 nd fun ndA ndF dA => ?_
  refine ⟨S.sm, ⟨m', F, ⟨(R.ev.later l1).r, (R.ev.later l1).f⟩⟩, ⟨H' ++ Hf, h5.both h6, fun r hr => NN r ?_, ?_, fun y hy r hr => ?_⟩, S.tz, R.dm, R.ou.later (d := 0) (d' := 0) ⟨Nat.le_refl _, Nat.le_refl _, fun i h => absurd h (Nat.not_lt_zero _), l1.lρ, x.Z⟩⟩
  · simp only [List.mem_append] at hr ⊢
    rcases hr with (hr | hr) | (hr | hr) | hr
    · exact .inl (.inl hr)
    · exact .inl (.inr (.inr hr))
    · refine Or.elim (mH r hr) (fun h => ?_) fun h => ?_
      · exact .inr (.inl (.inl h))
      · exact .inl (.inr (.inl h))
    · exact .inr (.inl (.inr hr))
    · exact .inr (.inr hr)
  · rw [List.map_append, List.nodup_append]
    refine ⟨(pm.map _).nodup_iff.mpr ?_, ndF, fun a ha b hb => ?_⟩
    · rw [List.map_append, List.nodup_append]
      refine ⟨(s1.map _).nodup ndA, (s2.map _).nodup R.nd, fun a ha b hb => ?_⟩
      refine x12 (List.mem_map.mp ha) fun u hu er2 => ?_; subst er2
      refine x12 (List.mem_map.mp hb) fun v hv er2 => ?_; subst er2
      exact Ne.symm (ap v (by simp only [List.mem_append]; exact .inr (.inl (s2.subset hv))) u (by simp only [List.mem_append]; exact .inl (.inl (s1.subset hu))))
    · refine x12 (List.mem_map.mp ha) fun u hu er2 => ?_; subst er2
      refine x12 (List.mem_map.mp hb) fun v hv er2 => ?_; subst er2
      rcases mH u hu with h | h
      · exact dA _ (List.mem_map_of_mem h) _ (List.mem_map_of_mem hv)
      · exact ap u (by simp only [List.mem_append]; exact .inr (.inl h)) v (by simp only [List.mem_append]; exact .inl (.inr hv))
  · have hy' : y ∈ it2 ∨ y ∈ c.xt := List.mem_append.mp hy
    simp only [List.mem_append] at hr
    have old : ∀ r, (r ∈ Ha ∨ r ∈ Hf) ∨ r ∈ γ'.Z → @Ne Nat y.1 r.1 := fun r hr => ap y (by
      simp only [List.mem_append]
      refine Or.elim hy' (fun h => ?_) fun h => ?_
      · exact .inl h
      · exact .inr (.inr h)) r (by simp only [List.mem_append]; exact hr)
    rcases hr with (hr | hr) | hr
    · refine Or.elim (mH r hr) (fun h => ?_) fun h => ?_
      · exact old r (.inl (.inl h))
      · refine Or.elim hy' (fun hy => ?_) fun hy => ?_
        · exact Ne.symm (ap2 y hy r (List.mem_append.mpr (.inl h)))
        · exact R.ap r h y hy
    · exact old r (.inl (.inr hr))
    · exact old r (.inr hr)
end
end Mine
end
section
open PySem PySem.W PyProof.Rows PySem.Calls
set_option tactic.hygienic false
namespace Mine
/-! a call that has been gone through once, at a written state -/
noncomputable def okIn (v : SV) : List (Res SV) → Bool
  | [] => false
  | .ok x :: r => match svB x v with | true => true | false => okIn v r
  | .ex _ _ :: r => okIn v r
noncomputable def exIn (c : Nat) (v : SV) : List (Res SV) → Bool
  | [] => false
  | .ok _ :: r => exIn c v r
  | .ex b x :: r => match Nat.beq b c, svB x v with | true, true => true | _, _ => exIn c v r
theorem okIn_mem {v : SV} : ∀ {l : List (Res SV)}, okIn v l = true → .ok v ∈ l
  | .ok x :: r, h => by
    unfold okIn at h
    refine bc (b := svB x v) (fun q => ?_) fun q => ?_
    · rw [svB_eq q]; exact .head _
    · rw [q] at h; exact .tail _ (okIn_mem h)
  | .ex _ _ :: r, h => .tail _ (okIn_mem (l := r) h)
theorem exIn_mem {c : Nat} {v : SV} : ∀ {l : List (Res SV)}, exIn c v l = true → .ex c v ∈ l
  | .ok _ :: r, h => .tail _ (exIn_mem (l := r) h)
  | .ex b x :: r, h => by
    unfold exIn at h
    refine bk (b := Nat.beq b c) (fun q1 => ?_) fun q1 => ?_
    · rw [q1] at h; exact .tail _ (exIn_mem h)
    · cases q2 : svB x v with
      | true => rw [svB_eq q2, Nat.eq_of_beq_eq_true q1]; exact .head _
      | false => rw [q1, q2] at h; exact .tail _ (exIn_mem h)
noncomputable def resOK (ab : St → SV → Option SV) (k : Nat) (res : List (Res SV)) (r : Res SV) (τ : St) : Bool := match r with
  | .ok v => match ab τ v with
    | some v' => okIn v' res
    | none => false
  | .ex c v => match vB k v with
    | true => exIn c v res
    | false => false
noncomputable def outOK (ab : St → SV → Option SV) (k : Nat) (pq : Nat → Bool) (hq : List (Nat × MO)) (res : List (Res SV)) : Out SV → Bool
  | [] => true
  | (r, τ) :: l => match resOK ab k res r τ, heapB (sel pq τ.heap) hq with
    | true, true => outOK ab k pq hq res l
    | _, _ => false
noncomputable def runOK (ab : St → SV → Option SV) (k : Nat) (pq : Nat → Bool) (hq : List (Nat × MO)) (res : List (Res SV)) (m : R SV) : Bool := match m with
  | some o => outOK ab k pq hq res o
  | none => false
theorem outOK_mem {ab : St → SV → Option SV} {k : Nat} {pq : Nat → Bool} {hq : List (Nat × MO)} {res : List (Res SV)} : ∀ {o : Out SV}, outOK ab k pq hq res o = true → ∀ r τ, (r, τ) ∈ o → resOK ab k res r τ = true ∧ sel pq τ.heap = hq
  | (r, τ) :: l, h, r', τ', hm => by
    unfold outOK at h
    refine bk (b := resOK ab k res r τ) (fun q1 => ?_) fun q1 => ?_
    · rw [q1] at h; exact tf h
    · cases q2 : heapB (sel pq τ.heap) hq with
      | false => rw [q1, q2] at h; exact tf h
      | true =>
        rw [q1, q2] at h
        refine Or.elim (List.mem_cons.mp hm) (fun e => ?_) fun hm => ?_
        · cases e; exact ⟨q1, heapB_eq q2⟩
        · exact outOK_mem h r' τ' hm
noncomputable def summR (p q : Nat → Bool) (t : Nat) (hW : List (Nat × MO)) (k N : Nat) (res : List (Res SV)) (σ : St) : R SV := match Nat.ble k σ.next, Nat.ble σ.next N, heapB (sel p σ.heap) hW with
  | true, true, true => some (res.map fun r => (r, { σ with heap := setT t (sel q σ.heap) }))
  | _, _, _ => none
section
variable {W : Wk} {n : Nat} {S : Sems} {c : Cx} {σ : St} {γ : G} {s : Shared}
noncomputable def AbOK (W : Wk) (k : Nat) (ab : St → SV → Option SV) : Prop := ∀ c τ γ s v v' x, W.SR c τ γ s → VR W.K γ τ.next τ.doms.length v x → ab τ v = some v' → VR W.K γ k 0 v' x
noncomputable def plainAb (k : Nat) (τ : St) (v : SV) : Option SV := match vB k v with
  | true => some v
  | false => none
theorem plainAb_ok {k : Nat} : AbOK W k (plainAb k) := fun c τ γ s v v' x _ hv e => by
  skip
  refine mc e (fun q e => ?_) fun q e => ?_
  · obtain rfl := ss e; exact hv.lower q
  · exact ns e
theorem summR_spec {p q : Nat → Bool} {t : Nat} {hW : List (Nat × MO)} {k N : Nat} {res : List (Res SV)} {o : Out SV} (h : summR p q t hW k N res σ = some o) :
    k ≤ σ.next ∧ σ.next ≤ N ∧ sel p σ.heap = hW ∧ o = res.map fun r => (r, { σ with heap := setT t (sel q σ.heap) }) := by
  unfold summR at h
  refine bk (b := Nat.ble k σ.next) (fun q2 => ?_) fun q2 => ?_
  · rw [q2] at h; exact ns h
  · cases q3 : Nat.ble σ.next N with
    | false => rw [q2, q3] at h; exact ns h
    | true =>
      refine bk (b := heapB (sel p σ.heap) hW) (fun q4 => ?_) fun q4 => ?_
      · rw [q2, q3, q4] at h; exact ns h
      · rw [q2, q3, q4] at h
        exact ⟨Nat.le_of_ble_eq_true q2, Nat.le_of_ble_eq_true q3, heapB_eq q4, (Option.some.inj h).symm⟩
theorem summ_ok (IH : SemsOK W n S) {a k N t : Nat} {p q : Nat → Bool} {hW : List (Nat × MO)} {args : List SV} {args' : List Value} {res : List (Res SV)} {ab : St → SV → Option SV} {o : Out SV}
    (hev : ∀ fz, runOK ab k (fun j => p j && q j) (setT t (sel q hW)) res (S.cl (.top a) args ⟨[], hW, N, [], fz⟩) = true) (hv : heapV k hW = true) (hkN : k ≤ N) (hab : AbOK W k ab) (ht : p t = true) (va : vsB k args = true)
    (h : summR p q t hW k N res σ = some o) (hG : Good W c) (hS : W.SR c σ γ s) (hR : Room n c) (ha : VRs W.K γ σ.next σ.doms.length args args') : Desc W c σ γ s (call (.ref a) args') (VRel W) o := by
  intro Q E P
  (refine x04 (summR_spec h) fun h1 h2 e er3 => ?_; subst er3)
  refine x22 (hS.narrow e hv hkN h2) fun its m R S1 => ?_
  have hr := hev σ.froz
  refine oc (o := S.cl (.top a) args ⟨[], hW, N, [], σ.froz⟩) (fun e1 => ?_) fun out e1 => ?_
  · rw [e1] at hr; exact tf hr
  · rw [e1] at hr
    have hG1 : Good W (c.nar its m) := ⟨hG.X, hG.T, hG.k, hG.tb, hG.ex⟩
    have ha1 : VRs W.K γ N 0 args args' := VRs.later (γ := γ) (n := k) (d := 0) ⟨hkN, Nat.le_refl _, fun _ _ => rfl, fun _ _ => rfl, fun _ h => h⟩ (ha.lower va)
    refine IH.cl (.top a) args _ out e1 (c.nar its m) γ s (.ref a) args' hG1 S1 ⟨hR.d, hR.u⟩ (.top a) ha1 Q E fun r τ hm γ' s' x S' => ?_
    refine x02 (outOK_mem hr r τ hm) fun g1 g2 => ?_
    have up : ∀ {v x}, VR W.K γ' k 0 v x → VR W.K { γ' with δ := γ.δ } σ.next σ.doms.length v x := fun h => VR.later (γ := γ') (γ' := { γ' with δ := γ.δ }) ⟨h1, Nat.zero_le _, fun i h => absurd h (Nat.not_lt_zero _), fun _ _ => rfl, fun _ h => h⟩ h
    cases r with
    | ok v =>
      intro b hb
      refine x02 (SR.widen (it2 := []) R e hv h1 ht x g2 S' (fun r hr => nomatch hr) h2) fun y S2 => ?_
      unfold resOK at g1
      cases q1 : ab τ v with
      | none => simp only [q1] at g1; exact tf g1
      | some v' =>
        simp only [q1] at g1
        exact P (.ok v') _ (List.mem_map.mpr ⟨_, okIn_mem g1, rfl⟩) _ s' y S2 b (up (hab _ _ _ _ _ _ _ S' hb q1))
    | ex cc v =>
      rintro e' ⟨it2, flt, S2, ap2⟩
      refine x02 (SR.widen (it2 := it2) R e hv h1 ht x g2 S2 ap2 h2) fun y S3 => ?_
      unfold resOK at g1
      refine bk (b := vB k v) (fun q1 => ?_) fun q1 => ?_
      · simp only [q1] at g1; exact tf g1
      · simp only [q1] at g1
        have S0 : W.SR c { σ with heap := setT t (sel q σ.heap) } { γ' with δ := γ.δ } s' := S3.less
        refine P (.ex cc v) _ (List.mem_map.mpr ⟨_, exIn_mem g1, rfl⟩) _ s' y S0 e' ⟨it2, ?_, S3, fun r hr y hy => ap2 r hr y (List.mem_append.mpr (.inr hy))⟩
        refine y7_8 flt fun ea oe vs dx es k' v' f1 f2 f3 f4 f5 f6 f7 f8 => ?_
        exact ⟨ea, oe, vs, dx, es, k', v', f1, f2, f3, f4, f5, up (f6.lower q1), f7, f8⟩
noncomputable def summC (C : Cfg) (f : Nat → List SV → St → Option (R SV)) : Cfg := { C with prim := fun a args σ => match f a args σ with | some m => some m | none => C.prim a args σ }
theorem triedAll_more {C : Cfg} {f : Nat → List SV → St → Option (R SV)} : ∀ (o : Out SV), triedAll (summC C f) o = triedAll C o
  | [] => rfl
  | (.ok v, τ) :: r => by unfold triedAll; rw [triedAll_more r]
  | (.ex c v, τ) :: r => by unfold triedAll; rw [triedAll_more r]; rfl
theorem triedR_more {C : Cfg} {f : Nat → List SV → St → Option (R SV)} {S : Sems} {args : List SV} {σ : St} : triedR (summC C f) S args σ = triedR C S args σ := by
  cases args with
  | nil => rfl
  | cons g r =>
    cases r with
    | cons _ _ => rfl
    | nil =>
      show Option.bind (S.cl g [] _) (fun l => backR σ.env σ.froz (triedAll (summC C f) l)) = Option.bind (S.cl g [] _) fun l => backR σ.env σ.froz (triedAll C l)
      congr 1
      funext l
      rw [triedAll_more l]
theorem CfgOK.more {C : Cfg} {r r' : Nat} {f : Nat → List SV → St → Option (R SV)} (CO : CfgOK W C r) (hr : r ≤ r') (hk : ∀ a args σ m, f a args σ = some m → keepIn W.K (.ref a) = true)
    (hp : ∀ a args σ o, f a args σ = some (some o) → ∀ c γ s args', Good W c → W.SR c σ γ s → Room r' c → VRs W.K γ σ.next σ.doms.length args args' → Desc W c σ γ s (call (.ref a) args') (VRel W) o) : CfgOK W (summC C f) r' :=
  { glob := CO.glob, meth := CO.meth, set := CO.set, raise := CO.raise, td := CO.td, fns := CO.fns, cls := fun a cr h => ⟨⟨(CO.cls a cr h).1.make, (CO.cls a cr h).1.init, (CO.cls a cr h).1.fn, (CO.cls a cr h).1.fnr⟩, (CO.cls a cr h).2⟩
    pkeep := fun a args σ m h => by
      unfold summC at h
      dsimp only at h
      refine ok' (o := f a args σ) (fun x q => ?_) fun q => ?_
      · exact hk a args σ x q
      · rw [q] at h; exact CO.pkeep a args σ m h
    prim := fun a args σ o h c γ s args' hG hS hR ha => by
      unfold summC at h
      dsimp only at h
      refine ok' (o := f a args σ) (fun x q => ?_) fun q => ?_
      · rw [q] at h; obtain rfl := Option.some.inj h; exact hp a args σ o q c γ s args' hG hS hR ha
      · rw [q] at h; exact CO.prim a args σ o h c γ s args' hG hS (hR.le hr) ha
    tkeep := CO.tkeep
    tried := fun n S IH args σ o h => CO.tried n S IH args σ o (by rw [← triedR_more (f := f)]; exact h) }
end
end Mine
end
section
open PySem PySem.W PyProof.Rows PySem.Calls
set_option tactic.hygienic false
set_option maxRecDepth 100000
namespace Mine
/-! the calls that the evaluator knows, and the text's tables -/
noncomputable def isReel (o : Option MO) : Bool := match o with
  | some .reel => true
  | _ => false
theorem isReel_some {o : Option MO} (h : isReel o = true) : o = some .reel := by
  cases o with
  | none => exact tf h
  | some m => cases m <;> first | rfl | exact tf h
noncomputable def woundR (args : List SV) (σ : St) : R SV := Option.bind (pair args) fun p => Option.bind (objOf p.1) fun r => Option.bind (natOf p.2) fun n => guardO (isReel (lkN r σ.heap)) <| guardO (Nat.ble 1 n) <| guardO (Nat.ble n 99) <| some ((List.range n).map fun k => (.ok (.int (.ofNat k)), σ))
noncomputable def oneL (l : List SV) (σ : St) : R SV := guardO (Nat.ble 1 l.length) <| guardO (Nat.ble l.length 99) <| match allGround l with
  | true => some [(.ok (.var σ.doms.length), { σ with doms := σ.doms ++ [l], next := σ.next + 1 })]
  | false => some (l.map fun v => (.ok v, { σ with next := σ.next + 1 }))
noncomputable def oneLetR (args : List SV) (σ : St) : R SV := Option.bind (pair args) fun p => Option.bind (objOf p.1) fun r => Option.bind (objOf p.2) fun j => guardO (isReel (lkN r σ.heap)) <| Option.bind (asList (lkN j σ.heap)) fun l => oneL l σ
noncomputable def reelR (args : List SV) (σ : St) : R SV := Option.bind (single args) fun v => Option.bind (objOf v) fun j => guardO (Nat.beq j 3) <| newR .reel σ
noncomputable def treeOf : SV → Option Nat
  | .tree k => some k
  | _ => none
noncomputable def callsR (args : List SV) (σ : St) : R SV := Option.bind (single args) fun v => Option.bind (treeOf v) fun k => guardO (Nat.ble k 1000000) <| okR (.bool (oddB k)) σ
noncomputable def primT : List (Nat × (List SV → St → R SV)) := [(1363, woundR), (1370, oneLetR), (ahas_calls, callsR), (1356, reelR)]
noncomputable def prim0 (a : Nat) (args : List SV) (σ : St) : Option (R SV) := Option.bind (lkN a primT) fun f => some (f args σ)
noncomputable def cfg0 : Cfg := ⟨globT, fnsT, clsT, prim0, 1377, excsT⟩
noncomputable def CallsOK (W : Wk) : Prop := ∀ c σ γ s (k : Nat) x, k ≤ 1000000 → Good W c → W.SR c σ γ s → Room 1 c → VR W.K γ σ.next σ.doms.length (.tree k) x → Desc W c σ γ s (call (.ref ahas_calls) [x]) (VRel W) [(.ok (.bool (oddB k)), σ)]
structure Base (W : Wk) : Prop where
  K : W.K = kn W.w.params
  g : GM W
  t : TabsIn W
  s : ∀ h, W.ex h → ∃ (q : Addr) (vs : List Value), (3, q) ∈ W.tabs ∧ h.IsList q vs.toArray ∧ (∀ v ∈ vs, ∃ i t, v = Value.int i t) ∧ vs.length < 100
  c : CallsOK W
section
variable {W : Wk} {c : Cx} {σ : St} {γ : G} {s : Shared} {args : List SV} {args' : List Value} {o : Out SV}
theorem woundR_ok (B : Base W) (h : woundR args σ = some o) (hG : Good W c) (hS : W.SR c σ γ s) (hR : Room 1 c) (ha : VRs W.K γ σ.next σ.doms.length args args') : Desc W c σ γ s (call (.ref 1363) args') (VRel W) o := by
  intro Q E P
  refine x12 (om h) fun p q1 e1 => ?_
  refine x12 (om e1) fun r q2 e2 => ?_
  refine x12 (om e2) fun n q3 e3 => ?_
  refine x02 (bm e3) fun h1 e4 => ?_
  refine x02 (bm e4) fun h2 e5 => ?_
  refine x02 (bm e5) fun h3 e6 => ?_
  replace ha := (natOf_some q3) ▸ (objOf_some q2) ▸ (pair_some q1) ▸ ha
  have h1 := isReel_some h1
  obtain ⟨_, _, rfl, v1, ha⟩ := ha.view
  obtain ⟨_, _, rfl, v2, ha⟩ := ha.view
  cases ha
  cases v1
  cases v2
  obtain rfl := ss e6
  exact wound_ok B.K hG hS hR.zero h1 (Nat.le_of_ble_eq_true h2) (Nat.le_of_ble_eq_true h3) fun k t s' hk S' => P (.ok (.int (.ofNat k))) σ (List.mem_map.mpr ⟨k, List.mem_range.mpr hk, rfl⟩) γ s' (Ext.refl _ _) S' _ (.int _ _)
theorem oneLetR_ok (B : Base W) (h : oneLetR args σ = some o) (hG : Good W c) (hS : W.SR c σ γ s) (hR : Room 1 c) (ha : VRs W.K γ σ.next σ.doms.length args args') : Desc W c σ γ s (call (.ref 1370) args') (VRel W) o := by
  intro Q E P
  refine x12 (om h) fun p q1 e1 => ?_
  refine x12 (om e1) fun r q2 e2 => ?_
  refine x12 (om e2) fun j q3 e3 => ?_
  refine x02 (bm e3) fun h1 e4 => ?_
  refine x12 (om e4) fun l h2 e5 => ?_
  refine x02 (bm e5) fun h3 e6 => ?_
  refine x02 (bm e6) fun h4 e7 => ?_
  replace ha := (objOf_some q3) ▸ (objOf_some q2) ▸ (pair_some q1) ▸ ha
  have h1 := isReel_some h1
  have h2 := asList_some h2
  obtain ⟨_, _, rfl, v1, ha⟩ := ha.view
  obtain ⟨_, _, rfl, v2, ha⟩ := ha.view
  cases ha
  cases v1
  cases v2
  refine bc (b := allGround l) (fun h5 => ?_) fun h5 => ?_
  · replace e7 := h5 ▸ e7
    obtain rfl := ss e7
    exact one_ok B.K hG hS hR h1 h2 (Nat.le_of_ble_eq_true h3) (Nat.le_of_ble_eq_true h4) h5 P (.head _)
  · replace e7 := h5 ▸ e7
    obtain rfl := ss e7
    exact one_core B.K hG hS hR h1 h2 (Nat.le_of_ble_eq_true h3) (Nat.le_of_ble_eq_true h4) fun x v s' γ' hx S2 x2 hv => P (.ok x) _ (List.mem_map.mpr ⟨x, hx, rfl⟩) γ' s' x2 S2 v hv
theorem reelR_ok (B : Base W) (h : reelR args σ = some o) (hG : Good W c) (hS : W.SR c σ γ s) (hR : Room 1 c) (ha : VRs W.K γ σ.next σ.doms.length args args') : Desc W c σ γ s (call (.ref 1356) args') (VRel W) o := by
  intro Q E P
  refine x12 (om h) fun v q1 e1 => ?_
  refine x12 (om e1) fun j q2 e2 => ?_
  refine x02 (bm e2) fun h1 e3 => ?_
  obtain rfl := Nat.eq_of_beq_eq_true h1
  replace ha := (objOf_some q2) ▸ (single_some q1) ▸ ha
  obtain ⟨_, _, rfl, v1, ha⟩ := ha.view
  cases ha
  cases v1
  obtain rfl := ss e3
  refine x24 (B.s _ hG.ex) fun q vs ht hq hv hl => ?_
  have e : γ.ρ 3 = q := (hS.ou.2.1 (3, q) (by rw [hG.tb]; exact ht)).2
  rw [e]
  exact reel_ok B.K hG hS hR.zero hq hv hl P (.head _)
theorem callsR_ok (B : Base W) (h : callsR args σ = some o) (hG : Good W c) (hS : W.SR c σ γ s) (hR : Room 1 c) (ha : VRs W.K γ σ.next σ.doms.length args args') : Desc W c σ γ s (call (.ref ahas_calls) args') (VRel W) o := by
  refine x12 (om h) fun v q1 e1 => ?_
  refine x12 (om e1) fun k q2 e2 => ?_
  refine x02 (bm e2) fun hk e3 => ?_
  obtain rfl := single_some q1
  cases v <;> try ((first | exact ns q2 | obtain rfl := ss q2); done)
  obtain rfl := ss q2
  obtain ⟨_, _, rfl, v1, ha⟩ := ha.view
  cases ha
  obtain rfl := ss e3
  exact B.c _ _ _ _ _ _ (Nat.le_of_ble_eq_true hk) hG hS hR v1
theorem base_ok (B : Base W) : CfgOK W cfg0 1 :=
  { glob := globOK W W.w.params B.K B.g rfl
    meth := methOK W W.w.params B.K rfl
    set := setOK W W.w.params B.K rfl
    raise := raise_ok (P := W.w.params) B.K rfl
    td := td_ok W
    fns := fun a fr h => fnAll W W.w.params B.K B.t (a, fr) (lkN_mem h)
    cls := fun a cr h => clAll W W.w.params B.K B.t (C := cfg0) rfl (a, cr) (lkN_mem h)
    pkeep := fun a args σ m h => by
      refine x12 (om h) fun f q _ => ?_
      exact (show AllP (fun p : Nat × (List SV → St → R SV) => keepIn W.K (.ref p.1) = true) primT by rw [B.K]; exact .cons (by kernel_rfl) (.cons (by kernel_rfl) (.cons (by kernel_rfl) (.cons (by kernel_rfl) .nil)))).mem (lkN_mem q)
    prim := fun a args σ o h c γ s args' hG hS hR ha => by
      refine x12 (om h) fun f q e => ?_
      exact (show AllP (fun p : Nat × (List SV → St → R SV) => ∀ o, p.2 args σ = some o → Desc W c σ γ s (call (.ref p.1) args') (VRel W) o) primT from
        .cons (fun o h => woundR_ok B h hG hS hR ha) (.cons (fun o h => oneLetR_ok B h hG hS hR ha) (.cons (fun o h => callsR_ok B h hG hS hR ha) (.cons (fun o h => reelR_ok B h hG hS hR ha) .nil)))).mem (lkN_mem q) o (Option.some.inj e)
    tkeep := by rw [B.K]; kernel_rfl
    tried := fun n S IH args σ o h c γ s args' hG hS hR ha => tried_ok B.K rfl IH h hG hS hR ha }
end
end Mine
end
section
open PySem PySem.W PyProof.Rows PySem.Calls
set_option tactic.hygienic false
namespace Mine
/-! the calls that are gone through once -/
noncomputable def hFull : List (Nat × MO) := [(63, .reel),
  (62, .dict []),
  (61, .list []),
  (60, .list []),
  (59, .dict []),
  (58, .list []),
  (57, .list []),
  (55, .inst 1278 [("world", .obj 5), ("package", .str "main"), ("scope", .obj 51), ("key", .str "main.f"), ("readers", .obj 54), ("run_body", .none), ("outer", .none), ("locals", .obj 57), ("params", .tup []), ("results", .tup []), ("result_locals", .tup []), ("has_result_names", .bool false), ("captured", .obj 58), ("literals", .obj 59), ("loops", .obj 60), ("other_panics", .obj 61), ("mentions", .obj 62)]),
  (54, .dict []),
  (53, .dict []),
  (51, .inst 1160 [("outer", .none), ("owner", .none), ("rows", .obj 53)]),
  (49, .inst 1302 [("path", .str "main.F"), ("package", .str "main"), ("underlying", .tup [.str "interface", .tup [.tup [.str "m", .tup [.str "func", .tup [], .tup [], .bool false]]]]), ("methods", .obj 48)]),
  (48, .dict []),
  (45, .inst 1302 [("path", .str "main.B"), ("package", .str "main"), ("underlying", .tup [.str "bool"]), ("methods", .obj 44)]),
  (44, .dict []),
  (42, .inst 1302 [("path", .str "main.O"), ("package", .str "main"), ("underlying", .tup [.str "int", .str "int8"]), ("methods", .obj 40)]),
  (40, .dict [("o", .tup [.bool false, .tup [.str "func", .tup [], .tup [], .bool false], .str "main.O.o"])]),
  (38, .inst 1302 [("path", .str "main.M"), ("package", .str "main"), ("underlying", .tup [.str "int", .str "int8"]), ("methods", .obj 36)]),
  (36, .dict [("m", .tup [.bool false, .tup [.str "func", .tup [], .tup [], .bool false], .str "main.M.m"])]),
  (35, .list []),
  (34, .list []),
  (33, .list []),
  (32, .dict []),
  (31, .dict []),
  (30, .dict []),
  (29, .dict []),
  (28, .list []),
  (27, .list []),
  (26, .dict []),
  (25, .dict []),
  (24, .dict []),
  (23, .dict []),
  (22, .dict []),
  (21, .dict []),
  (19, .inst 1302 [("path", .str "sync.WaitGroup"), ("package", .str "sync"), ("underlying", .tup [.str "struct", .tup [.tup [.str "sync.#count", .tup [.str "int", .str "int"], .bool false]]]), ("methods", .obj 10)]),
  (17, .inst 1302 [("path", .str "sync.Mutex"), ("package", .str "sync"), ("underlying", .tup [.str "struct", .tup [.tup [.str "sync.#state", .tup [.str "int", .str "int"], .bool false]]]), ("methods", .obj 9)]),
  (15, .inst 1302 [("path", .str "runtime.Error"), ("package", .str "runtime"), ("underlying", .tup [.str "string"]), ("methods", .obj 8)]),
  (13, .inst 1302 [("path", .str "error"), ("package", .str ""), ("underlying", .tup [.str "interface", .tup [.tup [.str "Error", .tup [.str "func", .tup [], .tup [.tup [.str "string"]], .bool false]]]]), ("methods", .obj 12)]),
  (12, .dict []),
  (11, .dict [("error", .obj 13), ("runtime.Error", .obj 15), ("sync.Mutex", .obj 17), ("sync.WaitGroup", .obj 19), ("main.M", .obj 38), ("main.O", .obj 42), ("main.B", .obj 45), ("main.F", .obj 49)]),
  (10, .dict [("Add", .tup [.bool true, .tup [.str "func", .tup [.tup [.str "int", .str "int"]], .tup [], .bool false], .str "sync.WaitGroup.Add"]), ("Done", .tup [.bool true, .tup [.str "func", .tup [], .tup [], .bool false], .str "sync.WaitGroup.Done"]), ("Wait", .tup [.bool true, .tup [.str "func", .tup [], .tup [], .bool false], .str "sync.WaitGroup.Wait"])]),
  (9, .dict [("Lock", .tup [.bool true, .tup [.str "func", .tup [], .tup [], .bool false], .str "sync.Mutex.Lock"]), ("Unlock", .tup [.bool true, .tup [.str "func", .tup [], .tup [], .bool false], .str "sync.Mutex.Unlock"])]),
  (8, .dict [("Error", .tup [.bool false, .tup [.str "func", .tup [], .tup [.tup [.str "string"]], .bool false], .str "runtime.Error.Error"])]),
  (5, .inst 1345 [("packages", .none), ("named", .obj 11), ("globals", .obj 21), ("consts", .obj 22), ("funcs", .obj 23), ("bodies", .obj 24), ("files", .obj 25), ("scopes", .obj 26), ("order", .obj 27), ("starts", .obj 28), ("settle", .none), ("want", .none), ("mentions", .obj 29), ("measured", .obj 30), ("values", .obj 31), ("inits", .obj 32), ("late_keys", .obj 33), ("late_parts", .obj 34), ("late_sizes", .obj 35), ("is_whole", .bool true)]),
  (0, .tab true),
  (1, .tab true),
  (2, .tab true)]
noncomputable def memN (j : Nat) : List Nat → Bool
  | [] => false
  | i :: r => match Nat.beq i j with | true => true | false => memN j r
noncomputable def low63 (j : Nat) : Bool := match Nat.beq j 63 with | true => true | false => Nat.beq j 4
noncomputable def low (j : Nat) : Bool := Nat.blt j 64
noncomputable def notIn (l : List Nat) (j : Nat) : Bool := match memN j l with | true => false | false => true
noncomputable def allJ (_ : Nat) : Bool := true
noncomputable def namedT (s : Str) : SV := .tup [.str "named", .str s]
noncomputable def tFace : SV := .tup [.str "interface", .tup []]
noncomputable def tInt : SV := .tup [.str "int", .str "int"]
noncomputable def pWant (j : Nat) : Bool := match Nat.blt j 63 with | true => Nat.blt 3 j | false => false
noncomputable def hWant : List (Nat × MO) := sel (notIn [0, 1, 2, 3, 57, 60, 63]) hFull
noncomputable def wantRows : List (SV × Res SV) := [(namedT "main.M", .ok .none), (namedT "main.F", .ok .none), (tFace, .ok .none), (namedT "main.O", .ex 190 (.int 5)), (tInt, .ex 190 (.int 5))]
noncomputable def rowsR (one : SV) (τ : St) : List (SV × Res SV) → R SV
  | [] => none
  | (t, r) :: l => match svB t one with
    | true => summR pWant allJ 4 hWant 64 2000 [r] τ
    | false => rowsR one τ l
noncomputable def wantR (args : List SV) (σ : St) : R SV := Option.bind (getAt 2 args) fun one => guardO (svsB args [.obj 55, namedT "main.F", one, .int 5]) <| forced one σ fun one τ => rowsR one τ wantRows
noncomputable def fWant (a : Nat) (args : List SV) (σ : St) : Option (R SV) := guardO (Nat.beq a 381) <| some (wantR args σ)
noncomputable def C1 : Cfg := summC cfg0 fWant
noncomputable def headOK : List SV → Bool
  | .var _ :: _ => false
  | _ => true
noncomputable def domHas : List SV → Option Bool
  | [] => none
  | d :: r => Option.bind (treeHas d) fun a => match r with
    | [] => some a
    | e :: r => Option.bind (domHas (e :: r)) fun b => guardO (bB a b) <| some a
mutual
noncomputable def hasIn (σ : St) : SV → Option Bool
  | .tup l => guardO (headOK l) <| Option.bind (hassIn σ l) fun c => some (headCalls l || c)
  | .bool _ | .int _ | .str _ => some false
  | .var i => domHas (σ.dom i)
  | .tree k => some (oddB k)
  | _ => none
noncomputable def hassIn (σ : St) : List SV → Option Bool
  | [] => some false
  | v :: r => Option.bind (hasIn σ v) fun a => Option.bind (hassIn σ r) fun b => some (a || b)
end
mutual
noncomputable def szIn (σ : St) : SV → Nat
  | .tup l => szsIn σ l + 1
  | .var i => treesSz (σ.dom i)
  | .tree k => k / 2
  | _ => 1
noncomputable def szsIn (σ : St) : List SV → Nat
  | [] => 0
  | v :: r => szIn σ v + szsIn σ r
end
noncomputable def treeK (B : Nat) (c : Bool) : Nat := match c with | true => 2 * B + 1 | false => 2 * B
noncomputable def treeAb (B : Nat) (τ : St) (v : SV) : Option SV := Option.bind (tupOf v) fun xs => Option.bind (pair xs) fun p => Option.bind (tupOf p.1) fun l => Option.bind (boolOf p.2) fun b => Option.bind (hasIn τ (.tup l)) fun c => guardO (Nat.ble (szIn τ (.tup l)) B) <| some (.tup [.tree (treeK B c), .bool b])
noncomputable def treeRes (B : Nat) : List (Res SV) := [.ok (.tup [.tree (2 * B), .bool false]), .ok (.tup [.tree (2 * B + 1), .bool true])]
noncomputable def trueRes : List (Res SV) := [.ok (.bool true)]
noncomputable def treeN (e : Nat) : Nat := match e with
  | 0 => 2000
  | 1 => 1900
  | _ => 1800
noncomputable def treeRow (d B : Nat) (args : List SV) (σ : St) : R SV := guardO (svsB args [.obj 63, .int (.ofNat d)]) <| summR low63 allJ 4 [(63, .reel)] 64 (treeN d) (treeRes B) σ
noncomputable def treeB (e : Nat) : Nat := match e with
  | 0 => 100
  | 1 => 1000
  | _ => 10000
noncomputable def fTree (d : Nat) (a : Nat) (args : List SV) (σ : St) : Option (R SV) := guardO (Nat.beq a 1398) <| Option.bind (getAt 1 args) fun v => Option.bind (natOf v) fun e => guardO (Nat.blt e d) <| some (treeRow e (treeB e) args σ)
noncomputable def CT (d : Nat) : Cfg := summC cfg0 (fTree d)
noncomputable def hLoops : List (Nat × MO) := setT 0 hFull
noncomputable def hCases : List (Nat × MO) := setT 1 (setT 0 (sel (notIn [57, 60]) hFull))
noncomputable def pCases (j : Nat) : Bool := match Nat.blt j 64 with | true => notIn [57] j | false => false
noncomputable def nT : Nat := 40
noncomputable def nR : Nat := 60
end Mine
end
section
open PySem PySem.W PyProof.Rows PySem.Calls
set_option tactic.hygienic false
namespace Mine
section
variable {W : Wk} {c : Cx} {σ : St} {γ : G} {s : Shared} {n d : Nat}
theorem bB_eq {a b : Bool} (h : bB a b = true) : b = a := by cases a <;> cases b <;> first | rfl | exact tf h
theorem domHas_mem {d : SV} {b : Bool} : ∀ {l : List SV}, domHas l = some b → d ∈ l → treeHas d = some b
  | [], h, hm => nomatch hm
  | [x], h, hm => by
    refine x12 (om h) fun u q e => ?_
    obtain rfl := ss e
    rw [List.mem_singleton.mp hm]; exact q
  | x :: y :: r, h, hm => by
    refine x12 (om h) fun u q1 h1 => ?_
    refine x12 (om h1) fun w q2 h2 => ?_
    refine x02 (bm h2) fun e h3 => ?_
    obtain rfl := ss h3
    rcases List.mem_cons.mp hm with rfl | hm
    · exact q1
    · exact domHas_mem (by rw [q2, bB_eq e]) hm
theorem treesSz_mem {d : SV} : ∀ {l : List SV}, d ∈ l → treeSz d ≤ treesSz l
  | x :: r, hm => by
    skip
    rcases List.mem_cons.mp hm with rfl | hm
    · exact Nat.le_add_right _ _
    · exact Nat.le_trans (treesSz_mem hm) (Nat.le_add_left _ _)
noncomputable def Hd (v g : SV) : Prop := isVar v = none → (∀ s, g = .str s ↔ v = .str s)
theorem Hd.rfl {v : SV} : Hd v v := fun _ _ => Iff.rfl
theorem hd_tup {v : SV} {l : List SV} (h : ∀ s, v ≠ .str s) : Hd v (.tup l) := fun _ s => ⟨fun e => (by exact cd SV.ctorIdx e rfl), fun e => absurd e (h s)⟩
noncomputable def Grown (W : Wk) (γ : G) (n d : Nat) (σ : St) (v : SV) (x : Value) : Prop := ∀ b, hasIn σ v = some b → ∃ g, VR W.K γ n d g x ∧ treeHas g = some b ∧ treeSz g ≤ szIn σ v ∧ Hd v g ∧ (isTupG v = true → isTupG g = true)
noncomputable def Growns (W : Wk) (γ : G) (n d : Nat) (σ : St) (l : List SV) (xs : List Value) : Prop := ∀ b, hassIn σ l = some b → ∃ gs, VRs W.K γ n d gs xs ∧ treesHave gs = some b ∧ treesSz gs ≤ szsIn σ l ∧ gs.length = l.length ∧ ∀ v g r r', l = v :: r → gs = g :: r' → Hd v g
theorem heads {l gs : List SV} (h : gs.length = l.length) (hh : ∀ v g r r', l = v :: r → gs = g :: r' → Hd v g) (ok : headOK l = true) : headCalls gs = headCalls l := by
  cases l with
  | nil => cases gs with
    | nil => rfl
    | cons _ _ => cases h
  | cons v r =>
    cases gs with
    | nil => cases h
    | cons g r' =>
      have hv : isVar v = none := by cases v <;> first | rfl | exact tf ok
      have H := hh v g r r' rfl rfl hv
      have hl : r'.length = r.length := by simpa using h
      have len : ∀ {a : SV} {r : List SV}, r.length < 3 → headCalls (a :: r) = false := fun {a r} h => by
        match r, h with
        | [], _ => cases a <;> rfl
        | [_], _ => cases a <;> rfl
        | [_, _], _ => cases a <;> rfl
      have long : ∀ {s : Str} {r : List SV}, ¬ r.length < 3 → headCalls (.str s :: r) = (sB s "call" || sB s "builtin" || sB s "receive") := fun {s r} h => by
        match r, h with
        | [], h => exact absurd (by decide) h
        | [_], h => exact absurd (by show 1 < 3; decide) h
        | [_, _], h => exact absurd (by show 2 < 3; decide) h
        | _ :: _ :: _ :: _, _ => rfl
      by_cases q : r.length < 3
      · rw [len q, len (by exact Nat.le_trans (Nat.le_of_eq (by assumption)) (Nat.le_trans (by assumption) (by decide)))]
      · have no : ∀ {a : SV} {r : List SV}, (∀ s, a ≠ .str s) → headCalls (a :: r) = false := fun {a r} h => by
          cases a <;> first | rfl | exact absurd rfl (h _)
        by_cases e : ∃ s, v = .str s
        · obtain ⟨s, rfl⟩ := e
          rw [(H s).mpr rfl, long q, long (by omega)]
        · rw [no fun s hs => e ⟨s, hs⟩, no fun s hs => e ⟨s, (H s).mp hs⟩]
theorem grown (S : W.SR c σ γ s) (hd : d = σ.doms.length) {v : SV} {x : Value} (h : VR W.K γ n d v x) : Grown W γ n d σ v x :=
  VR.rec (motive_1 := fun v x _ => Grown W γ n d σ v x) (motive_2 := fun l xs _ => Growns W γ n d σ l xs)
    (fun b e => by exact ns e) (fun x b e => ⟨_, .bool x, by obtain rfl := ss e; rfl, Nat.le_refl _, .rfl, fun h => h⟩) (fun i t b e => ⟨_, .int i t, by obtain rfl := ss e; rfl, Nat.le_refl _, .rfl, fun h => h⟩) (fun t q b e => ⟨_, .str t q, by obtain rfl := ss e; rfl, Nat.le_refl _, .rfl, fun h => h⟩)
    (fun {l a vs k} t _ ih b e => by
      refine x02 (bm e) fun q1 e1 => ?_
      refine x12 (om e1) fun u q2 e2 => ?_
      refine x15 (ih u q2) fun gs h1 h2 h3 h4 h5 => ?_
      exact ⟨.tup gs, .tup t h1, by simp only [treeHas, h2, heads h4 h5 q1, e2], by skip; exact Nat.succ_le_succ (by assumption), fun _ s => ⟨fun e => (by exact cd SV.ctorIdx e rfl), fun e => (by exact cd SV.ctorIdx e rfl)⟩, fun _ => rfl⟩)
    (fun a b e => by exact ns e) (fun _ b e => by exact ns e)
    (fun {i v} hi hr _ b e => by
      have D := (S.dom (hd ▸ hi)).1
      exact ⟨γ.δ i, hr, domHas_mem e D, by skip; exact treesSz_mem D, (fun h => by exact sn h), (fun h => by exact tf h)⟩)
    (fun {g k v} a1 a2 a3 h _ b e => by
      obtain rfl := ss e
      refine ⟨g, h, a1, a3, ?_, fun h => by exact tf h⟩
      cases g <;> first | ((first | exact tf a2 | cases a2); done) | exact hd_tup fun s e => by exact cd SV.ctorIdx e rfl)
    (fun b c e => by exact ns e)
    (fun b e => ⟨[], .nil, by obtain rfl := ss e; rfl, Nat.le_refl _, rfl, fun v g r r' e => by cases e⟩)
    (fun {v x l xs} _ _ i1 i2 b e => by
      refine x12 (om e) fun u q1 e3 => ?_
      refine x12 (om e3) fun w q2 e4 => ?_
      refine x15 (i1 u q1) fun g g1 g2 g3 g4 g5 => ?_
      refine x15 (i2 w q2) fun gs h1 h2 h3 h4 h5 => ?_
      refine ⟨g :: gs, .cons g1 h1, by simp only [treesHave, g2, h2, e4], by skip; exact Nat.add_le_add (by assumption) (by assumption), congrArg Nat.succ h4, fun v' g r r' e1 e2 => ?_⟩
      cases e1; cases e2; exact g4) h
theorem odd_treeK {B : Nat} {u : Bool} : oddB (treeK B u) = u := by
  cases u with
  | true => unfold oddB treeK; rw [show (2 * B + 1) % 2 = 1 by omega]; rfl
  | false => unfold oddB treeK; rw [show (2 * B) % 2 = 0 by omega]; rfl
theorem half_treeK {B : Nat} {u : Bool} : B ≤ treeK B u / 2 := by cases u <;> unfold treeK <;> dsimp only <;> omega
theorem treeAb_some {B : Nat} {τ : St} {v u : SV} (h : treeAb B τ v = some u) : ∃ l b c, v = .tup [.tup l, .bool b] ∧ hasIn τ (.tup l) = some c ∧ szIn τ (.tup l) ≤ B ∧ u = .tup [.tree (treeK B c), .bool b] := by
  refine x12 (om h) fun xs h1 e1 => ?_
  refine x12 (om e1) fun p h2 e2 => ?_
  refine x12 (om e2) fun l h3 e3 => ?_
  refine x12 (om e3) fun b h4 e4 => ?_
  refine x12 (om e4) fun c h5 e5 => ?_
  refine x02 (bm e5) fun h6 e6 => ?_
  have hb : p.2 = .bool b := by
    generalize p.2 = x at h4
    cases x <;> first | ((first | exact ns h4 | obtain rfl := ss h4); rfl) | exact ns h4
  obtain rfl := ss e6
  exact ⟨l, b, c, by rw [tupOf_some h1, pair_some h2, tupOf_some h3, hb], h5, Nat.le_of_ble_eq_true h6, rfl⟩
theorem treeAb_ok {B : Nat} : AbOK W 64 (treeAb B) := fun c τ γ s v v' x S hv e => by
  refine x34 (treeAb_some e) fun l b u er3 q1 q2 er6 => ?_; subst er3; subst er6
  refine x33 hv.view fun _ _ _ er3 t hr => ?_; subst er3
  obtain ⟨_, _, rfl, h1, hr⟩ := hr.view
  obtain ⟨_, _, rfl, h2, hr⟩ := hr.view
  cases hr
  cases h2
  refine x15 (grown S rfl h1 u q1) fun g g1 g2 g3 _ g5 => ?_
  have hZ := Nat.le_trans g3 q2
  exact .tup t (.cons (.tree (by rw [odd_treeK]; exact g2) (g5 rfl) (Nat.le_trans hZ half_treeK) (g1.lower (treeHas_vB g2))) (.cons (.bool b) .nil))
end
end Mine
end
section
open PySem PySem.W PyProof.Rows PySem.Calls
set_option tactic.hygienic false
set_option maxRecDepth 100000
namespace Mine
theorem hWant_v : heapV 64 hWant = true := by kernel_rfl
theorem hFull_v : heapV 64 hFull = true := by kernel_rfl
theorem hLoops_v : heapV 64 hLoops = true := by kernel_rfl
theorem hCases_v : heapV 64 hCases = true := by kernel_rfl
noncomputable abbrev wantRun (t : SV) (r : Res SV) (fz : List (Nat × MO)) : Bool := runOK (plainAb 64) 64 (fun j => pWant j && allJ j) (setT 4 (sel allJ hWant)) [r] ((sem cfg0 40).cl (.top 381) [.obj 55, namedT "main.F", t, .int 5] ⟨[], hWant, 2000, [], fz⟩)
theorem want1 (fz : List (Nat × MO)) : wantRun (namedT "main.M") (.ok .none) fz = true := by kernel_rfl
theorem want2 (fz : List (Nat × MO)) : wantRun (namedT "main.F") (.ok .none) fz = true := by kernel_rfl
theorem want3 (fz : List (Nat × MO)) : wantRun tFace (.ok .none) fz = true := by kernel_rfl
theorem want4 (fz : List (Nat × MO)) : wantRun (namedT "main.O") (.ex 190 (.int 5)) fz = true := by kernel_rfl
theorem want5 (fz : List (Nat × MO)) : wantRun tInt (.ex 190 (.int 5)) fz = true := by kernel_rfl
end Mine
end
section
open PySem PySem.W PyProof.Rows PySem.Calls
set_option tactic.hygienic false
set_option maxRecDepth 100000
namespace Mine
theorem tree0_run (fz : List (Nat × MO)) : runOK (treeAb 100) 64 (fun j => low63 j && allJ j) (setT 4 (sel allJ [(63, .reel)])) (treeRes 100) ((sem (CT 0) 12).cl (.top 1398) [.obj 63, .int 0] ⟨[], [(63, .reel)], 2000, [], fz⟩) = true := by kernel_rfl
theorem tree1_run (fz : List (Nat × MO)) : runOK (treeAb 1000) 64 (fun j => low63 j && allJ j) (setT 4 (sel allJ [(63, .reel)])) (treeRes 1000) ((sem (CT 1) 12).cl (.top 1398) [.obj 63, .int 1] ⟨[], [(63, .reel)], 1900, [], fz⟩) = true := by kernel_rfl
theorem tree2_run (fz : List (Nat × MO)) : runOK (treeAb 10000) 64 (fun j => low63 j && allJ j) (setT 4 (sel allJ [(63, .reel)])) (treeRes 10000) ((sem (CT 2) 12).cl (.top 1398) [.obj 63, .int 2] ⟨[], [(63, .reel)], 1800, [], fz⟩) = true := by kernel_rfl
end Mine
end
section
open PySem PySem.W PyProof.Rows PySem.Calls
set_option tactic.hygienic false
set_option maxRecDepth 100000
namespace Mine
theorem truth_run (fz : List (Nat × MO)) : runOK (plainAb 64) 64 (fun j => low j && allJ j) (setT 0 (sel allJ hFull)) trueRes ((sem cfg0 54).cl (.top 1405) [.obj 63, .obj 55] ⟨[], hFull, 1000, [], fz⟩) = true := by kernel_rfl
end Mine
end
section
open PySem PySem.W PyProof.Rows PySem.Calls
set_option tactic.hygienic false
set_option maxRecDepth 100000
namespace Mine
theorem loops_run (fz : List (Nat × MO)) : runOK (plainAb 64) 64 (fun j => low j && notIn [60] j) (setT 1 (sel (notIn [60]) hLoops)) trueRes ((sem cfg0 20).cl (.top 1410) [.obj 63, .obj 55] ⟨[], hLoops, 1000, [], fz⟩) = true := by kernel_rfl
end Mine
end
section
open PySem PySem.W PyProof.Rows PySem.Calls
set_option tactic.hygienic false
set_option maxRecDepth 100000
namespace Mine
theorem cases_run (fz : List (Nat × MO)) : runOK (plainAb 64) 64 (fun j => pCases j && allJ j) (setT 2 (sel allJ hCases)) trueRes ((sem C1 20).cl (.top 1420) [.obj 63, .obj 55] ⟨[], hCases, 1000, [], fz⟩) = true := by kernel_rfl
end Mine
end
section
open PySem PySem.W PyProof.Rows PySem.Calls
set_option tactic.hygienic false
set_option maxRecDepth 100000
namespace Mine
/-! has_calls, for a tree of any shape -/
noncomputable def hcB (i : Nat) : Stmt := (getAt i (fnAt 135 [] false).body).getD (.Pass ⟨0, 0, 0, 0⟩)
noncomputable def hcW (i : Nat) : Stmt := (getAt i (match hcB 1 with | .While _ b _ _ => b | _ => [])).getD (.Pass ⟨0, 0, 0, 0⟩)
noncomputable def hcTst : PySem.Expr := match hcB 1 with | .While t _ _ _ => t | _ => .Constant .none 0 ⟨0, 0, 0, 0⟩
noncomputable def hcPop : Stmt := hcW 0
noncomputable def hcIf : Stmt := hcW 1
noncomputable def hcExt : Stmt := hcW 2
noncomputable def hcAsg : Stmt := hcB 0
noncomputable def hcRet : Stmt := hcB 2
noncomputable def hcWhile : Stmt := .While hcTst [hcPop, hcIf, hcExt] [] ⟨852, 4, 856, 71⟩
noncomputable def body135 : List Stmt := [hcAsg, hcWhile, hcRet]
noncomputable abbrev sc135 : Scope := ⟨.function, [("made", .local), ("left", .local), ("here", .local), ("len", .globalImplicit)], false, false, [("fast", .str "made"), ("fast", .str "left"), ("fast", .str "here"), ("fast", .str "part")]⟩
noncomputable abbrev hcFd : FuncData := fdOf (stAt 135) (Str.ofString "has_calls") (.none) (.none) (.none) (.str (Str.ofString "chancore.check_loops") 1520) none (.ref 880) (.none)
theorem hc_fd : hcFd = fnX "has_calls" (Str.ofString "has_calls") (cePs (stAt 135)) body135 sc135 [] .none .none .none (.str (Str.ofString "chancore.check_loops") 1520) none (.ref 880) .none := by kernel_rfl
theorem hc_lk (P : Params) : (kn P).lookup 881 = some ⟨.type "function", none, .func hcFd, #[]⟩ := by kernel_rfl
theorem hc_cd (P : Params) : codeIn (kn P) (.ref 880) (Str.ofString "has_calls") = true := by kernel_rfl
theorem hc_bd (P : Params) (S : Setting) (x0 : Value) : peek (kn P) S (PySem.bindArgs hcFd ⟨[x0], []⟩) = some ([(("made" : Str), x0)] : List (Str × Value)) := by kernel_rfl
theorem hc_g (P : Params) : nsIn (kn P) mainGlobals "len" = some none := by kernel_rfl
theorem hc_gi (P : Params) : nsIn (kn P) mainGlobals "isinstance" = some none := by kernel_rfl
theorem hc_gt (P : Params) : nsIn (kn P) mainGlobals "tuple" = some none := by kernel_rfl
theorem hc_bl : bootBuiltins "len" = some (.builtin "len") := by kernel_rfl
theorem hc_bi : bootBuiltins "isinstance" = some (.builtin "isinstance") := by kernel_rfl
theorem hc_bt : bootBuiltins "tuple" = some (.type "tuple") := by kernel_rfl
section
variable {K : Frag} {γ : G} {n d : Nat} {h₀ : Heap}
theorem ground_reads (hT : ∀ a o, Tups K γ a o → h₀.get? a = some o) {g : SV} {v : Value} (r : VR K γ n d g v) : ∀ b, treeHas g = some b → ∃ as, Reads h₀ v (gD g) as ∧ (gD g).canLay0 = true :=
  VR.rec (motive_1 := fun g v _ => ∀ b, treeHas g = some b → ∃ as, Reads h₀ v (gD g) as ∧ (gD g).canLay0 = true) (motive_2 := fun l vs _ => ∀ b, treesHave l = some b → ∃ as, ReadsAll h₀ vs (gDs l) as ∧ PyData.canLayAll0 (gDs l) = true)
    (fun b e => by exact ns e) (fun x b e => ⟨_, .bool x, rfl⟩) (fun i t b e => ⟨_, .int i t, rfl⟩) (fun {str} t q b e => ⟨_, .str str t, by exact q⟩)
    (fun {l a vs k} t _ ih b e => by
      unfold treeHas at e
      refine oc (o := treesHave l) (fun q => ?_) fun u q => ?_
      · simp only [q] at e; exact ns e
      · refine x12 (ih u q) fun as r1 r2 => ?_
        simp only [gD]
        exact ⟨as, Reads.tuple (hT _ _ t) rfl rfl (by exact r1), by exact r2⟩)
    (fun a b e => by exact ns e) (fun _ b e => by exact ns e) (fun _ _ _ b e => by exact ns e) (fun _ _ _ _ _ b e => by exact ns e) (fun b c e => by exact ns e)
    (fun b e => ⟨_, .nil, rfl⟩) (fun {v x l xs} _ _ i1 i2 b e => by
      unfold treesHave at e
      refine oc (o := treeHas v) (fun q1 => ?_) fun u q1 => ?_
      · simp only [q1] at e; exact ns e
      · cases q2 : treesHave l with
        | none => simp only [q1, q2] at e; exact ns e
        | some y =>
          refine x12 (i1 u q1) fun as a1 a2 => ?_
          refine x12 (i2 y q2) fun bs b1 b2 => ?_
          simp only [gDs]
          exact ⟨_, .cons a1 b1, by simp only [PyData.canLayAll0, a2, b2, Bool.and_self]⟩) r
noncomputable def isRef : Value → Bool
  | .ref _ => true
  | _ => false
noncomputable def tups : List SV → List SV
  | [] => []
  | v :: r => match isTupG v with | true => v :: tups r | false => tups r
theorem tups_len : ∀ {l : List SV}, (tups l).length ≤ l.length
  | [] => Nat.le_refl _
  | v :: r => by
    unfold tups
    cases isTupG v with
    | true => exact Nat.succ_le_succ tups_len
    | false => exact Nat.le_succ_of_le tups_len
theorem treeSz_pos : ∀ {v : SV}, 1 ≤ treeSz v
  | .tup _ => Nat.succ_le_succ (Nat.zero_le _)
  | .none | .bool _ | .int _ | .str _ | .top _ | .obj _ | .var _ | .tree _ | .fn _ => Nat.le_refl _
theorem tups_sz : ∀ {l : List SV}, treesSz (tups l) ≤ treesSz l
  | [] => Nat.le_refl _
  | v :: r => by
    unfold tups
    cases isTupG v with
    | true => exact Nat.add_le_add_left tups_sz _
    | false => exact Nat.le_trans tups_sz (Nat.le_add_left _ _)
theorem len_sz : ∀ {l : List SV}, l.length ≤ treesSz l
  | [] => Nat.le_refl _
  | v :: r => by
    have := treeSz_pos (v := v)
    have := len_sz (l := r)
    simp only [List.length_cons, treesSz]; omega
theorem tups_all : ∀ {l : List SV}, ∀ x ∈ tups l, isTupG x = true
  | [], x, h => nomatch h
  | v :: r, x, h => by
    unfold tups at h
    refine bc (b := isTupG v) (fun q => ?_) fun q => ?_
    · replace h := q ▸ h
      rcases List.mem_cons.mp h with rfl | h
      · exact q
      · exact tups_all x h
    · replace h := q ▸ h; exact tups_all x h
theorem notTup_has {v : SV} {b : Bool} (h : treeHas v = some b) (q : isTupG v = false) : b = false := by
  cases v <;> first | ((first | exact ft q | cases q); done) | ((first | exact ns h | obtain rfl := ss h); rfl) | exact ns h
theorem tups_has : ∀ {l : List SV} {b : Bool}, treesHave l = some b → treesHave (tups l) = some b
  | [], _, h => h
  | v :: r, b, h => by
    unfold treesHave at h
    cases q1 : treeHas v with
    | none => simp only [q1] at h; exact ns h
    | some u =>
      refine oc (o := treesHave r) (fun q2 => ?_) fun y q2 => ?_
      · simp only [q1, q2] at h; exact ns h
      · simp only [q1, q2] at h
        unfold tups
        cases q : isTupG v with
        | true => simp only [treesHave, q1, tups_has q2, h]
        | false =>
          obtain rfl := notTup_has q1 q
          rw [Bool.false_or] at h
          rw [← h]; exact tups_has q2
set_option tactic.hygienic true in
theorem tups_vr : ∀ {l : List SV} {vs : List Value} {b : Bool}, VRs K γ n d l vs → treesHave l = some b → VRs K γ n d (tups l) (vs.filter isRef)
  | _, _, _, .nil, _ => .nil
  | v :: r, _, b, .cons (v := x) h1 h2, h => by
    unfold treesHave at h
    refine oc (o := treeHas v) (fun q1 => ?_) fun u q1 => ?_
    · simp only [q1] at h; exact ns h
    · cases q2 : treesHave r with
      | none => simp only [q1, q2] at h; exact ns h
      | some y =>
        have ih := tups_vr h2 q2
        cases h1 <;> first
          | ((first | exact ns q1 | obtain rfl := ss q1); done)
          | (skip; exact ih)
          | (rename_i t hr; skip; exact .cons (.tup t hr) ih)
theorem have_append : ∀ {l r : List SV} {a b : Bool}, treesHave l = some a → treesHave r = some b → treesHave (l ++ r) = some (a || b)
  | [], r, a, b, h1, h2 => by obtain rfl := ss h1; exact h2
  | v :: l, r, a, b, h1, h2 => by
    unfold treesHave at h1
    cases q1 : treeHas v with
    | none => simp only [q1] at h1; exact ns h1
    | some u =>
      refine oc (o := treesHave l) (fun q2 => ?_) fun y q2 => ?_
      · simp only [q1, q2] at h1; exact ns h1
      · simp only [q1, q2] at h1
        obtain rfl := ss h1
        show treesHave (v :: (l ++ r)) = _
        simp only [treesHave, q1, have_append q2 h2, Bool.or_assoc]
theorem sz_append : ∀ {l r : List SV}, treesSz (l ++ r) = treesSz l + treesSz r
  | [], r => (Nat.zero_add _).symm
  | v :: l, r => by
    show treesSz (v :: (l ++ r)) = _
    simp only [treesSz, sz_append, Nat.add_assoc]
theorem VRs.app {l r : List SV} {x y : List Value} (h : VRs K γ n d l x) (h2 : VRs K γ n d r y) : VRs K γ n d (l ++ r) (x ++ y) :=
  VRs.ind K (P := fun l x => VRs K γ n d (l ++ r) (x ++ y)) h2 (fun a _ ih => .cons a ih) h
theorem VRs.unsnoc {l : List SV} {vs : List Value} (h : VRs K γ n d l vs) : l ≠ [] → ∃ l' g vs' v, l = l' ++ [g] ∧ vs = vs' ++ [v] ∧ VRs K γ n d l' vs' ∧ VR K γ n d g v :=
  VRs.ind K (P := fun l vs => l ≠ [] → ∃ l' g vs' v, l = l' ++ [g] ∧ vs = vs' ++ [v] ∧ VRs K γ n d l' vs' ∧ VR K γ n d g v) (fun h => absurd rfl h) (fun {x} {v} {l} {vs} a b ih _ => by
    cases b with
    | nil => exact ⟨[], x, [], v, rfl, rfl, .nil, a⟩
    | cons _ _ =>
      refine x44 (ih (fun e => nomatch e)) fun l' g vs' u e1 e2 h1 h2 => ?_
      exact ⟨x :: l', g, v :: vs', u, by rw [e1]; rfl, by rw [e2]; rfl, .cons a h1, h2⟩) h
theorem have_snoc {l : List SV} {g : SV} {b : Bool} (h : treesHave (l ++ [g]) = some b) : ∃ x y, treesHave l = some x ∧ treeHas g = some y ∧ b = (x || y) := by
  induction l generalizing b with
  | nil =>
    simp only [List.nil_append, treesHave] at h
    cases q : treeHas g with
    | none => replace h := q ▸ h; exact ns h
    | some y => replace h := q ▸ h; simp only [Bool.or_false] at h; exact ⟨false, y, rfl, rfl, (Option.some.inj h).symm⟩
  | cons v l ih =>
    have h : treesHave (v :: (l ++ [g])) = some b := h
    unfold treesHave at h
    refine oc (o := treeHas v) (fun q1 => ?_) fun u q1 => ?_
    · simp only [q1] at h; exact ns h
    · cases q2 : treesHave (l ++ [g]) with
      | none => simp only [q1, q2] at h; exact ns h
      | some w =>
        simp only [q1, q2] at h
        obtain rfl := ss h
        refine x23 (ih q2) fun x y e1 e2 er4 => ?_; subst er4
        exact ⟨u || x, y, by simp only [treesHave, q1, e1], e2, (Bool.or_assoc _ _ _).symm⟩
end
end Mine
end
section
open PySem PySem.W PyProof.Rows PySem.Calls
set_option tactic.hygienic false
set_option maxRecDepth 100000
namespace Mine
section
variable {W : Wk} {p : Program} {loose : List Str} {mg mb : Str → Option Value} {dp un : Nat} {gd : Option (List Code)} {cn : Str} {a : Addr} {ccd : Value} {outer : List Env} {h₀ : Heap} {L : Addr} {s : Shared} {γ : G} {n d : Nat}
noncomputable def HcInv (W : Wk) (γ : G) (n d : Nat) (h₀ : Heap) (L q : Addr) (b : Bool) (s : Shared) (k : Nat) (s' : Shared) : Prop :=
  ∃ h' tk' m' gs vs kk, s' = { s with heap := h', toks := tk' } ∧ Fr h₀ L h' m' ∧ News h₀ L h' [(q, listOf vs.toArray kk)] ∧ m' "left" = some (.ref q) ∧ VRs W.K γ n d gs vs ∧ (∀ g ∈ gs, isTupG g = true) ∧ treesHave gs = some b ∧ treesSz gs ≤ k ∧ k ≤ 500000
theorem hc_test {q : Addr} {vs : List Value} {kk : Nat} {m : Str → Option Value} {Q : Bool → Shared → Prop} {E : Value → Shared → Prop} {whole : Sem Value} (hu : un + 100 < cLine)
    (F : Fr h₀ L s.heap m) (N : News h₀ L s.heap [(q, listOf vs.toArray kk)]) (hl : m "left" = some (.ref q)) (hz : vs.length ≤ 500000)
    (ret : ∀ h' tk', Fr h₀ L h' m → News h₀ L h' [(q, listOf vs.toArray kk)] → Q (!vs.isEmpty) { s with heap := h', toks := tk' }) :
    wpAny (model W.prog W.w) (ktrTop dp un gd cn sc135 L a ccd [] outer) (isTrue hcTst (envX cn sc135 L a ccd []) whole) Q E s := by
  skip
  refine wpAny_isTrue_Compare1 (nameX_L F hl (List_ (args_nil (newList_K F N (fun e h1 F1 N1 lt => ?_) (Nat.zero_le _)))))
  have Nq : News h₀ L h1 [(q, listOf vs.toArray kk)] := Mine.News.sub N1 fun p hp => .tail _ hp
  have ge := (N1 _ (.head _)).1
  have gq := (N1 _ (.tail _ (.head _))).1
  cases vs with
  | nil =>
    refine SeqAt.compareNe_reads (reads_list_at gq rfl rfl (by simpa using ReadsAll.nil)) (reads_list_at ge rfl rfl (by simpa using ReadsAll.nil)) rfl rfl ?_ (wpAny_truthy_bool ?_)
    · show un + _ < _; skip; exact lo4 (by assumption) (by decide)
    · exact ret h1 s.toks F1 Nq
  | cons v r =>
    refine SeqAt.RcNeAt.lists_lengths ⟨_, gq, rfl, _, rfl⟩ ⟨_, ge, rfl, _, rfl⟩ ?_ (by show un < _; exact lo1 (by assumption)) W.prog W.w _ _ (wpAny_truthy_bool ?_)
    · rw [bne_iff_ne]; simp
    · exact ret h1 s.toks F1 Nq
theorem pop_last {vs : List Value} {v : Value} : (vs ++ [v]).toArray.eraseIdxIfInBounds ((vs ++ [v]).toArray.size - 1) = vs.toArray := by
  apply Array.ext'
  simp [Array.eraseIdxIfInBounds, List.eraseIdx_append_of_length_le]
theorem hc_pop {q : Addr} {vs : List Value} {v : Value} {kk : Nat} {m : Str → Option Value} {Q : Flow → Shared → Prop} {E : Value → Shared → Prop}
    (F : Fr h₀ L s.heap m) (N : News h₀ L s.heap [(q, listOf (vs ++ [v]).toArray kk)]) (hl : m "left" = some (.ref q)) (hz : vs.length ≤ 500000)
    (ret : ∀ h' tk' kk', Fr h₀ L h' (fun y => if y = "here" then some v else m y) → News h₀ L h' [(q, listOf vs.toArray kk')] → Q .next { s with heap := h', toks := tk' }) :
    wpAny (model W.prog W.w) (ktrTop dp un gd cn sc135 L a ccd [] outer) (exec hcPop (envX cn sc135 L a ccd [])) Q E s := by
  have gq := N _ (.head _)
  skip
  refine wpAny_Assign_Name (meth_node (by rfl) (by rfl) (by rfl) (nameX_L F hl fun pl => getMethod_list_of PySem.F.slot_list_pop PySem.F.type_list_pop ⟨_, gq.1, rfl, _, rfl⟩ ⟨_, gq.1, rfl⟩ ?_))
  refine PySem.P.pop_list (y := v) gq.1 (by simp) ?_ (by unfold sizeLine; simp; exact Nat.le_trans (by assumption) (by decide))
  have q1 := PySem.IsL.update gq.1 fun xs => xs.eraseIdxIfInBounds ((vs ++ [v]).toArray.size - 1)
  rw [pop_last] at q1
  have hs := Heap.SameBut.update s.heap q (Obj.mapSeq fun xs => xs.eraseIdxIfInBounds ((vs ++ [v]).toArray.size - 1))
  have F2 := F.change hs gq.2.1 gq.2.2
  have N2 : News h₀ L (s.heap.update q (Obj.mapSeq fun xs => xs.eraseIdxIfInBounds ((vs ++ [v]).toArray.size - 1))) [(q, listOf vs.toArray _)] := fun p hp => by rw [List.mem_singleton.mp hp]; exact ⟨q1, gq.2⟩
  exact storeX_L F2 N2 fun h' F' N' => ret h' _ _ F' N'
theorem heads_short {l : List SV} (h : l.length ≤ 3) : headCalls l = false := by
  match l, h with
  | [], _ => rfl
  | [a], _ => cases a <;> rfl
  | [a, _], _ => cases a <;> rfl
  | [a, _, _], _ => cases a <;> rfl
set_option tactic.hygienic true in
theorem heads_any {g : SV} {r : List SV} {u : Bool} (h : treeHas g = some u) (hl : 3 ≤ r.length) : (([.str "call", .str "builtin", .str "receive"] : List PyData).any fun y => PyData.eqv y (gD g)) = headCalls (g :: r) := by
  obtain ⟨a, b, c, r, rfl⟩ : ∃ a b c r', r = a :: b :: c :: r' := by
    match r, hl with
    | a :: b :: c :: r, _ => exact ⟨a, b, c, r, rfl⟩
  cases g <;> first
    | ((first | exact ns h | obtain rfl := ss h); done)
    | (simp only [List.any_cons, List.any_nil, gD, PyData.eqv, headCalls, sB_eq, Bool.or_false]; rename_i s; rw [BEq.comm (a := s), BEq.comm (a := s), BEq.comm (a := s), Bool.or_assoc]; done)
    | rfl
theorem hc_if {ta q : Addr} {vs ws : List Value} {k kk : Nat} {l : List SV} {y : Bool} {m : Str → Option Value} {Q : Flow → Shared → Prop} {E : Value → Shared → Prop} (X : (kn W.w.params).In h₀) (T : TopRead p loose mg mb h₀)
    (hT : ∀ a o, Tups W.K γ a o → h₀.get? a = some o) (hu : un + 100 < cLine)
    (F : Fr h₀ L s.heap m) (N : News h₀ L s.heap [(q, listOf ws.toArray kk)]) (hh : m "here" = some (.ref ta)) (ho : h₀.get? ta = some (tupO vs k)) (hv : VRs W.K γ n d l vs) (hy : treesHave l = some y) (hz : vs.length ≤ 500000)
    (rt : headCalls l = true → ∀ h' tk', Fr h₀ L h' m → Q (.ret (.bool true)) { s with heap := h', toks := tk' })
    (rf : headCalls l = false → ∀ h' tk', Fr h₀ L h' m → News h₀ L h' [(q, listOf ws.toArray kk)] → Q .next { s with heap := h', toks := tk' }) :
    wpAny (model W.prog W.w) (ktrTop dp un gd cn sc135 L a ccd [] outer) (exec hcIf (envX cn sc135 L a ccd [])) Q E s := by
  have gt := F.keep _ _ ho
  skip
  refine wpAny_If (isTrue_and (wpAny_isTrue_Compare1 (Call_ (nameX_B F X T (hc_g _) hc_bl (by decide) ?_))))
  refine callWith_any (k := 28) (Pr := fun _ => True) (by rfl) (fun _ _ => kept_builtin) (args_cons (nameX_L F hh (args_nil ⟨trivial, len_tuple ⟨_, gt, rfl, _, rfl⟩ (by rw [List.size_toArray]; exact io (by assumption) (by decide)) ?_⟩)))
  refine wpAny_Constant_int (gt_int (wpAny_truthy_bool ?_))
  rw [List.size_toArray]
  have hlen : vs.length = l.length := hv.len
  by_cases hc : 3 < vs.length
  · rw [show decide ((vs.length : Int) > 3) = true from decide_eq_true (by omega)]
    rw [if_pos rfl]
    obtain ⟨g0, gr, rfl⟩ : ∃ g0 gr, l = g0 :: gr := by cases l with
      | nil => rw [hlen] at hc; exact absurd hc (by decide)
      | cons v0 vr => exact ⟨_, _, rfl⟩
    refine x23 hv.view fun v0 vr er2 h0 hr => ?_; subst er2
    obtain ⟨u0, hu0⟩ : ∃ u, treeHas g0 = some u := by
      unfold treesHave at hy
      cases q : treeHas g0 with
      | none => simp only [q] at hy; exact ns hy
      | some u => exact ⟨u, rfl⟩
    refine x12 (ground_reads hT h0 u0 hu0) fun as0 r0 c0 => ?_
    refine isTrue_and (wpAny_isTrue_Compare1 (Subscript_ (nameX_L F hh (wpAny_Constant_int (subTail (T := "tuple") ⟨_, gt, rfl⟩ slot_tuple_getitem.lookup rfl (getItem_tuple (j := 0) ⟨_, gt, rfl, _, rfl⟩ (by decide) (by decide) ?_ rfl ?_))))))
    · simp [seqIndex?]
    · refine Tuple_ (args_cons (wpAny_Constant_str (args_cons (wpAny_Constant_str (args_cons (wpAny_Constant_str (args_nil (kup_newTuple F N (fun D h' F' N' fresh => ?_) (show 3 ≤ sizeLine by decide)))))))))
      have gD' := (N' _ (.head _)).1
      have Nq : News h₀ L h' [(q, listOf ws.toArray kk)] := Mine.News.sub N' fun p hp => .tail _ hp
      refine SeqAt.in_tuple_reads (xs := [.str "call", .str "builtin", .str "receive"]) (Reads.tuple gD' rfl rfl (by exact ReadsAll.cons (.str _ _) (.cons (.str _ _) (.cons (.str _ _) .nil)))) (Reads.keeps F'.keep r0) (by decide +kernel) c0 ?_ (wpAny_truthy_bool ?_)
      · show un + 1 + min (PyData.depthAll _) _ < _
        skip; exact mo (m := 0) (by assumption) (by decide) (by decide)
      · rw [heads_any (r := gr) hu0 (by have : (v0 :: vr).length = gr.length + 1 := hlen; omega)]
        cases hhc : headCalls (g0 :: gr) with
        | true => rw [if_pos rfl]; exact isTrue_and_nil (wpAny_execs_cons (wpAny_Return_some (wpAny_Constant_bool (rt hhc _ _ F'))))
        | false => rw [if_neg Bool.false_ne_true]; exact wpAny_execs_nil (rf hhc _ _ F' Nq)
  · rw [show decide ((vs.length : Int) > 3) = false from decide_eq_false (by omega)]
    rw [if_neg Bool.false_ne_true]
    have hs : headCalls l = false := heads_short (by omega)
    exact wpAny_execs_nil (rf hs _ _ F N)
theorem have_mem {x : SV} : ∀ {l : List SV} {b : Bool}, treesHave l = some b → x ∈ l → ∃ u, treeHas x = some u
  | v :: r, b, h, hm => by
    unfold treesHave at h
    refine oc (o := treeHas v) (fun q1 => ?_) fun u q1 => ?_
    · simp only [q1] at h; exact ns h
    · cases q2 : treesHave r with
      | none => simp only [q1, q2] at h; exact ns h
      | some w =>
        rcases List.mem_cons.mp hm with rfl | hm
        · exact ⟨u, q1⟩
        · exact have_mem q2 hm
noncomputable abbrev scPart : Scope := ⟨.function, [(".0", .local), ("part", .local), ("isinstance", .globalImplicit), ("tuple", .globalImplicit)], false, false, []⟩
theorem hc_ext {ta q : Addr} {vs ws : List Value} {k kk : Nat} {l : List SV} {y : Bool} {m : Str → Option Value} {Q : Flow → Shared → Prop} {E : Value → Shared → Prop} (X : (kn W.w.params).In h₀) (T : TopRead p loose mg mb h₀)
    (F : Fr h₀ L s.heap m) (N : News h₀ L s.heap [(q, listOf ws.toArray kk)]) (hl : m "left" = some (.ref q)) (hh : m "here" = some (.ref ta)) (ho : h₀.get? ta = some (tupO vs k)) (hv : VRs W.K γ n d l vs) (hy : treesHave l = some y)
    (hT : ∀ a o, Tups W.K γ a o → h₀.get? a = some o) (hz : vs.length + ws.length ≤ 600000)
    (ret : ∀ h' tk' kk', Fr h₀ L h' m → News h₀ L h' [(q, listOf (ws ++ vs.filter isRef).toArray kk')] → Q .next { s with heap := h', toks := tk' }) :
    wpAny (model W.prog W.w) (ktrTop dp un gd cn sc135 L a ccd [] outer) (exec hcExt (envX cn sc135 L a ccd [])) Q E s := by
  have gq := N _ (.head _)
  have gt := F.keep _ _ ho
  skip
  refine wpAny_Expr_any (meth_node (by rfl) (by rfl) (by rfl) (nameX_L F hl fun pl => getMethod_list_of PySem.F.slot_list_extend PySem.F.type_list_extend ⟨_, gq.1, rfl, _, rfl⟩ ⟨_, gq.1, rfl⟩ ?_)) (by rfl) (by rfl)
  refine callWith_any (k := 28) (Pr := fun _ => True) (by rfl) (fun _ _ => kept_builtin) (args_cons ?_ (by rfl))
  refine wpAny_ListComp_free isRef (fun v y => y = v) (cl := []) (by rfl) (by decide) rfl (by decide) (by rfl) ?_ (fun _ => rfl)
  refine nameX_L F hh (wpAny_pyIter_tuple ⟨_, gt, rfl, _, rfl⟩ ?_)
  have hI : @Ne Nat ta s.heap.objs.size := Nat.ne_of_lt (Heap.lt_size gt)
  have up : ∀ b o, s.heap.get? b = some o → (s.heap.push { cls := .type "tuple_iterator", data := .fields #[.ref ta, .int 0 0] }).get? b = some o := fun b o e => Heap.get?_push_of_some _ e
  have k3 : ∀ (s₃ : Shared), (∀ b o, b ∉ [s.heap.objs.size] → (s.heap.push { cls := .type "tuple_iterator", data := .fields #[.ref ta, .int 0 0] }).get? b = some o → s₃.heap.get? b = some o) → ∀ b o, s.heap.get? b = some o → s₃.heap.get? b = some o := fun s₃ hk b o e =>
    hk b o (fun h => Nat.ne_of_lt (Heap.lt_size e) (List.mem_singleton.mp h)) (up b o e)
  refine ⟨s.heap.objs.size, [s.heap.objs.size, ta], [s.heap.objs.size], vs.toArray.size, _, _, rfl, Walks.tuple rfl s.heap.objs.size ta hI vs.toArray, by rw [List.size_toArray]; skip; exact Nat.le_trans (Nat.le_add_right _ _) (Nat.le_trans (by assumption) (by decide)), ⟨⟨_, Heap.get?_push_size _ rfl, rfl, rfl⟩, ⟨_, up _ _ gt, rfl, _, rfl⟩⟩, fun b hb => ?_, ⟨fun C i v s₃ m₃ E' hC hP hn hm hk htk => ?_, fun C i v s₃ m₃ E' hC hP hp hn hm hk htk => ?_⟩, fun D h' tk ys xs hD hL hPl hlen hP hF hk => ?_⟩
  · show b < (s.heap.push _).objs.size
    rw [Heap.size_push]
    rcases List.mem_cons.mp hb with rfl | hb
    · exact Nat.lt_succ_self _
    · rw [List.mem_singleton.mp hb]; exact Nat.lt_succ_of_lt (Heap.lt_size gt)
  · refine wpAny_tests_one (wpAny_isTrue_value (Call_ ?_) (by rfl))
    have kh : ∀ b o, h₀.get? b = some o → s₃.heap.get? b = some o := fun b o e => k3 s₃ hk b o (F.keep _ _ e)
    refine Name_function_global (by rfl) (by rfl) (loadGlobal_builtin (env := compEnvC scPart [] C (envX cn sc135 L a ccd [])) (T.g.keeps kh) (mg_none_of X T.g (hc_gi _)) (T.b.keeps kh) ((T.builtins _ (by decide)).trans hc_bi) ?_) (by decide)
    refine callWith_any (k := 28) (Pr := fun _ => True) (by rfl) (fun _ _ => kept_builtin) (args_cons (wpAny_Name (wpAny_loadName_local (by rfl) (by rfl) hn hm ?_) (by decide)))
    refine args_cons (Name_function_global (by rfl) (by rfl) (loadGlobal_builtin (env := compEnvC scPart [] C (envX cn sc135 L a ccd [])) (T.g.keeps kh) (mg_none_of X T.g (hc_gt _)) (T.b.keeps kh) ((T.builtins _ (by decide)).trans hc_bt) ?_) (by decide))
    refine args_nil ⟨trivial, ?_⟩
    refine x12 (VRs_get hv (j := i) (by simpa using hP)) fun x hx hxv => ?_
    refine x11 (have_mem hy hx) fun u hu => ?_
    have kp : ∀ {s₃ : Shared} {tk : Nat}, Keeps s₃ { s₃ with toks := tk } := ⟨_, _, rfl, fun _ _ e => e⟩
    cases hxv with
    | bool b => exact PySem.call_isinstance (PySem.isinstance_false_bool (by decide) PyProof.Rows.meta_tuple (by rw [isSubtype_type]; kernel_rfl)) (wpAny_truthy_bool ⟨rfl, kp⟩)
    | int i t => exact PySem.call_isinstance (PySem.isinstance_false_int (by decide) PyProof.Rows.meta_tuple (by rw [isSubtype_type]; kernel_rfl)) (wpAny_truthy_bool ⟨rfl, kp⟩)
    | str t q => exact PySem.call_isinstance (PySem.isinstance_false_str (by decide) PyProof.Rows.meta_tuple (by rw [isSubtype_type]; kernel_rfl)) (wpAny_truthy_bool ⟨rfl, kp⟩)
    | tup t hr => exact call_isinstance_yes (Tx := "tuple") ⟨_, kh _ _ (hT _ _ t), rfl⟩ PyProof.Rows.meta_tuple (by rw [isSubtype_type]; kernel_rfl) (wpAny_truthy_bool ⟨rfl, kp⟩)
    | _ => exact ns hu
  · refine wpAny_Name (wpAny_loadName_local (by rfl) (by rfl) hn hm ⟨rfl, _, _, rfl, fun _ _ e => e⟩) (by decide)
  · have kk' : ∀ b o, s.heap.get? b = some o → h'.get? b = some o := fun b o e => hk b o (fun h => Nat.ne_of_lt (Heap.lt_size e) (List.mem_singleton.mp h)) (up b o e)
    have F3 : Fr h₀ L h' m := F.keeps kk'
    have hq := kk' _ _ gq.1
    refine x11 hPl fun n2 hD' => ?_
    have exs : xs = vs := by
      apply List.ext_getElem?
      intro j
      cases e : xs[j]? with
      | some v => have := hP j v e; simpa using this.symm
      | none =>
        have h1 : xs.length ≤ j := List.getElem?_eq_none_iff.mp e
        rw [List.getElem?_eq_none_iff.mpr]
        rw [hlen, List.size_toArray] at h1; exact h1
    subst exs
    have eys : ys = (xs.filter isRef).toArray := by
      apply Array.ext'
      have : ∀ (l : List Value) (r : List Value), Paired (fun v y => y = v) l r → r = l := fun l r h => by
        induction h with
        | nil => rfl
        | cons e _ ih => rw [e, ih]
      exact this _ _ hF
    subst eys
    have hfl : (xs.filter isRef).length ≤ xs.length := List.length_filter_le _ _
    refine args_nil ⟨trivial, call_meets PySem.F.slot_list_extend ⟨_, hq, rfl⟩ PySem.F.entry_list_extend (PySem.F.args_list_extend_2 _ _) (PySem.AutoSeq1.list_extend_list_list_0 q ws.toArray kk D (xs.filter isRef).toArray n2 ?_ ?_ ?_) ⟨hq, hD', ?_⟩⟩
    · simp only [Builtin.List.listTooLong, List.size_toArray, Bool.and_eq_true, decide_eq_true_eq, not_and]
      intro _
      have : (600001 : Nat) ≤ sizeLine := by decide
      omega
    · rw [List.size_toArray]; unfold sizeLine; omega
    · simp only [List.size_toArray]; unfold sizeLine; omega
    · have q1 := PySem.IsL.update hq fun x => x ++ (xs.filter isRef).toArray
      have e : ws.toArray ++ (xs.filter isRef).toArray = (ws ++ xs.filter isRef).toArray := by simp
      simp only [e] at q1
      have hs := Heap.SameBut.update h' q (Obj.mapSeq fun x => x ++ (xs.filter isRef).toArray)
      exact ret _ tk _ (F3.change hs gq.2.1 gq.2.2) fun p hp => by rw [List.mem_singleton.mp hp]; exact ⟨q1, gq.2⟩
end
end Mine
end
section
open PySem PySem.W PyProof.Rows PySem.Calls
set_option tactic.hygienic false
set_option maxRecDepth 100000
namespace Mine
section
variable {W : Wk} {p : Program} {loose : List Str} {mg mb : Str → Option Value} {dp un : Nat} {gd : Option (List Code)} {cn : Str} {a : Addr} {ccd : Value} {outer : List Env} {h₀ : Heap} {L : Addr} {s : Shared} {γ : G} {n d : Nat}
set_option tactic.hygienic true in
theorem calls_body {v : Value} {g : SV} {b : Bool} {Q : Flow → Shared → Prop} {E : Value → Shared → Prop} (X : (kn W.w.params).In h₀) (T : TopRead p loose mg mb h₀) (hT : ∀ a o, Tups W.K γ a o → h₀.get? a = some o) (hg : VR W.K γ n d g v) (ht : treeHas g = some b) (hi : isTupG g = true) (hz : treeSz g ≤ 500000)
    (hu : un + 100 < cLine) (F : Fr h₀ L s.heap fun x => ([(("made" : Str), v)] : List (Str × Value)).reverse.lookup x)
    (ret : ∀ h' tk' m', Fr h₀ L h' m' → Q (.ret (.bool b)) { s with heap := h', toks := tk' }) :
    wpAny (model W.prog W.w) (ktrTop dp un gd cn sc135 L a ccd [] outer) (execs body135 (envX cn sc135 L a ccd [])) Q E s := by
  unfold body135
  skip
  refine wpAny_execs_cons (wpAny_Assign_Name (List_ (args_cons (nameX_L F rfl (args_nil (newList_K F (news := []) (fun p hp => nomatch hp) (fun q h1 F1 N1 _ => storeX_L F1 N1 fun h2 F2 N2 => ?_) (show 1 ≤ sizeLine by decide)))))))
  skip
  refine wpAny_execs_cons (wpAny_While (codeAny_whileLoop (HcInv W γ n d h₀ L q b s) ?_ (treeSz g) ⟨h2, _, _, [g], [v], _, rfl, F2, N2, rfl, .cons hg .nil, fun x hx => by rw [List.mem_singleton.mp hx]; exact hi, by simp only [treesHave, ht, Bool.or_false], by skip; exact Nat.le_refl _, hz⟩))
  rintro k s' ⟨h', tk', m', gs, vs, kk, rfl, F, N, hl, hv, hi, hh, hz, hk⟩
  have hlen := hv.len
  have hsz := len_sz (l := gs)
  refine hc_test hu F N hl (by omega) fun h1 tk1 F1 N1 => ?_
  cases vs with
  | nil =>
    cases hv
    obtain rfl := ss hh
    skip
    exact wpAny_execs_nil (wpAny_execs_cons (wpAny_Return_some (wpAny_Constant_bool (ret h1 tk1 _ F1))))
  | cons v0 vr =>
    refine x44 (hv.unsnoc (fun e => by rw [e] at hlen; simp at hlen)) fun l' g1 vs' v1 er4 e2 hv1 hg1 => ?_; subst er4
    rw [e2] at N1 hlen
    have ht1 : isTupG g1 = true := hi g1 (List.mem_append.mpr (.inr (.head _)))
    refine x23 (have_snoc hh) fun x y hx hy er4 => ?_; subst er4
    cases hg1 <;> first
      | ((first | exact tf ht1 | cases ht1); done)
      | skip
    rename_i l ta ws kw hta hws
    rw [sz_append] at hz
    have hz1 : treesSz l' + (treesSz l + 1 + 0) ≤ k := hz
    obtain ⟨c0, hc0, hyc⟩ : ∃ c0, treesHave l = some c0 ∧ y = (headCalls l || c0) := by
      unfold treeHas at hy
      cases q : treesHave l with
      | none => simp only [q] at hy; exact ns hy
      | some c0 => simp only [q] at hy; exact ⟨c0, rfl, (Option.some.inj hy).symm⟩
    have ho := hT _ _ hta
    have h5 := hv1.len
    have h6 := len_sz (l := l')
    have h7 := hws.len
    have h8 := len_sz (l := l)
    refine wpAny_execs_cons (hc_pop F1 N1 hl (by omega) fun h3 tk3 kk3 F3 N3 => ?_)
    refine wpAny_execs_cons (hc_if X T hT hu F3 N3 (if_pos rfl) ho hws hc0 (by omega) (fun hc h4 tk4 F4 => ?_) fun hc h4 tk4 F4 N4 => ?_)
    · have : (x || y) = true := by rw [hyc, hc]; simp
      rw [this] at ret
      exact ret h4 tk4 _ F4
    · refine wpAny_execs_cons (hc_ext X T F4 N4 ((if_neg (by decide)).trans hl) (if_pos rfl) ho hws hc0 hT (by omega) fun h5 tk5 kk5 F5 N5 => ?_)
      refine wpAny_execs_nil ⟨treesSz l' + treesSz l, by assumption, h5, tk5, _, l' ++ tups l, _, kk5, rfl, F5, N5, (if_neg (by decide)).trans hl, hv1.app (tups_vr hws hc0), fun z hz => ?_, ?_, ?_, by omega⟩
      · refine Or.elim (List.mem_append.mp hz) (fun hz => ?_) fun hz => ?_
        · exact hi z (List.mem_append.mpr (.inl hz))
        · exact tups_all z hz
      · rw [have_append hx (tups_has hc0), hyc, hc, Bool.false_or]
      · rw [sz_append]; exact Nat.add_le_add_left tups_sz _
end
section
variable {W : Wk} {c : Cx} {σ : St} {γ : G} {s : Shared}
theorem SR.kept {h' : Heap} {tk : Nat} (S : W.SR c σ γ s) (k : ∀ b o, s.heap.get? b = some o → h'.get? b = some o) : W.SR c σ γ { s with heap := h', toks := tk } := by
  refine x12 (S.fr) fun m F Ev => ?_
  refine x14 (S.nw) fun H hH N nd ap => ?_
  exact S.grown Ev hH nd ap (F.keeps k) fun p hp => ⟨k _ _ (N p hp).1, (N p hp).2⟩
theorem calls_ok (hK : W.K = kn W.w.params) : CallsOK W := by
  intro c σ γ s k x hk hG hS hR hv Q E P
  refine x14 hv.view fun g h1 h2 h3 hg => ?_
  refine x12 (hS.fr) fun m0 F0 Ev0 => ?_
  have X : (kn W.w.params).In s.heap := hK ▸ hS.K hG
  have X0 : (kn W.w.params).In c.h₀ := hK ▸ hG.X
  have hfd := hc_fd
  refine wpAny_call (codeAny_call_def (fd := hcFd) (body := body135) (binds := [(("made" : Str), x)]) (by have := hR.d; show c.dp < recursionLimit; exact lo1 (by assumption)) (X _ _ (hc_lk _)) rfl (hG.T.nolimit.keeps F0.keep) (codeRec_of X (by rw [hfd]; exact hc_cd _)) (by rw [hfd]) (kp_binds X fun S => hc_bd _ S _)
    (by rw [hfd]; exact noCellB_ok (by rfl)) (fun x hx => by rw [hfd]; simp only [List.mem_cons, List.not_mem_nil, or_false] at hx; rcases hx with rfl <;> rfl) ?_ (by rw [hfd]) (by rw [hfd]) (by rw [hfd]))
  intro h₁ hns k1
  have henv : callEnv hcFd s.heap.objs.size 881 = envX (Str.ofString "has_calls") sc135 s.heap.objs.size 881 (.ref 880) [] := by rw [hfd]; rfl
  show wpAny _ _ (execs body135 (callEnv hcFd s.heap.objs.size 881)) _ _ _
  rw [henv]
  refine calls_body (W := W) (γ := γ) (n := σ.next) (d := σ.doms.length) (b := oddB k) (dp := c.dp + 1) (un := c.un + 3) (gd := c.gd) (cn := Str.ofString "has_calls") (a := 881) (ccd := .ref 880) (outer := c.env :: c.outer) (h₀ := s.heap) (L := s.heap.objs.size) X ((topRead_of hG.T).keeps F0.keep) (fun a o t => hS.tups hG.X t) hg h1 h2 (by omega) (by have := hR.u; show c.un + 3 + 100 < cLine; exact lo6 (by assumption) (by decide)) ⟨hns, k1, Nat.le_refl _⟩ ?_
  intro h' tk' m' F'
  exact P _ _ (.head _) γ _ (Ext.refl _ _) (SR.kept hS F'.keep) _ (.bool _)
end
end Mine
end
section
open PySem PySem.W PyProof.Rows PySem.Calls
set_option tactic.hygienic false
set_option maxRecDepth 100000
namespace Mine
section
variable {W : Wk} {c : Cx} {σ : St} {γ : G} {s : Shared} {o : Out SV} {args : List SV} {args' : List Value}
theorem keep381 (B : Base W) : keepIn W.K (.ref 381) = true := by rw [B.K]; kernel_rfl
theorem keep1398 (B : Base W) : keepIn W.K (.ref 1398) = true := by rw [B.K]; kernel_rfl
theorem keep1405 (B : Base W) : keepIn W.K (.ref 1405) = true := by rw [B.K]; kernel_rfl
theorem keep1410 (B : Base W) : keepIn W.K (.ref 1410) = true := by rw [B.K]; kernel_rfl
theorem keep1420 (B : Base W) : keepIn W.K (.ref 1420) = true := by rw [B.K]; kernel_rfl
theorem rows_ok (B : Base W) {one : SV} {x1 x2 x3 x4 : Value} : ∀ {rows : List (SV × Res SV)} {o : Out SV}, (∀ p ∈ rows, vB 64 p.1 = true ∧ ∀ fz, wantRun p.1 p.2 fz = true) → rowsR one σ rows = some o → Good W c → W.SR c σ γ s → Room 41 c →
    VRs W.K γ σ.next σ.doms.length [.obj 55, namedT "main.F", one, .int 5] [x1, x2, x3, x4] → Desc W c σ γ s (call (.ref 381) [x1, x2, x3, x4]) (VRel W) o
  | [], _, _, h, _, _, _, _ => by exact ns h
  | (t, r) :: l, o, hl, h, hG, hS, hR, ha => by
    skip
    refine mk' h (fun q h => ?_) fun q h => ?_
    · exact rows_ok B (fun p hp => hl p (.tail _ hp)) h hG hS hR ha
    · rw [← svB_eq q] at ha
      have hv : vsB 64 [.obj 55, namedT "main.F", t, .int 5] = true := by
        have := (hl _ (.head _)).1
        show (match vB 64 t with | true => _ | false => false) = true
        rw [this]; rfl
      exact summ_ok (sem_ok (base_ok B) 40) (hl _ (.head _)).2 hWant_v (by decide) plainAb_ok rfl hv h hG hS hR ha
theorem wantRows_ok : ∀ p ∈ wantRows, vB 64 p.1 = true ∧ ∀ fz, wantRun p.1 p.2 fz = true := by
  intro p hp
  simp only [wantRows, List.mem_cons, List.not_mem_nil, or_false] at hp
  rcases hp with rfl | rfl | rfl | rfl | rfl
  · exact ⟨rfl, want1⟩
  · exact ⟨rfl, want2⟩
  · exact ⟨rfl, want3⟩
  · exact ⟨rfl, want4⟩
  · exact ⟨rfl, want5⟩
theorem wantR_ok (B : Base W) (h : wantR args σ = some o) (hG : Good W c) (hS : W.SR c σ γ s) (hR : Room 41 c) (ha : VRs W.K γ σ.next σ.doms.length args args') : Desc W c σ γ s (call (.ref 381) args') (VRel W) o := by
  intro Q E P
  refine x12 (om h) fun one _ h1 => ?_
  refine x02 (bm h1) fun q h2 => ?_
  obtain rfl := svsB_eq q
  · obtain ⟨_, _, rfl, v1, ha⟩ := ha.view
    obtain ⟨_, _, rfl, v2, ha⟩ := ha.view
    obtain ⟨_, _, rfl, v3, ha⟩ := ha.view
    obtain ⟨_, _, rfl, v4, ha⟩ := ha.view
    cases ha
    refine y3_7 (forced_ok h2 hS v3) fun t τ o1 e1 sub hv _ S' x _ => ?_
    exact rows_ok B wantRows_ok e1 hG S' hR (.cons (v1.later x.later) (.cons (v2.later x.later) (.cons hv (.cons (v4.later x.later) .nil)))) Q E (P.back sub x)
theorem C1_ok (B : Base W) : CfgOK W C1 41 := (base_ok B).more (by decide) (fun a args σ m h => by
    rw [Nat.eq_of_beq_eq_true (bm h).1]; exact keep381 B) fun a args σ o h c γ s args' hG hS hR ha => by
    rw [Nat.eq_of_beq_eq_true (bm h).1]; exact wantR_ok B (Option.some.inj (bm h).2) hG hS hR ha
theorem reel_v : heapV 64 [(63, .reel)] = true := by decide
theorem treeRow_ok {d r : Nat} (CO : CfgOK W (CT d) r) (hN : 64 ≤ treeN d) (hev : ∀ fz, runOK (treeAb (treeB d)) 64 (fun j => low63 j && allJ j) (setT 4 (sel allJ [(63, .reel)])) (treeRes (treeB d)) ((sem (CT d) 12).cl (.top 1398) [.obj 63, .int (.ofNat d)] ⟨[], [(63, .reel)], treeN d, [], fz⟩) = true)
    (h : treeRow d (treeB d) args σ = some o) (hG : Good W c) (hS : W.SR c σ γ s) (hR : Room (12 + r) c) (ha : VRs W.K γ σ.next σ.doms.length args args') : Desc W c σ γ s (call (.ref 1398) args') (VRel W) o := by
  refine x02 (bm h) fun q h1 => ?_
  obtain rfl := svsB_eq q
  exact summ_ok (sem_ok CO 12) hev reel_v hN treeAb_ok rfl rfl h1 hG hS hR ha
theorem fTree_ok {k r : Nat} (B : Base W) (hr : 1 ≤ r) (h : ∀ e, e < k → ∀ args σ o, treeRow e (treeB e) args σ = some o → ∀ c γ s args', Good W c → W.SR c σ γ s → Room r c → VRs W.K γ σ.next σ.doms.length args args' → Desc W c σ γ s (call (.ref 1398) args') (VRel W) o) : CfgOK W (CT k) r :=
  (base_ok B).more hr (fun a args σ m h => by
    rw [Nat.eq_of_beq_eq_true (bm h).1]; exact keep1398 B) fun a args σ o h' c γ s args' hG hS hR ha => by
    refine x02 (bm h') fun e0 h1 => ?_
    refine x12 (om h1) fun v _ h2 => ?_
    refine x12 (om h2) fun e _ h3 => ?_
    refine x02 (bm h3) fun lt h4 => ?_
    rw [Nat.eq_of_beq_eq_true e0]
    exact h e (Nat.le_of_ble_eq_true lt) _ _ _ (Option.some.inj h4) _ _ _ _ hG hS hR ha
theorem CT0_ok (B : Base W) : CfgOK W (CT 0) 1 := fTree_ok B (Nat.le_refl _) fun e h => absurd h (Nat.not_lt_zero _)
theorem CT1_ok (B : Base W) : CfgOK W (CT 1) 13 := fTree_ok B (by decide) fun e h args σ o h' c γ s args' hG hS hR ha => by
  obtain rfl : e = 0 := by omega
  exact treeRow_ok (CT0_ok B) (by decide) tree0_run h' hG hS hR ha
theorem CT2_ok (B : Base W) : CfgOK W (CT 2) 25 := fTree_ok B (by decide) fun e h args σ o h' c γ s args' hG hS hR ha => by
  match e, h with
  | 0, _ => exact treeRow_ok (CT0_ok B) (by decide) tree0_run h' hG hS (hR.le (by decide)) ha
  | 1, _ => exact treeRow_ok (CT1_ok B) (by decide) tree1_run h' hG hS hR ha
end
end Mine
end
section
open PySem PySem.W PyProof.Rows PySem.Calls
set_option tactic.hygienic false
set_option maxRecDepth 100000
namespace Mine
noncomputable def sumRow (p q : Nat → Bool) (t : Nat) (hW : List (Nat × MO)) (args : List SV) (σ : St) : R SV := guardO (svsB args [.obj 63, .obj 55]) <| summR p q t hW 64 1000 trueRes σ
noncomputable def callsT (v : SV) (σ : St) : R SV := Option.bind (hasIn σ v) fun b => guardO (Nat.ble (szIn σ v) 400000) <| okR (.bool b) σ
noncomputable def fCalls (args : List SV) (σ : St) : Option (R SV) := Option.bind (single args) fun v => Option.bind (tupOf v) fun l => some (callsT (.tup l) σ)
noncomputable def lawT : List (Nat × (List SV → St → Option (R SV))) := [(1398, fun args σ => some (treeRow 2 10000 args σ)), (1405, fun args σ => some (sumRow low allJ 0 hFull args σ)), (1410, fun args σ => some (sumRow low (notIn [60]) 1 hLoops args σ)), (1420, fun args σ => some (sumRow pCases allJ 2 hCases args σ)), (881, fCalls)]
noncomputable def fLaw (a : Nat) (args : List SV) (σ : St) : Option (R SV) := Option.bind (lkN a lawT) fun f => f args σ
noncomputable def C2 : Cfg := summC cfg0 fLaw
noncomputable def lawNames : List (Str × NameKind) := (fnAt 164 [] false).names
noncomputable def lawBody : List Stmt := (fnAt 164 [] false).body
noncomputable def σs : St := ⟨[("script", .obj 3)], [(0, .tab true), (1, .tab true), (2, .tab true)], 4, [], []⟩
noncomputable def isTabO (o : Option MO) : Bool := match o with
  | some (.tab _) => true
  | _ => false
noncomputable def tabsThere (h : List (Nat × MO)) : Bool := and (isTabO (lkN 0 h)) (and (isTabO (lkN 1 h)) (isTabO (lkN 2 h)))
noncomputable def isRetT : Res Fl → Bool
  | .ok (.ret (.bool b)) => b
  | _ => false
noncomputable def allRet : Out Fl → Bool
  | [] => true
  | (r, τ) :: l => and (isRetT r) (and (tabsThere τ.heap) (allRet l))
noncomputable def allRetR (m : R Fl) : Bool := match m with
  | some o => allRet o
  | none => false
section
variable {W : Wk} {c : Cx} {σ : St} {γ : G} {s : Shared} {o : Out SV} {args : List SV} {args' : List Value}
theorem sumRow_ok {C : Cfg} {m r a t : Nat} {p q : Nat → Bool} {hW : List (Nat × MO)} (CO : CfgOK W C r) (hev : ∀ fz, runOK (plainAb 64) 64 (fun j => p j && q j) (setT t (sel q hW)) trueRes ((sem C m).cl (.top a) [.obj 63, .obj 55] ⟨[], hW, 1000, [], fz⟩) = true) (hv : heapV 64 hW = true) (ht : p t = true)
    (h : sumRow p q t hW args σ = some o) (hG : Good W c) (hS : W.SR c σ γ s) (hR : Room (m + r) c) (ha : VRs W.K γ σ.next σ.doms.length args args') : Desc W c σ γ s (call (.ref a) args') (VRel W) o := by
  refine x02 (bm h) fun e h1 => ?_
  obtain rfl := svsB_eq e
  exact summ_ok (sem_ok CO m) hev hv (by decide) plainAb_ok ht rfl h1 hG hS hR ha
theorem fCalls_ok (B : Base W) (h : fCalls args σ = some (some o)) (hG : Good W c) (hS : W.SR c σ γ s) (hR : Room 1 c) (ha : VRs W.K γ σ.next σ.doms.length args args') : Desc W c σ γ s (call (.ref 881) args') (VRel W) o := by
  refine x12 (om h) fun v e1 h1 => ?_
  refine x12 (om h1) fun l e2 h2 => ?_
  refine x12 (om (Option.some.inj h2)) fun b q1 h3 => ?_
  refine x02 (bm h3) fun q2 h4 => ?_
  rw [single_some e1, tupOf_some e2] at ha
  obtain ⟨_, _, rfl, v1, ha⟩ := ha.view
  cases ha
  obtain rfl := ss h4
  refine x15 (grown hS rfl v1 b q1) fun g g1 g2 g3 _ g5 => ?_
  have key := B.c c σ γ s (treeK 400000 b) _ (by cases b <;> decide) hG hS hR (.tree (by rw [odd_treeK]; exact g2) (g5 rfl) (Nat.le_trans (Nat.le_trans g3 (Nat.le_of_ble_eq_true q2)) half_treeK) g1)
  rw [odd_treeK] at key
  exact key
theorem C2_ok (B : Base W) : CfgOK W C2 61 := (base_ok B).more (by decide) (fun a args σ m h => by
    refine x12 (om h) fun f q _ => ?_
    exact (show AllP (fun p : Nat × (List SV → St → Option (R SV)) => keepIn W.K (.ref p.1) = true) lawT from .cons (keep1398 B) (.cons (keep1405 B) (.cons (keep1410 B) (.cons (keep1420 B) (.cons (by rw [B.K]; kernel_rfl) .nil))))).mem (lkN_mem q)) fun a args σ o h c γ s args' hG hS hR ha => by
    refine x12 (om h) fun f q e => ?_
    exact (show AllP (fun p : Nat × (List SV → St → Option (R SV)) => ∀ o, p.2 args σ = some (some o) → Desc W c σ γ s (call (.ref p.1) args') (VRel W) o) lawT from
      .cons (fun o h => treeRow_ok (CT2_ok B) (by decide) tree2_run (Option.some.inj h) hG hS (hR.le (by decide)) ha)
      (.cons (fun o h => sumRow_ok (base_ok B) truth_run hFull_v rfl (Option.some.inj h) hG hS (hR.le (by decide)) ha)
      (.cons (fun o h => sumRow_ok (base_ok B) loops_run hLoops_v rfl (Option.some.inj h) hG hS (hR.le (by decide)) ha)
      (.cons (fun o h => sumRow_ok (C1_ok B) cases_run hCases_v rfl (Option.some.inj h) hG hS hR ha)
      (.cons (fun o h => fCalls_ok B h hG hS (hR.le (by decide)) ha) .nil))))).mem (lkN_mem q) o e
end
end Mine
end
section
open PySem PySem.W PyProof.Rows PySem.Calls
set_option tactic.hygienic false
set_option maxRecDepth 100000
namespace Mine
theorem law_run : allRetR ((sem C2 24).xs ⟨lawNames, [], none, none⟩ lawBody σs) = true := by kernel_rfl
end Mine
end
section
open PySem PySem.W PyProof.Rows PySem.Calls
set_option tactic.hygienic false
set_option maxRecDepth 100000
namespace Mine
/-! the law's own call -/
noncomputable def lawTabs : List (Addr × Addr) := [(1404, 1400), (1409, 1407), (1419, 1417)]
theorem noTabs_kn (P : Params) : noTabs (kn P) = true := by kernel_rfl
theorem lw_g (P : Params) : nsIn (kn P) mainGlobals "law" = some (some (.ref 1425)) := by kernel_rfl
theorem lw_hd (P : Params) : codeHdIn (kn P) 1404 1400 = true ∧ codeHdIn (kn P) 1409 1407 = true ∧ codeHdIn (kn P) 1419 1417 = true := ⟨by kernel_rfl, by kernel_rfl, by kernel_rfl⟩
theorem law_cells : lawNames.all (fun x => match x.2 with | .cell => false | _ => true) = true := by kernel_rfl
theorem tabsAt {P : Params} {h : Heap} (X : (kn P).In h) (t : ∀ q ∈ ([1400, 1407, 1417] : List Addr), h.get? q = some (tabObj #[])) : TabsAt lawTabs h := by
  intro q hq
  simp only [lawTabs, List.mem_cons, List.not_mem_nil, or_false] at hq
  rcases hq with rfl | rfl | rfl
  · exact ⟨codeHd_of_K X (lw_hd P).1, t _ (by simp)⟩
  · exact ⟨codeHd_of_K X (lw_hd P).2.1, t _ (by simp)⟩
  · exact ⟨codeHd_of_K X (lw_hd P).2.2, t _ (by simp)⟩
theorem table_of {h : Heap} {c P : Addr} (x : CodeHd h c P) : isCodeTable h P := by
  obtain ⟨o, vs, file, tf, flags, tg, inF, text, tt, e1, e2, e3, e4, _⟩ := x
  exact ⟨c, o, vs, e1, e2, e3, e4⟩
noncomputable abbrev lawWk (w : World) (p : Program) (loose : List Str) (mean : ExcName → Option Value) (mg mb : Str → Option Value) (q : Addr) (vs : List Value) : Wk :=
  ⟨PySem.Challenge.pw_xm0202_01, w, kn w.params, p, loose, mean, mg, mb, tabsT ++ [(3, q)], fun h => h.IsList q vs.toArray⟩
section
variable {w : World} {p : Program} {loose : List Str} {mean : ExcName → Option Value} {mg mb : Str → Option Value} {q : Addr} {vs : List Value} {h : Heap}
theorem law_base (X : (kn w.params).In h) (T : Top p loose mean mg mb h) (hv : ∀ v ∈ vs, ∃ i t, v = Value.int i t) (hl : vs.length < 100) : Base (lawWk w p loose mean mg mb q vs) where
  K := rfl
  g := ⟨fun x v e => mg_of X T.g e, fun x e => mg_none_of X T.g e, fun x v e hn => (T.builtins x hn).trans e⟩
  t := fun q hq => List.mem_append.mpr (.inl hq)
  s := fun h e => ⟨q, vs, List.mem_append.mpr (.inr (.head _)), e, hv, hl⟩
  c := calls_ok rfl
set_option tactic.hygienic true in
theorem isRetT_ok {r : Res Fl} (h : isRetT r = true) : r = .ok (.ret (.bool true)) := by
  cases r with
  | ex => exact tf h
  | ok f =>
    cases f <;> try (exact tf h; done)
    rename_i v
    cases v <;> first | ((first | exact tf h | subst h); done) | (subst h; rfl)
theorem allRet_mem : ∀ {o : Out Fl}, allRet o = true → ∀ r τ, (r, τ) ∈ o → r = .ok (.ret (.bool true)) ∧ tabsThere τ.heap = true
  | [], _, _, _, hm => nomatch hm
  | (r, τ) :: l, h, r', τ', hm => by
    refine x02 (am h) fun q1 h1 => ?_
    refine x02 (am h1) fun q2 h2 => ?_
    rcases List.mem_cons.mp hm with e | hm
    · cases e; exact ⟨isRetT_ok q1, q2⟩
    · exact allRet_mem h2 r' τ' hm
theorem isTabO_ok {o : Option MO} (h : isTabO o = true) : ∃ b, o = some (.tab b) := by
  cases o with
  | none => exact tf h
  | some m => cases m <;> first | exact ⟨_, rfl⟩ | exact tf h
theorem tabsThere_some {l : List (Nat × MO)} (h : tabsThere l = true) : ∀ j, j < 3 → ∃ b, lkN j l = some (.tab b) := by
  refine x02 (am h) fun h0 h1 => ?_
  refine x02 (am h1) fun h1 h2 => ?_
  intro j hj
  match j, hj with
  | 0, _ => exact isTabO_ok h0
  | 1, _ => exact isTabO_ok h1
  | 2, _ => exact isTabO_ok h2
noncomputable abbrev lawG (q : Addr) : G := ⟨fun _ => .none, fun j => match j with | 0 => 1400 | 1 => 1407 | 2 => 1417 | _ => q, [], fun _ _ => none⟩
theorem law_at : lkN 1425 fnsT = some (fnAt 164 [] false) := by kernel_rfl
theorem law_callW {W : Wk} (B : Base W) {s₁ : Shared} {Q E : Value → Shared → Prop} (X : W.K.In s₁.heap) (hT : TabsAt lawTabs s₁.heap) (nl : s₁.heap.NoLimit) (Xg : W.K.In (ghostOf s₁.heap lawTabs)) (Tg : Top W.p W.loose W.mean W.mg W.mb (ghostOf s₁.heap lawTabs)) (ex : W.ex (ghostOf s₁.heap lawTabs)) (tb : W.tabs = tabsT ++ [(3, q)])
    (ret : ∀ h' tk', OldK s₁.heap h' → Q (.bool true) { s₁ with heap := h', toks := tk' }) : wpAny (model W.prog W.w) callerA (call (.ref 1425) [.ref q]) Q E s₁ := by
  obtain ⟨oc, od, osl, name, qual, params, scope, dV, kV, doc, pm, an, cdv, ct, hlook, hcode, F, Bd⟩ := (fnAll W W.w.params B.K B.t (1425, fnAt 164 [] false) (lkN_mem law_at)).1
  refine x12 (Bd [.obj 3] [("script", .obj 3)] rfl (lawG q) 4 0 [.ref q] (.cons (.obj (γ := lawG q) (j := 3) (by decide)) .nil)) fun binds' hpk hbr => ?_
  obtain rfl : binds' = [(("script" : Str), .ref q)] := by
    cases hbr with
    | cons a b => cases b; rw [a.view.1]; rfl
  have hcell : ∀ x ∈ scope.names, x.2 ≠ .cell := fun x hx e => by
    rw [F.names] at hx
    have := List.all_eq_true.mp law_cells x hx
    rw [e] at this; exact tf this
  refine wpAny_call (codeAny_call_def (fd := fnX name qual params lawBody scope [] dV kV doc pm an cdv ct) (body := lawBody) (binds := [(("script" : Str), .ref q)]) (by decide) (X _ _ hlook) rfl nl (codeRec_of X hcode) rfl (kp_binds X hpk) hcell (fun x hx => ?_) (fun h₁ hns k1 => ?_) F.co F.gen F.kind)
  · rw [List.mem_singleton.mp hx, F.names]; rfl
  have henv : callEnv (fnX name qual params lawBody scope [] dV kV doc pm an cdv ct) s₁.heap.objs.size 1425 = envX qual scope s₁.heap.objs.size 1425 cdv [] := rfl
  let c : Cx := { dp := callerA.depth + 1, un := callerA.units + 3, gd := callerA.guards, cn := qual, cs := scope, L := s₁.heap.objs.size, a := 1425, ccd := cdv, cl := [], outer := [], tabs := W.tabs, h₀ := ghostOf s₁.heap lawTabs, xt := [], mf := none, s₀ := s₁ }
  show wpAny (model W.prog W.w) c.A (execs lawBody c.env) _ _ _
  have hF1 : Fr c.h₀ c.L h₁ (fun x => ([(("script" : Str), (.ref q : Value))] : List (Str × Value)).reverse.lookup x) := ⟨hns, fun b o e => k1 b o (of_hideAll _ e), by show (ghostOf s₁.heap lawTabs).objs.size ≤ _; rw [hideAll_size]; exact Nat.le_refl _⟩
  have tn : ∀ P ∈ ([1400, 1407, 1417] : List Addr), h₁.get? P = some (tabObj #[]) ∧ @Ne Nat P c.L ∧ c.h₀.get? P = none := fun P hP => by
    obtain ⟨cc, hc⟩ : ∃ cc, (cc, P) ∈ lawTabs := by
      simp only [List.mem_cons, List.not_mem_nil, or_false] at hP
      rcases hP with rfl | rfl | rfl
      · exact ⟨_, .head _⟩
      · exact ⟨_, .tail _ (.head _)⟩
      · exact ⟨_, .tail _ (.tail _ (.head _))⟩
    have g := (hT _ hc).2
    exact ⟨k1 _ _ g, Nat.ne_of_lt (Heap.lt_size g), hideAll_none _ (List.mem_map_of_mem hc)⟩
  have hS : W.SR c σs (lawG q) { s₁ with heap := h₁, toks := s₁.toks + ([(("script" : Str), (.ref q : Value))] : List (Str × Value)).length } := by
    refine ⟨rfl, ⟨_, hF1, ⟨fun x v e => ?_, fun mf e => by exact ns e⟩⟩, ⟨[(1400, tabObj #[]), (1407, tabObj #[]), (1417, tabObj #[])], .cons (by decide) (.tab fun _ => rfl) (.cons (by decide) (.tab fun _ => rfl) (.cons (by decide) (.tab fun _ => rfl) .nil)), fun p hp => ?_, by decide, fun q hq => nomatch hq⟩, (fun q hq => nomatch hq), (fun i l e => by cases i <;> exact ns e), ⟨(fun e he => nomatch he), (fun p hp => ?_), rfl⟩⟩
    · have e : lkS x [(("script" : Str), SV.obj 3)] = some v := e
      unfold lkS at e
      refine bk (b := sB x "script") (fun q1 => ?_) fun q1 => ?_
      · rw [q1] at e; exact ns e
      · rw [q1] at e
        obtain rfl := ss e
        obtain rfl := sB_iff.mp q1
        exact ⟨.ref q, rfl, .obj (γ := lawG q) (j := 3) (by decide)⟩
    · simp only [c, lawG, List.nil_append, List.append_nil, List.mem_cons, List.not_mem_nil, or_false] at hp
      rcases hp with rfl | rfl | rfl
      · exact tn _ (by simp)
      · exact tn _ (by simp)
      · exact tn _ (by simp)
    · have hp : p ∈ tabsT ++ [(3, q)] := tb ▸ hp
      simp only [tabsT, List.cons_append, List.nil_append, List.mem_cons, List.not_mem_nil, or_false] at hp
      rcases hp with rfl | rfl | rfl | rfl
      · exact ⟨by decide, rfl⟩
      · exact ⟨by decide, rfl⟩
      · exact ⟨by decide, rfl⟩
      · exact ⟨by show 3 < 4; decide, rfl⟩
  have hG : Good W c := ⟨Xg, Tg, F.kind, rfl, ex⟩
  have hkindX : ∀ x, c.env.kindOf x = lkS x lawNames := fun x => by rw [lkS_lookup]; show scope.names.lookup x = _; rw [F.names]; rfl
  have hFm : FmOK W c ⟨lawNames, [], none, none⟩ (lawG q) σs.next σs.doms.length c.env := ⟨F.kind, rfl, rfl, hkindX, (fun x j hj _ => by exact ns hj), (fun t ht => by exact ns ht), (fun _ => rfl), (fun q e => by exact ns e), fun x k e => F.good x k e⟩
  have hR : Room (24 + 61) c := ⟨by show callerA.depth + 1 + 3 * 85 + 8 < recursionLimit; decide, by show callerA.units + 3 + 64 * 85 + 300 < cLine; decide⟩
  have hrun := law_run
  cases hout : (sem C2 24).xs ⟨lawNames, [], none, none⟩ lawBody σs with
  | none => rw [hout] at hrun; exact tf hrun
  | some out =>
    rw [hout] at hrun
    refine (sem_ok (C2_ok B) 24).xs _ _ _ out hout rfl c (lawG q) _ _ rfl hG hFm hS hR _ _ PassesOwn.leaving fun r τ hm γ' s' x S' => ?_
    refine x02 (allRet_mem hrun r τ hm) fun er0 ht => ?_; subst er0
    intro b hb
    cases hb with
    | ret hv =>
    cases hv
    have e : s' = { s₁ with heap := s'.heap, toks := s'.toks } := S'.sm
    refine x12 (S'.fr) fun m' F' _ => ?_
    have tab : ∀ (j : Nat) (P : Addr), j < 3 → (j, P) ∈ tabsT → ∃ ps, s'.heap.get? P = some (tabObj ps) := fun j P hj hP => by
      refine x11 (tabsThere_some ht j hj) fun b hb => ?_
      obtain ⟨_, l, ho, N⟩ := S'.thing (get_of hb)
      have hρ : γ'.ρ j = P := (S'.ou.2.1 (j, P) (by show (j, P) ∈ W.tabs; rw [tb]; exact List.mem_append.mpr (.inl hP))).2
      refine x12 ho.form fun ps er1 _ => ?_; subst er1
      exact ⟨ps, hρ ▸ (N _ (.head _)).1⟩
    have tab' : ∀ qq ∈ lawTabs, ∃ ps, s'.heap.get? qq.2 = some (tabObj ps) := fun qq hq => by
      simp only [lawTabs, List.mem_cons, List.not_mem_nil, or_false] at hq
      rcases hq with rfl | rfl | rfl
      · exact tab 0 _ (by decide) (.head _)
      · exact tab 1 _ (by decide) (.tail _ (.head _))
      · exact tab 2 _ (by decide) (.tail _ (.tail _ (.head _)))
    have old : ∀ b o, s₁.heap.get? b = some o → b ∈ lawTabs.map (·.2) → ∃ ps, (∃ cc, (cc, b) ∈ lawTabs) ∧ o = tabObj #[] ∧ s'.heap.get? b = some (tabObj ps) := fun b o g hb => by
      refine x12 (List.mem_map.mp hb) fun qq hq er2 => ?_; subst er2
      refine x11 (tab' qq hq) fun ps hps => ?_
      exact ⟨ps, ⟨_, hq⟩, Option.some.inj (g.symm.trans (hT qq hq).2), hps⟩
    show Q (.bool true) s'
    rw [e]
    refine ret _ _ ⟨fun b o g => ?_, fun b o g => ?_⟩
    · by_cases hb : b ∈ lawTabs.map (·.2)
      · obtain ⟨ps, ⟨cc, hc⟩, rfl, hps⟩ := old b o g hb
        exact .inr (.inl ⟨table_of (hT _ hc).1, rfl, #[], ps, rfl, by rw [hps]; simp⟩)
      · exact .inl (F'.keep b o (hideAll_get _ g hb))
    · by_cases hb : b ∈ lawTabs.map (·.2)
      · refine x13 (old b o g hb) fun ps _ _ hps => ?_
        exact ⟨_, hps⟩
      · exact ⟨o, F'.keep b o (hideAll_get _ g hb)⟩
theorem law_call {s₁ : Shared} {Q E : Value → Shared → Prop} {mean : ExcName → Option Value} (X : (kn w.params).In s₁.heap) (Tb : ∀ q ∈ ([1400, 1407, 1417] : List Addr), s₁.heap.get? q = some (tabObj #[])) (T : Top p loose mean mg mb s₁.heap) (hL : s₁.heap.IsList q vs.toArray)
    (hv : ∀ v ∈ vs, ∃ i t, v = Value.int i t) (hl : vs.length < 100) (ret : ∀ h' tk', OldK s₁.heap h' → Q (.bool true) { s₁ with heap := h', toks := tk' }) :
    wpAny (model PySem.Challenge.pw_xm0202_01 w) callerA (call (.ref 1425) [.ref q]) Q E s₁ := by
  have hT := tabsAt X Tb
  have Xg := ghost_K hT X (noTabs_kn _)
  have Tg := ghost_top hT T
  exact law_callW (law_base (q := q) Xg Tg hv hl) X hT T.nolimit Xg Tg (ghost_list hT hL) rfl ret
end
end Mine
end
section
open PySem PySem.W PyProof.Rows PySem.Calls
set_option tactic.hygienic false
set_option maxRecDepth 100000
namespace Mine
theorem ints_all : ∀ {vs : List Value} {is : List Int}, IntsAre vs is → (∀ v ∈ vs, ∃ i t, v = Value.int i t) ∧ vs.length = is.length := by
  intro vs is h
  induction h with
  | nil => exact ⟨(fun v h => nomatch h), rfl⟩
  | cons n t _ ih =>
    refine ⟨fun v h => ?_, by simp [ih.2]⟩
    rcases List.mem_cons.mp h with rfl | h
    · exact ⟨_, _, rfl⟩
    · exact ih.1 v h
set_option tactic.hygienic true in
theorem law_walk (q : Program) (loose : List Str) (XP : (Str → Option Value) → Heap → Prop) (d : DefRec) (hdn : d.name = Str.ofString "law") :
    WalkO q loose XP (kmHook kn knKeys knE [1400, 1407, 1417]).says (OpenRow.toRowW (OpenLaw.row PySem.Challenge.rw_xm0202_01)) d [] (fun f vs => PySem.call f vs) := by
  intro w s₀ s₁ mg mb G Y fa o pm cd doc dV kV ho hd hcd hD hmg hg args vals as hpre hlay hrd hwl hlo
  have X := km_in_of Y
  have Tb := km_tabs_of Y
  refine Ground.open G ?_
  intro T B D TE TW
  wrow_args hpre hlay hrd hwl hlo
  rename_i hL _ _ _ hI _ hc _
  have e := mg_of X T.g (lw_g _)
  rw [hdn, e] at hmg
  obtain rfl := Value.ref.inj (Option.some.inj hmg)
  obtain ⟨i1, i2⟩ := ints_all hI
  refine law_call X Tb T hL i1 (by rw [i2]; omega) fun h' tk' O => ?_
  exact ⟨.inl ⟨_, .bool true, [], rfl, fun cls => rfl, .bool true, (by first | kernel_rfl | with_unfolding_all rfl), fun _ => ⟨.nil, fun a h => nomatch h⟩⟩, O, rfl, fun y hy => by rw [show ({ s₁ with heap := h', toks := tk' } : Shared).gens = s₁.gens from rfl, hg] at hy; exact absurd hy (by simp)⟩
end Mine
end
section
open PySem PySem.W PyProof.Rows
set_option maxRecDepth 100000
namespace Mine
noncomputable def law_holds_of.tw14263622492482378666 : Program := PySem.Challenge.pw_xm0202_01
theorem law_holds_of.te14263622492482378666 : PySem.Challenge.pw_xm0202_01 = law_holds_of.tw14263622492482378666 := rfl
set_option Elab.async true in
set_option maxHeartbeats 8000000 in
theorem law_holds_of (left : LeftO pw qv looseN (fun _ => true) (Hook.obs (kmHook kn knKeys knE [1400, 1407, 1417])) (Hook.val (kmHook kn knKeys knE [1400, 1407, 1417])) 12000 true) : PySem.Challenge.rw_xm0202_01.Holds := by
  o_law
  refine holds_open (q := qv) (loose := looseN) (Xt := fun _ => true) (XP := fun _ _ => True) (Yf := Hook.obs (kmHook kn knKeys knE [1400, 1407, 1417])) (Ya := Hook.val (kmHook kn knKeys knE [1400, 1407, 1417])) (YP := Hook.says (kmHook kn knKeys knE [1400, 1407, 1417])) (N := 12000) left (Hook.of (kmHook kn knKeys knE [1400, 1407, 1417])) (Hook.keeps (kmHook kn knKeys knE [1400, 1407, 1417])) (fun s e => trivial) (fun mg h h' x k => trivial) (by rfl) ?h2 ?h3 ?h4 ?h5 ?h6 ?h7 ?h8 ?hw ?hc
  case h2 => rfl
  case h3 => rfl
  case h4 => exact fun s e => recFacts_of (by rfl)
  case h5 => rfl
  case h6 => assumption
  case h7 => decide +kernel
  case h8 => exact ⟨rfl, rfl, rfl, rfl, rfl, by decide +kernel⟩
  case hw => w_witness2
  case hc => exact law_walk _ _ _ _ rfl
end Mine
end
section
open PySem PySem.W PyProof.Rows
set_option maxRecDepth 100000
namespace Mine
theorem map_parts {α β δ ε : Type} {o : Option α} {f : α → β} {g : α → δ} {p q : α → List ε} {t : α → List ε} {a : β} {b : δ} {x y d : List ε} (h1 : o.map (fun r => (f r, t r)) = some (a, d)) (h2 : o.map (fun r => (g r, p r)) = some (b, x)) (h3 : o.map q = some y) :
    o.map (fun r => ((f r, g r), (p r ++ q r, t r))) = some ((a, b), (x ++ y, d)) := by
  cases o with
  | none => exact ns h3
  | some r =>
    cases h1
    cases h2
    cases h3
    rfl
theorem map_cut {α β : Type} (n : Nat) (l : List α) (f : α → β) : (l.take n).map f ++ (l.drop n).map f = l.map f := by rw [← List.map_append, List.take_append_drop]
theorem map_flat {α β δ ε : Type} {o : Option α} {f : α → β × δ} {h : α → ε} {a : β} {b : δ} {x : ε} (k : o.map (fun r => (f r, h r)) = some ((a, b), x)) : o.map (fun r => ((f r).1, (f r).2, h r)) = some (a, b, x) := by
  cases o with
  | none => exact ns k
  | some r =>
    have k := ss k
    rw [Prod.mk.injEq] at k
    show some ((f r).1, (f r).2, h r) = _
    rw [k.1, k.2]
theorem hk_obs (s : Shared) : hk.obs s = ((knKeys.take 70).map s.heap.get? ++ (knKeys.drop 70).map s.heap.get?, tabsT3.map s.heap.get?) := by rw [map_cut]; rfl
theorem hk_val (w : World) : hk.val w = (((kn w.params).take 70).map (fun p => some p.2) ++ ((kn w.params).drop 70).map (fun p => some p.2), tabsT3.map fun _ => some (tabObj #[])) := by rw [map_cut]; rfl
theorem law_left : LeftO pw qv looseN (fun _ => true) (Hook.obs (kmHook kn knKeys knE [1400, 1407, 1417])) (Hook.val (kmHook kn knKeys knE [1400, 1407, 1417])) 12000 true := by
  refine LeftO.compact "special-get-raises" pw_open (by decide) pw_fence bt_is bt_size fun w b => ?_
  funext os
  rw [eSeg, eTab]
  unfold looksAt
  rw [eSeen]
  have key : (topRunF w b os).map (fun r => (lookF w b r.2.1.abs, hk.obs r.2.1.abs)) = some ((true, openGood qv looseN), hk.val (rowW w b)) := by
    simp only [hk_obs, hk_val]
    cases b with
    | false => exact map_parts (congrFun (runA_f w) os) (congrFun (runB_f w) os) (congrFun (runC_f w) os)
    | true => exact map_parts (congrFun (runA_t w) os) (congrFun (runB_t w) os) (congrFun (runC_t w) os)
  have := map_flat key
  exact this
end Mine
theorem PySem.Challenge.cw_xm0202_01_holds : PySem.Challenge.rw_xm0202_01.Holds :=
  Mine.law_holds_of Mine.law_left
end
